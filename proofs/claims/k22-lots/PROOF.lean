import PyProof.Rows.All
import Wide.All
import OpenK.AllK
import Wide.FinOn
import HandS.ForMost
import HandS.ForExc
import HandS.Defaults
import HandS.DictComp
import HandS.IsInst
import HandS.Flow
import HandS.Strs
import HandS.TupLe
import HandS.TupAny
import HandS.Deep
import HandS.Zip
import HandS.Rev
import HandS.RevRange
import HandS.Remove
import HandS.SetKeys
import HandS.Style
import HandS.Lambda
import HandS.SortKw
import HandS.Conv
import KE.DataMinMax
import KE.SortKeyHeap
import KE.GoesEnum
import HandS.HeadHook1
import KE.KStateDown
import HandS.Head0
import HandS.Head1
import HandS.Head2
import HandS.HeadEnd
import HandS.HeadHook2
import PySem.Challenge.RW_shoplands_k22_whole_lots
section
set_option Elab.async false
set_option linter.all false
set_option maxRecDepth 100000
set_option maxHeartbeats 4000000
set_option autoImplicit false
/-! DL1: data values, memory, the relation to the hand layer's heap, the judgements. -/
namespace DL
open PySem PySem.Spec PyProof.Rows L2

inductive DV where
  | non | bl (b : Bool) | int (i : Int) | str (x : Str) | tup (ds : List DV) | ref (i : Nat)
inductive MO where
  | lst (ds : List DV)
  | rol (ds : List DV)
  | dic (kvs : List (Key × DV))
  | rod (kvs : List (Key × DV))
  | ins (C : Addr) (fs : List (Str × DV))
abbrev Mem := List MO
abbrev Env := List (Option DV)
def MO.mut : MO → Prop
  | .rol _ => False
  | _ => True

/-- an exception: its class, its fields -/
structure DX where
  cls : Value
  fs : List (Str × DV)
inductive Out (α : Type) where
  | ok (a : α) (m : Mem)
  | exc (x : DX) (m : Mem)
  | bad
def Out.bind {α β : Type} (o : Out α) (f : α → Mem → Out β) : Out β := match o with
  | .ok a m => f a m
  | .exc x m => .exc x m
  | .bad => .bad
@[simp] theorem Out.bind_ok {α β : Type} (a : α) (m : Mem) (f : α → Mem → Out β) : (Out.ok a m).bind f = f a m := id rfl
@[simp] theorem Out.bind_exc {α β : Type} (x : DX) (m : Mem) (f : α → Mem → Out β) : (Out.exc x m).bind f = .exc x m := id rfl
@[simp] theorem Out.bind_bad {α β : Type} (f : α → Mem → Out β) : (Out.bad : Out α).bind f = .bad := id rfl
abbrev DE := Env → Mem → Out DV
abbrev DT := Env → Mem → Out Bool
abbrev DA := Env → Mem → Out (List DV)
inductive Fl where
  | nx (env : Env) | bk (env : Env) | ct (env : Env) | rt (d : DV)
abbrev DS := Env → Mem → Out Fl
abbrev DG := DV → Env → Mem → Out Env
abbrev DGs := List DV → Env → Mem → Out Env
abbrev DF := List DV → Mem → Out DV

/-! ### the relation -/
mutual
inductive RV (K : PySem.W.Frag) (μ : List Addr) (H : Hp) : DV → V → Prop
  | non : RV K μ H .non .non
  | bl (b : Bool) : RV K μ H (.bl b) (.bl b)
  | int (i : Int) : RV K μ H (.int i) (.int i)
  | str (x : Str) : RV K μ H (.str x) (.str x)
  | tup {a : Addr} {xs : List V} {ds : List DV} : SqT K H a xs → RVs K μ H ds xs → RV K μ H (.tup ds) (.ref a)
  | ref {i : Nat} {a : Addr} : μ[i]? = some a → RV K μ H (.ref i) (.ref a)
inductive RVs (K : PySem.W.Frag) (μ : List Addr) (H : Hp) : List DV → List V → Prop
  | nil : RVs K μ H [] []
  | cons {d : DV} {v : V} {ds : List DV} {vs : List V} : RV K μ H d v → RVs K μ H ds vs → RVs K μ H (d :: ds) (v :: vs)
end

/-- later: more addresses, all tuples stand -/
structure Ext0 (K : PySem.W.Frag) (μ : List Addr) (H : Hp) (μ' : List Addr) (H' : Hp) : Prop where
  pre : ∀ (i : Nat) (a : Addr), μ[i]? = some a → μ'[i]? = some a
  tups : ∀ (a : Addr) (xs : List V), SqT K H a xs → SqT K H' a xs
/-- .. what is locked too -/
structure Ext (K : PySem.W.Frag) (μ : List Addr) (H : Hp) (μ' : List Addr) (H' : Hp) : Prop extends Ext0 K μ H μ' H' where
  frz : ∀ (a : Addr) (o : Obj) (u : HO), H a = some (.frz o u) → H' a = some (.frz o u)
variable {K : PySem.W.Frag} {μ μ' μ'' : List Addr} {H H' H'' : Hp} {W : XK}
theorem Ext.refl : Ext K μ H μ H := ⟨⟨fun _ _ h => h, fun _ _ h => h⟩, fun _ _ _ h => h⟩
theorem Ext.trans (a : Ext K μ H μ' H') (b : Ext K μ' H' μ'' H'') : Ext K μ H μ'' H'' := ⟨⟨fun i x h => b.pre i x (a.pre i x h), fun x xs h => b.tups x xs (a.tups x xs h)⟩, fun x o u h => b.frz x o u (a.frz x o u h)⟩
mutual
theorem RV.mono0 (e : Ext0 K μ H μ' H') : ∀ (d : DV) (v : V), RV K μ H d v → RV K μ' H' d v
  | .non, _, .non => .non
  | .bl _, _, .bl b => .bl b
  | .int _, _, .int i => .int i
  | .str _, _, .str x => .str x
  | .tup ds, _, .tup q r => .tup (e.tups _ _ q) (RVs.mono0 e ds _ r)
  | .ref _, _, .ref h => .ref (e.pre _ _ h)
theorem RVs.mono0 (e : Ext0 K μ H μ' H') : ∀ (ds : List DV) (vs : List V), RVs K μ H ds vs → RVs K μ' H' ds vs
  | [], _, .nil => .nil
  | d :: ds, _, .cons a b => .cons (RV.mono0 e d _ a) (RVs.mono0 e ds _ b)
end
theorem RV.mono {d : DV} {v : V} (r : RV K μ H d v) (e : Ext K μ H μ' H') : RV K μ' H' d v := r.mono0 e.toExt0
theorem RVs.mono {d : List DV} {v : List V} (r : RVs K μ H d v) (e : Ext K μ H μ' H') : RVs K μ' H' d v := r.mono0 e.toExt0
theorem RVs.length : ∀ {ds : List DV} {vs : List V}, RVs K μ H ds vs → ds.length = vs.length
  | [], _, .nil => rfl
  | _ :: _, _, .cons _ b => by simp [RVs.length b]
theorem RVs.get : ∀ {ds : List DV} {vs : List V} {i : Nat} {d : DV}, RVs K μ H ds vs → ds[i]? = some d → ∃ v, vs[i]? = some v ∧ RV K μ H d v
  | [], _, _, _, .nil, e => by simp at e
  | _ :: _, _, 0, _, .cons a _, e => by simp at e; subst e; exact ⟨_, rfl, a⟩
  | _ :: _, _, i + 1, d, .cons _ b, e => by
    obtain ⟨v, h1, h2⟩ := RVs.get (i := i) (d := d) b (by simpa using e)
    exact ⟨v, by simpa using h1, h2⟩
theorem RVs.get' : ∀ {ds : List DV} {vs : List V} {i : Nat} {v : V}, RVs K μ H ds vs → vs[i]? = some v → ∃ d, ds[i]? = some d ∧ RV K μ H d v
  | [], _, _, _, .nil, e => by simp at e
  | _ :: _, _, 0, _, .cons a _, e => by simp at e; subst e; exact ⟨_, rfl, a⟩
  | _ :: _, _, i + 1, v, .cons _ b, e => by
    obtain ⟨d, h1, h2⟩ := RVs.get' (i := i) (v := v) b (by simpa using e)
    exact ⟨d, by simpa using h1, h2⟩
theorem RVs.append : ∀ {ds es : List DV} {vs us : List V}, RVs K μ H ds vs → RVs K μ H es us → RVs K μ H (ds ++ es) (vs ++ us)
  | [], _, _, _, .nil, r => r
  | _ :: _, _, _, _, .cons a b, r => .cons a (RVs.append b r)
theorem RVs.set {d : DV} {v : V} (r : RV K μ H d v) : ∀ {ds : List DV} {vs : List V} (i : Nat), RVs K μ H ds vs → RVs K μ H (ds.set i d) (vs.set i v)
  | [], _, _, .nil => .nil
  | _ :: _, _, 0, .cons _ b => .cons r b
  | _ :: _, _, i + 1, .cons a b => .cons a (RVs.set r i b)
theorem RVs.take : ∀ {ds : List DV} {vs : List V} (n : Nat), RVs K μ H ds vs → RVs K μ H (ds.take n) (vs.take n)
  | _, _, 0, _ => by simpa using RVs.nil
  | [], _, _ + 1, .nil => .nil
  | _ :: _, _, n + 1, .cons a b => .cons a (RVs.take n b)
theorem RVs.drop : ∀ {ds : List DV} {vs : List V} (n : Nat), RVs K μ H ds vs → RVs K μ H (ds.drop n) (vs.drop n)
  | _, _, 0, r => r
  | [], _, _ + 1, .nil => .nil
  | _ :: _, _, n + 1, .cons _ b => RVs.drop n b
theorem RVs.eraseIdx : ∀ {ds : List DV} {vs : List V} (n : Nat), RVs K μ H ds vs → RVs K μ H (ds.eraseIdx n) (vs.eraseIdx n)
  | [], _, _, .nil => .nil
  | _ :: _, _, 0, .cons _ b => b
  | _ :: _, _, n + 1, .cons a b => .cons a (RVs.eraseIdx n b)
theorem RVs.reverse : ∀ {ds : List DV} {vs : List V}, RVs K μ H ds vs → RVs K μ H ds.reverse vs.reverse
  | [], _, .nil => .nil
  | _ :: _, _, .cons a b => by
    rw [List.reverse_cons, List.reverse_cons]
    exact (RVs.reverse b).append (.cons a .nil)

/-- a list of the written part -/
abbrev KL (K : PySem.W.Frag) (a : Addr) (xs : List V) : Prop := SqL K (fun _ => none) a xs
theorem KL.sq {a : Addr} {xs : List V} (h : KL K a xs) : SqL K H a xs := by
  rcases h with h | h
  · rcases h with h | ⟨o, h⟩ <;> cases h
  · exact .inr h

/-- a dict's pairs -/
abbrev RKV (K : PySem.W.Frag) (μ : List Addr) (H : Hp) : List (Key × DV) → List (Key × V) → Prop := Paired fun p q => p.1 = q.1 ∧ RV K μ H p.2 q.2
theorem rkv_mono {kvs : List (Key × DV)} {kk : List (Key × V)} (r : RKV K μ H kvs kk) (e : Ext0 K μ H μ' H') : RKV K μ' H' kvs kk := Paired.mapP r fun _ _ h => ⟨h.1, h.2.mono0 e⟩
/-- what stands at a, by its content -/
def RO (K : PySem.W.Frag) (μ : List Addr) (H : Hp) (a : Addr) : MO → Prop
  | .lst ds => ∃ xs, H a = some (.lst xs) ∧ RVs K μ H ds xs
  | .rol ds => ∃ xs, ((∃ o, H a = some (.frz o (.lst xs))) ∨ KL K a xs) ∧ RVs K μ H ds xs
  | .rod kvs => ∃ (o : Obj) (kk : List (Key × V)), H a = some (.frz o (.dK kk)) ∧ RKV K μ H kvs kk
  | .dic kvs => ∃ kk : List (Key × V), H a = some (.dK kk) ∧ RKV K μ H kvs kk
  | .ins C fs => ∃ dx fv, H a = some (.ins C dx fv) ∧ fs.map (·.1) = fv.map (·.1) ∧ RVs K μ H (fs.map (·.2)) (fv.map (·.2))
theorem RO.mono {a : Addr} {o : MO} (e : Ext0 K μ H μ' H') (ha : H' a = H a) (r : RO K μ H a o) : RO K μ' H' a o := by
  cases o with
  | lst ds => obtain ⟨xs, h, q⟩ := r; exact ⟨xs, ha.trans h, q.mono0 e⟩
  | rol ds => obtain ⟨xs, h, q⟩ := r; exact ⟨xs, by rw [ha]; exact h, q.mono0 e⟩
  | rod kvs => obtain ⟨o, kk, h, q1⟩ := r; exact ⟨o, kk, ha.trans h, rkv_mono q1 e⟩
  | dic kvs => obtain ⟨kk, h, q1⟩ := r; exact ⟨kk, ha.trans h, rkv_mono q1 e⟩
  | ins C fs => obtain ⟨dx, fv, h, q1, q2⟩ := r; exact ⟨dx, fv, ha.trans h, q1, q2.mono0 e⟩
/-- one that is not read-only is tracked, and is no tuple, no locked list -/
def Bare (u : HO) : Prop := (∀ xs, u ≠ .tup xs) ∧ (∀ ob xs, u ≠ .frz ob (.tup xs)) ∧ ∀ ob xs, u ≠ .frz ob (.lst xs)
theorem RO.trk {a : Addr} {o : MO} (r : RO K μ H a o) (hm : o.mut) : ∃ u, H a = some u ∧ Bare u := by
  cases o with
  | lst ds => obtain ⟨xs, h, _⟩ := r; exact ⟨_, h, (by simp), (by simp), (by simp)⟩
  | rol ds => exact hm.elim
  | rod kvs => obtain ⟨o, kk, h, _⟩ := r; exact ⟨_, h, (by simp), (by simp), (by simp)⟩
  | dic kvs => obtain ⟨kk, h, _⟩ := r; exact ⟨_, h, (by simp), (by simp), (by simp)⟩
  | ins C fs => obtain ⟨dx, fv, h, _⟩ := r; exact ⟨_, h, (by simp), (by simp), (by simp)⟩

structure Rel (K : PySem.W.Frag) (m : Mem) (μ : List Addr) (H : Hp) : Prop where
  len : μ.length = m.length
  obj : ∀ (i : Nat) (a : Addr) (o : MO), μ[i]? = some a → m[i]? = some o → RO K μ H a o
  inj : ∀ (i j : Nat) (a : Addr) (o o' : MO), μ[i]? = some a → μ[j]? = some a → m[i]? = some o → m[j]? = some o' → o.mut → o'.mut → i = j

variable {m m' : Mem}
theorem Rel.at_ (R : Rel K m μ H) {i : Nat} {o : MO} (h : m[i]? = some o) : ∃ a, μ[i]? = some a ∧ RO K μ H a o := by
  have hi : i < μ.length := by rw [R.len]; exact (List.getElem?_eq_some_iff.mp h).1
  exact ⟨μ[i], by simp [hi], R.obj i _ o (by simp [hi]) h⟩

/-- the same memory over a heap in which the tracked ones stand as before -/
theorem Rel.over (R : Rel K m μ H) (t : ∀ a xs, SqT K H a xs → SqT K H' a xs) (k : ∀ a u, H a = some u → H' a = some u) : Rel K m μ H' where
  len := R.len
  inj := R.inj
  obj i a o h1 h2 := by
    have r := R.obj i a o h1 h2
    have e : Ext0 K μ H μ H' := ⟨fun _ _ h => h, t⟩
    cases o with
    | lst ds => obtain ⟨xs, h, q⟩ := r; exact ⟨xs, k _ _ h, q.mono0 e⟩
    | rol ds =>
      obtain ⟨xs, h, q⟩ := r
      refine ⟨xs, ?_, q.mono0 e⟩
      rcases h with ⟨o, h⟩ | h
      · exact .inl ⟨o, k _ _ h⟩
      · exact .inr h
    | rod kvs => obtain ⟨o, kk, h, q1⟩ := r; exact ⟨o, kk, k _ _ h, rkv_mono q1 e⟩
    | dic kvs => obtain ⟨kk, h, q1⟩ := r; exact ⟨kk, k _ _ h, rkv_mono q1 e⟩
    | ins C fs => obtain ⟨dx, fv, h, q1, q2⟩ := r; exact ⟨dx, fv, k _ _ h, q1, q2.mono0 e⟩

theorem same_upd {p : Addr} {o : HO} (hp : H p = none) : ∀ a u, H a = some u → upd H p o a = some u := fun a u h => by
  rw [upd_ne]; exact h
  rintro rfl; rw [hp] at h; cases h
theorem sqT_keep {k : ∀ a u, H a = some u → H' a = some u} : ∀ a xs, SqT K H a xs → SqT K H' a xs := fun a xs h => by
  rcases h with (h | ⟨o, h⟩) | h
  · exact .inl (.inl (k _ _ h))
  · exact .inl (.inr ⟨o, k _ _ h⟩)
  · exact .inr h
theorem ext_fresh {p : Addr} {o : HO} (hp : H p = none) : Ext K μ H μ (upd H p o) := ⟨⟨fun _ _ h => h, sqT_keep (k := same_upd hp)⟩, fun a o u h => same_upd hp a _ h⟩
theorem Rel.fresh (R : Rel K m μ H) {p : Addr} {o : HO} (hp : H p = none) : Rel K m μ (upd H p o) := R.over (sqT_keep (k := same_upd hp)) (same_upd hp)

theorem getElem?_snoc {α : Type} {l : List α} {x : α} {i : Nat} {y : α} (h : (l ++ [x])[i]? = some y) : l[i]? = some y ∨ (i = l.length ∧ y = x) := by
  rcases Nat.lt_trichotomy i l.length with q | q | q
  · rw [List.getElem?_append_left q] at h; exact .inl h
  · subst q; simp at h; exact .inr ⟨rfl, h.symm⟩
  · rw [List.getElem?_eq_none (by simp; omega)] at h; cases h
theorem getElem?_snoc_old {α : Type} {l : List α} {x : α} {i : Nat} {y : α} (h : l[i]? = some y) : (l ++ [x])[i]? = some y := by
  rw [List.getElem?_append_left (List.getElem?_eq_some_iff.mp h).1]; exact h
theorem ext_snoc {p : Addr} : Ext K μ H (μ ++ [p]) H := ⟨⟨fun _ _ h => getElem?_snoc_old h, fun _ _ h => h⟩, fun _ _ _ h => h⟩

/-- a new object, tracked at p -/
theorem Rel.alloc (R : Rel K m μ H) {p : Addr} {o : MO} {u : HO} (hp : H p = none) (new : RO K (μ ++ [p]) (upd H p u) p o) : Rel K (m ++ [o]) (μ ++ [p]) (upd H p u) where
  len := by simp [R.len]
  obj i a o' h1 h2 := by
    rcases getElem?_snoc h1 with h1 | ⟨e1, e2⟩
    · rcases getElem?_snoc h2 with h2 | ⟨e1, e2⟩
      · have r := (R.fresh (o := u) hp).obj i a o' h1 h2
        exact r.mono ext_snoc.toExt0 rfl
      · have := (List.getElem?_eq_some_iff.mp h1).1
        rw [R.len] at this; omega
    · subst e1 e2
      rcases getElem?_snoc h2 with h2 | ⟨e1, e2⟩
      · have := (List.getElem?_eq_some_iff.mp h2).1
        rw [R.len] at this; omega
      · subst e2; exact new
  inj i j a o1 o2 h1 h2 g1 g2 m1 m2 := by
    have old : ∀ {k : Nat} {b : Addr} {ob : MO}, μ[k]? = some b → m[k]? = some ob → ob.mut → b ≠ p := fun {k b ob} q1 q2 q3 e => by
      obtain ⟨u', hu, _⟩ := (R.obj k b ob q1 q2).trk q3
      rw [e, hp] at hu; cases hu
    rcases getElem?_snoc h1 with h1 | ⟨e1, e2⟩ <;> rcases getElem?_snoc h2 with h2 | ⟨f1, f2⟩
    · rcases getElem?_snoc g1 with g1 | ⟨k1, k2⟩ <;> rcases getElem?_snoc g2 with g2 | ⟨l1, l2⟩
      · exact R.inj i j a o1 o2 h1 h2 g1 g2 m1 m2
      · have := (List.getElem?_eq_some_iff.mp h2).1; rw [R.len] at this; omega
      · have := (List.getElem?_eq_some_iff.mp h1).1; rw [R.len] at this; omega
      · omega
    · rcases getElem?_snoc g1 with g1 | ⟨k1, k2⟩
      · exact absurd f2 (old h1 g1 m1)
      · have := (List.getElem?_eq_some_iff.mp h1).1; rw [R.len] at this; omega
    · rcases getElem?_snoc g2 with g2 | ⟨k1, k2⟩
      · exact absurd e2 (old h2 g2 m2)
      · have := (List.getElem?_eq_some_iff.mp h2).1; rw [R.len] at this; omega
    · omega

theorem ext_write0 {a : Addr} {u u' : HO} (ha : H a = some u) (hb : Bare u) : Ext0 K μ H μ (upd H a u') := by
  refine ⟨fun _ _ h => h, fun b xs h => ?_⟩
  rcases h with (h | ⟨o, h⟩) | h
  · refine .inl (.inl ?_)
    rw [upd_ne]; exact h
    rintro rfl; rw [ha] at h; exact hb.1 _ (Option.some.inj h)
  · refine .inl (.inr ⟨o, ?_⟩)
    rw [upd_ne]; exact h
    rintro rfl; rw [ha] at h; exact hb.2.1 _ _ (Option.some.inj h)
  · exact .inr h
theorem ext_write {a : Addr} {u u' : HO} (ha : H a = some u) (hb : Bare u) (hf : ∀ o w, u ≠ .frz o w) : Ext K μ H μ (upd H a u') :=
  ⟨ext_write0 ha hb, fun b o w h => by
    rw [upd_ne]; exact h
    rintro rfl; rw [ha] at h; exact hf _ _ (Option.some.inj h)⟩
/-- an object written -/
theorem Rel.write (R : Rel K m μ H) {i : Nat} {a : Addr} {o o' : MO} {u : HO} (hi : μ[i]? = some a) (hm : m[i]? = some o) (mo : o.mut) (new : RO K μ (upd H a u) a o') (mo' : o'.mut) : Rel K (m.set i o') μ (upd H a u) := by
  obtain ⟨u0, hu, nb⟩ := (R.obj i a o hi hm).trk mo
  have e : Ext0 K μ H μ (upd H a u) := ext_write0 hu nb
  have il : i < m.length := (List.getElem?_eq_some_iff.mp hm).1
  refine ⟨by rw [List.length_set]; exact R.len, fun j b ob h1 h2 => ?_, fun j k b o1 o2 h1 h2 g1 g2 m1 m2 => ?_⟩
  · by_cases hj : i = j
    · subst hj
      rw [List.getElem?_set_self il] at h2
      cases h2
      rw [hi] at h1; cases h1
      exact new
    · rw [List.getElem?_set_ne hj] at h2
      have r := R.obj j b ob h1 h2
      by_cases hb : b = a
      · subst hb
        cases ob with
        | rol ds =>
          obtain ⟨xs, h, q⟩ := r
          refine ⟨xs, ?_, q.mono0 e⟩
          rcases h with ⟨oo, h⟩ | h
          · rw [hu] at h; exact absurd (Option.some.inj h) (nb.2.2 _ _)
          · exact .inr h
        | lst ds => exact absurd (R.inj i j b o _ hi h1 hm h2 mo trivial) hj
        | dic ds => exact absurd (R.inj i j b o _ hi h1 hm h2 mo trivial) hj
        | rod ds => exact absurd (R.inj i j b o _ hi h1 hm h2 mo trivial) hj
        | ins C fs => exact absurd (R.inj i j b o _ hi h1 hm h2 mo trivial) hj
      · exact r.mono e (upd_ne hb)
  · have look : ∀ {x : Nat} {ox : MO}, (m.set i o')[x]? = some ox → ox.mut → ∃ oy, m[x]? = some oy ∧ oy.mut := fun {x ox} g mx => by
      by_cases hx : i = x
      · subst hx; exact ⟨o, hm, mo⟩
      · rw [List.getElem?_set_ne hx] at g; exact ⟨_, g, mx⟩
    obtain ⟨p1, q1, r1⟩ := look g1 m1
    obtain ⟨p2, q2, r2⟩ := look g2 m2
    exact R.inj j k b p1 p2 h1 h2 q1 q2 r1 r2
end DL

end
section
set_option Elab.async false
set_option linter.all false
set_option maxRecDepth 100000
set_option maxHeartbeats 4000000
set_option autoImplicit false
/-! DL2: judgements; names, constants, operators, displays, tests, statements. -/
namespace DL
open PySem PySem.Spec L2

/-- an exception's fields -/
def XR (K : PySem.W.Frag) (μ : List Addr) (H : Hp) (x : DX) (a : Option Addr) : Prop :=
  ∃ dd fv, a = some dd ∧ H dd = some (.xd fv) ∧ x.fs.map (·.1) = fv.map (·.1) ∧ RVs K μ H (x.fs.map (·.2)) (fv.map (·.2))

/-- what is wanted behind an outcome -/
def wp {α β : Type} (K : PySem.W.Frag) (W : XK) (R : List Addr → Hp → α → β → Prop) (μ : List Addr) (H : Hp) (o : Out α) (Q : β → Hp → Prop) : Prop := match o with
  | .ok a m' => ∀ b μ' H', Ext K μ H μ' H' → Rel K m' μ' H' → R μ' H' a b → Q b H'
  | .exc x m' => ∀ a μ' H', Ext K μ H μ' H' → Rel K m' μ' H' → XR K μ' H' x a → W x.cls a H'
  | .bad => False

section
variable {α β γ δ : Type} {K : PySem.W.Frag} {W : XK} {R : List Addr → Hp → α → β → Prop} {R' : List Addr → Hp → γ → δ → Prop} {μ μ' : List Addr} {H H' : Hp}
theorem wp.later {o : Out α} {Q : β → Hp → Prop} (e : Ext K μ H μ' H') (h : wp K W R μ H o Q) : wp K W R μ' H' o Q := by
  cases o with
  | ok a m => exact fun b μ2 H2 e2 => h b μ2 H2 (e.trans e2)
  | exc x m => exact fun a μ2 H2 e2 => h a μ2 H2 (e.trans e2)
  | bad => exact h
theorem wp.mono {o : Out α} {Q Q' : β → Hp → Prop} (h : wp K W R μ H o Q) (k : ∀ b H', Q b H' → Q' b H') : wp K W R μ H o Q' := by
  cases o with
  | ok a m => exact fun b μ2 H2 e2 r1 r2 => k _ _ (h b μ2 H2 e2 r1 r2)
  | exc x m => exact h
  | bad => exact h
/-- what stands behind the first part -/
def Mid (K : PySem.W.Frag) (W : XK) (R : List Addr → Hp → α → β → Prop) (R' : List Addr → Hp → γ → δ → Prop) (μ : List Addr) (H : Hp) (f : α → Mem → Out γ) (Q : δ → Hp → Prop) (b : β) (H1 : Hp) : Prop :=
  ∃ a m' μ', Ext K μ H μ' H1 ∧ Rel K m' μ' H1 ∧ R μ' H1 a b ∧ wp K W R' μ' H1 (f a m') Q
theorem wp.bind {o : Out α} {f : α → Mem → Out γ} {Q : δ → Hp → Prop} (h : wp K W R' μ H (o.bind f) Q) : wp K W R μ H o (Mid K W R R' μ H f Q) := by
  cases o with
  | ok a m => exact fun b μ2 H2 e2 r1 r2 => ⟨a, m, μ2, e2, r1, r2, wp.later e2 h⟩
  | exc x m => exact h
  | bad => exact h
theorem wp.ok {a : α} {m : Mem} {b : β} {Q : β → Hp → Prop} (h : wp K W R μ H (.ok a m) Q) (r1 : Rel K m μ H) (r2 : R μ H a b) : Q b H := h b μ H Ext.refl r1 r2
end

/-- slots -/
structure RE (K : PySem.W.Frag) (μ : List Addr) (H : Hp) (env : Env) (σ : St) : Prop where
  len : env.length = σ.length
  get : ∀ (i : Nat) (d : DV), env[i]? = some (some d) → ∃ v, σ[i]? = some (some v) ∧ RV K μ H d v
section
variable {K : PySem.W.Frag} {μ μ' : List Addr} {H H' : Hp} {env : Env} {σ : St}
theorem RE.mono (r : RE K μ H env σ) (e : Ext K μ H μ' H') : RE K μ' H' env σ := ⟨r.len, fun i d h => let ⟨v, h1, h2⟩ := r.get i d h; ⟨v, h1, h2.mono e⟩⟩
theorem RE.set (r : RE K μ H env σ) (i : Nat) {d : DV} {v : V} (h : RV K μ H d v) : RE K μ H (env.set i (some d)) (σ.set i (some v)) := by
  refine ⟨by simp [r.len], fun j e q => ?_⟩
  by_cases hj : i = j
  · subst hj
    have hl : i < env.length := by
      have := (List.getElem?_eq_some_iff.mp q).1
      simpa using this
    rw [List.getElem?_set_self hl] at q
    cases q
    exact ⟨v, by rw [List.getElem?_set_self (by rw [← r.len]; exact hl)], h⟩
  · rw [List.getElem?_set_ne hj] at q
    obtain ⟨u, h1, h2⟩ := r.get j e q
    exact ⟨u, by rw [List.getElem?_set_ne hj]; exact h1, h2⟩
theorem RE.kill (r : RE K μ H env σ) (i : Nat) : RE K μ H (env.set i none) σ := by
  refine ⟨by simp [r.len], fun j e q => ?_⟩
  by_cases hj : i = j
  · subst hj
    have hl : i < env.length := by
      have := (List.getElem?_eq_some_iff.mp q).1
      simpa using this
    rw [List.getElem?_set_self hl] at q
    cases q
  · rw [List.getElem?_set_ne hj] at q
    exact r.get j e q
end

/-- the static part of a context -/
structure Cn where
  P : Program
  w : World
  K : PySem.W.Frag
  mg : Str → Option Value
  base : Heap
  N : List Str
  sc : Scope
  k : Nat
  W : XK
  df : Bool
structure Cn.Is (C : Cn) (X : Cx) : Prop where
  P : X.prog = C.P
  w : X.w = C.w
  K : X.K = C.K
  mg : X.mg = C.mg
  base : X.base = C.base
  N : X.N = C.N
  nd : C.N.Nodup
  sc : X.env.scope = C.sc
  calm : X.calm = true
  room : Room C.k X.A
  po : PassesOwn (model X.prog X.w) X.A X.env X.xe
  px : Passes (L2.CX X.prog X.w) X C.W
  fn : C.df = true → ∀ x, X.fn x = true

structure Sd (K : PySem.W.Frag) (W : XK) (t : TE) (D : DE) : Prop where
  run : ∀ env m μ σ H Q, Rel K m μ H → RE K μ H env σ → wp K W (RV K) μ H (D env m) Q → t σ H Q
structure SdT (K : PySem.W.Frag) (W : XK) (t : TT) (D : DT) : Prop where
  run : ∀ env m μ σ H Q, Rel K m μ H → RE K μ H env σ → wp K W (fun _ _ a b => a = b) μ H (D env m) Q → t σ H Q
structure SdA (K : PySem.W.Frag) (W : XK) (t : TA) (D : DA) : Prop where
  run : ∀ env m μ σ H Q, Rel K m μ H → RE K μ H env σ → wp K W (RVs K) μ H (D env m) Q → t σ H Q
def SE (C : Cn) (e : Expr) (D : DE) : Prop := ∃ t, (∀ X, C.Is X → PE X e t) ∧ Sd C.K C.W t D
def ST (C : Cn) (e : Expr) (D : DT) : Prop := ∃ t, (∀ X, C.Is X → PT X e t) ∧ SdT C.K C.W t D
def SW (C : Cn) (e : Expr) (D : DT) : Prop := ∃ t, (∀ X, C.Is X → PW X e t) ∧ SdT C.K C.W t D
def SA (C : Cn) (es : List Expr) (D : DA) : Prop := ∃ t, (∀ X, C.Is X → PA X es t) ∧ SdA C.K C.W t D

variable {C : Cn} {a b c e : Expr} {es : List Expr} {pos : Pos} {A B : DE}

/-! ### names, constants -/
def eVar (i : Nat) : DE := fun env m => match env[i]? with
  | some (some d) => .ok d m
  | _ => .bad
def eC (d : DV) : DE := fun _ m => .ok d m
theorem se_var (i : Nat) {x : Str} (hN : C.N[i]? = some x := by rfl) (hv : Vis C.sc x := by first | exact Or.inl rfl | exact Or.inr (Or.inl rfl) | exact Or.inr (Or.inr rfl)) (hd : (x == ("__debug__" : Str)) = false := by decide)
    (hcd : (x == ("__classdict__" : Str)) = false := by decide) : SE C (.Name x pos) (eVar i) := by
  refine ⟨tVar i, fun X h => pe_var (by rw [h.N]; exact hN) (by rw [h.sc]; exact hv) hd hcd, ⟨fun env m μ σ H Q R E h => ?_⟩⟩
  unfold eVar at h
  cases q : env[i]? with
  | none => rw [q] at h; exact h.elim
  | some o =>
    cases o with
    | none => rw [q] at h; exact h.elim
    | some d =>
      rw [q] at h
      obtain ⟨v, h1, h2⟩ := E.get i d q
      exact ⟨v, h1, h.ok R h2⟩
theorem sd_c {K : PySem.W.Frag} {W : XK} {v : V} {d : DV} (h : ∀ μ H, RV K μ H d v) : Sd K W (tC v) (eC d) := ⟨fun env m μ σ H Q R E q => wp.ok q R (h μ H)⟩
theorem se_int {i j} : SE C (.Constant (.int i) j pos) (eC (.int i)) := ⟨tC (.int i), fun X h => pe_int, sd_c fun _ _ => .int i⟩
theorem se_bl {b j} : SE C (.Constant (.bool b) j pos) (eC (.bl b)) := ⟨tC (.bl b), fun X h => pe_bl, sd_c fun _ _ => .bl b⟩
theorem se_non {j} : SE C (.Constant .none j pos) (eC .non) := ⟨tC .non, fun X h => pe_non, sd_c fun _ _ => .non⟩
theorem se_str {x j} : SE C (.Constant (.str x) j pos) (eC (.str x)) := ⟨tC (.str x), fun X h => pe_str, sd_c fun _ _ => .str x⟩

/-! ### operators -/
abbrev D2 := DV → DV → Mem → Out DV
abbrev D1 := DV → Mem → Out DV
def eBin (f : D2) (A B : DE) : DE := fun env m => (A env m).bind fun x m1 => (B env m1).bind fun y m2 => f x y m2
def eUn (f : D1) (A : DE) : DE := fun env m => (A env m).bind f
def BinD (K : PySem.W.Frag) (W : XK) (r : R2) (f : D2) : Prop := ∀ μ H m x y dx dy Q, Rel K m μ H → RV K μ H dx x → RV K μ H dy y → wp K W (RV K) μ H (f dx dy m) Q → r x y H Q
def UnD (K : PySem.W.Frag) (W : XK) (r : V → Hp → VK → Prop) (f : D1) : Prop := ∀ μ H m x dx Q, Rel K m μ H → RV K μ H dx x → wp K W (RV K) μ H (f dx m) Q → r x H Q
theorem sd_bin {K : PySem.W.Frag} {W : XK} {r : R2} {f : D2} {ta tb : TE} (hf : BinD K W r f) (ha : Sd K W ta A) (hb : Sd K W tb B) : Sd K W (tOp r ta tb) (eBin f A B) := by
  refine ⟨fun env m μ σ H Q R E h => ?_⟩
  refine ha.run env m μ σ H _ R E (wp.mono (wp.bind h) fun x H1 ⟨dx, m1, μ1, e1, R1, r1, h1⟩ => ?_)
  refine hb.run env m1 μ1 σ H1 _ R1 (E.mono e1) (wp.mono (wp.bind h1) fun y H2 ⟨dy, m2, μ2, e2, R2, r2, h2⟩ => ?_)
  exact hf μ2 H2 m2 x y dx dy Q R2 (r1.mono e2) r2 h2
theorem sd_un {K : PySem.W.Frag} {W : XK} {r : V → Hp → VK → Prop} {f : D1} {ta : TE} (hf : UnD K W r f) (ha : Sd K W ta A) : Sd K W (fun σ H Q => ta σ H fun x H1 => r x H1 Q) (eUn f A) := by
  refine ⟨fun env m μ σ H Q R E h => ?_⟩
  refine ha.run env m μ σ H _ R E (wp.mono (wp.bind h) fun x H1 ⟨dx, m1, μ1, e1, R1, r1, h1⟩ => ?_)
  exact hf μ1 H1 m1 x dx Q R1 r1 h1
theorem se_bin {op : Operator} {r : R2} {f : D2} (ho : ∀ X, C.Is X → OpR X (binaryOp op) r) (hf : BinD C.K C.W r f) (ha : SE C a A) (hb : SE C b B) : SE C (.BinOp a op b pos) (eBin f A B) := by
  obtain ⟨ta, pa, da⟩ := ha
  obtain ⟨tb, pb, db⟩ := hb
  exact ⟨tOp r ta tb, fun X h => pe_op (ho X h) (pa X h) (pb X h), sd_bin hf da db⟩
theorem se_cmp {op : CmpOp} {r : R2} {f : D2} (ho : ∀ X, C.Is X → OpR X (compareOp op) r) (hf : BinD C.K C.W r f) (ha : SE C a A) (hb : SE C b B) (hm : behindInMarks op b = false) : SE C (.Compare a [op] [b] pos) (eBin f A B) := by
  obtain ⟨ta, pa, da⟩ := ha
  obtain ⟨tb, pb, db⟩ := hb
  exact ⟨tOp r ta tb, fun X h => pe_cmpR (ho X h) (pa X h) (pb X h) hm, sd_bin hf da db⟩
/-- a value that is a bool, as a test -/
def tst (A : DE) : DT := fun env m => (A env m).bind fun x m1 => match x with
  | .bl c => .ok c m1
  | _ => .bad
theorem sd_tst {K : PySem.W.Frag} {W : XK} {t : TE} (h : Sd K W t A) : SdT K W (tTest t) (tst A) := by
  refine ⟨fun env m μ σ H Q R E q => ?_⟩
  refine h.run env m μ σ H _ R E (wp.mono (wp.bind q) fun x H1 ⟨dx, m1, μ1, e1, R1, r1, h1⟩ => ?_)
  cases r1 <;> first | exact h1.elim | exact ⟨_, rfl, h1.ok R1 rfl⟩
theorem st_cmp {op : CmpOp} {r : R2} {f : D2} (ho : ∀ X, C.Is X → OpR X (compareOp op) r) (hf : BinD C.K C.W r f) (ha : SE C a A) (hb : SE C b B) (hm : behindInMarks op b = false) : ST C (.Compare a [op] [b] pos) (tst (eBin f A B)) := by
  obtain ⟨ta, pa, da⟩ := ha
  obtain ⟨tb, pb, db⟩ := hb
  exact ⟨tTest (tOp r ta tb), fun X h => pt_cmpR (ho X h) (pa X h) (pb X h) hm, sd_tst (sd_bin hf da db)⟩
theorem st_val (ha : SE C a A) (he : ∀ env whole, isTrue a env whole = (do let v ← whole; standAt a.pos; holding [v] (truthy v)) := by intro _ _; rfl) : ST C a (tst A) := by
  obtain ⟨ta, pa, da⟩ := ha
  exact ⟨tB ta, fun X h => pt_val (pa X h) (he X.env), sd_tst da⟩

/-- ints -/
instance (i j : Int) : Decidable (CMul i j) := by unfold CMul; infer_instance
instance (i j : Int) : Decidable (CDiv i j) := by unfold CDiv; infer_instance
instance (i j : Int) : Decidable (CPow i j) := by unfold CPow; infer_instance
def iOp (h : Int → Int → DV) : D2 := fun x y m => match x, y with
  | .int i, .int j => .ok (h i j) m
  | _, _ => .bad
def iOpC (c : Int → Int → Prop) [∀ i j, Decidable (c i j)] (h : Int → Int → DV) : D2 := fun x y m => match x, y with
  | .int i, .int j => if c i j then .ok (h i j) m else .bad
  | _, _ => .bad
abbrev iAdd : D2 := iOp fun i j => .int (i + j)
abbrev iSub : D2 := iOp fun i j => .int (i - j)
abbrev iMul : D2 := iOpC CMul fun i j => .int (i * j)
abbrev iFdiv : D2 := iOpC CDiv fun i j => .int (i / j)
abbrev iMod : D2 := iOpC (fun _ j => 0 < j) fun i j => .int (i % j)
abbrev iPow : D2 := iOpC CPow fun i j => .int (i ^ j.toNat)
abbrev iLt : D2 := iOp fun i j => .bl (decide (i < j))
abbrev iLe : D2 := iOp fun i j => .bl (decide (i ≤ j))
abbrev iGt : D2 := iOp fun i j => .bl (decide (j < i))
abbrev iGe : D2 := iOp fun i j => .bl (decide (j ≤ i))
section
variable {K : PySem.W.Frag} {W : XK}
theorem bd_int0 {g : Int → Int → V} {h : Int → Int → DV} (hg : ∀ μ H i j, RV K μ H (h i j) (g i j)) : BinD K W (rI0 g) (iOp h) := by
  intro μ H m x y dx dy Q R r1 r2 q
  cases r1 <;> cases r2 <;> first | exact False.elim q | exact ⟨_, _, rfl, rfl, wp.ok q R (hg _ _ _ _)⟩
theorem bd_intC {c : Int → Int → Prop} [∀ i j, Decidable (c i j)] {g : Int → Int → V} {h : Int → Int → DV} (hg : ∀ μ H i j, RV K μ H (h i j) (g i j)) : BinD K W (rI c g) (iOpC c h) := by
  intro μ H m x y dx dy Q R r1 r2 q
  cases r1 <;> cases r2 <;> first
    | exact False.elim q
    | (rename_i i j
       have q' : wp K W (RV K) μ H (if c i j then .ok (h i j) m else .bad) Q := q
       by_cases hc : c i j
       · rw [if_pos hc] at q'
         exact ⟨_, _, rfl, rfl, hc, wp.ok q' R (hg _ _ _ _)⟩
       · rw [if_neg hc] at q'
         exact False.elim q')
end
theorem se_add (ha : SE C a A) (hb : SE C b B) : SE C (.BinOp a .Add b pos) (eBin iAdd A B) := se_bin (fun _ _ => op_add) (bd_int0 fun _ _ _ _ => .int _) ha hb
theorem se_sub (ha : SE C a A) (hb : SE C b B) : SE C (.BinOp a .Sub b pos) (eBin iSub A B) := se_bin (fun _ _ => op_sub) (bd_int0 fun _ _ _ _ => .int _) ha hb
theorem se_mul (ha : SE C a A) (hb : SE C b B) : SE C (.BinOp a .Mult b pos) (eBin iMul A B) := se_bin (fun _ _ => op_mul) (bd_intC fun _ _ _ _ => .int _) ha hb
theorem se_fdiv (ha : SE C a A) (hb : SE C b B) : SE C (.BinOp a .FloorDiv b pos) (eBin iFdiv A B) := se_bin (fun _ _ => op_fdiv) (bd_intC fun _ _ _ _ => .int _) ha hb
theorem se_mod (ha : SE C a A) (hb : SE C b B) : SE C (.BinOp a .Mod b pos) (eBin iMod A B) := se_bin (fun _ _ => op_mod) (bd_intC fun _ _ _ _ => .int _) ha hb
theorem se_pow (ha : SE C a A) (hb : SE C b B) : SE C (.BinOp a .Pow b pos) (eBin iPow A B) := se_bin (fun _ _ => op_pow) (bd_intC fun _ _ _ _ => .int _) ha hb
theorem or_lt : ∀ X, C.Is X → OpR X (compareOp .Lt) (rI0 fun i j => .bl (decide (i < j))) := fun _ _ => op_lt
theorem or_le : ∀ X, C.Is X → OpR X (compareOp .LtE) (rI0 fun i j => .bl (decide (i ≤ j))) := fun _ _ => op_le
theorem or_gt : ∀ X, C.Is X → OpR X (compareOp .Gt) (rI0 fun i j => .bl (decide (j < i))) := fun _ _ => op_gt
theorem or_ge : ∀ X, C.Is X → OpR X (compareOp .GtE) (rI0 fun i j => .bl (decide (j ≤ i))) := fun _ _ => op_ge
theorem bd_lt : BinD C.K C.W (rI0 fun i j => .bl (decide (i < j))) iLt := bd_int0 fun _ _ _ _ => .bl _
theorem bd_le : BinD C.K C.W (rI0 fun i j => .bl (decide (i ≤ j))) iLe := bd_int0 fun _ _ _ _ => .bl _
theorem bd_gt : BinD C.K C.W (rI0 fun i j => .bl (decide (j < i))) iGt := bd_int0 fun _ _ _ _ => .bl _
theorem bd_ge : BinD C.K C.W (rI0 fun i j => .bl (decide (j ≤ i))) iGe := bd_int0 fun _ _ _ _ => .bl _

/-- chains: a < b < c -/
def eChain (f g : D2) (A B D : DE) : DE := fun env m => (A env m).bind fun x m1 => (B env m1).bind fun y m2 => (f x y m2).bind fun z m3 => match z with
  | .bl true => (D env m3).bind fun w m4 => g y w m4
  | .bl false => .ok (.bl false) m3
  | _ => .bad

/-! ### and, or, not, if else: tests -/
def tAnd' (A B : DT) : DT := fun env m => (A env m).bind fun x m1 => if x then B env m1 else .ok false m1
def tOr' (A B : DT) : DT := fun env m => (A env m).bind fun x m1 => if x then .ok true m1 else B env m1
def tNot' (A : DT) : DT := fun env m => (A env m).bind fun x m1 => .ok (!x) m1
variable {S T : DT} {rest : List Expr}
theorem SW.st (h : SW C e S) : ST C e S := let ⟨t, p, d⟩ := h; ⟨t, fun X hX => (p X hX).pt, d⟩
theorem sw_and1 (h : ST C a S) : SW C (.BoolOp .And [a] pos) S := let ⟨t, p, d⟩ := h; ⟨t, fun X hX => pw_and1 (p X hX), d⟩
theorem sw_or1 (h : ST C a S) : SW C (.BoolOp .Or [a] pos) S := let ⟨t, p, d⟩ := h; ⟨t, fun X hX => pw_or1 (p X hX), d⟩
theorem sw_and (h : ST C a S) (g : SW C (.BoolOp .And (b :: rest) pos) T) : SW C (.BoolOp .And (a :: b :: rest) pos) (tAnd' S T) := by
  obtain ⟨ta, pa, da⟩ := h
  obtain ⟨tb, pb, db⟩ := g
  refine ⟨tAnd ta tb, fun X hX => pw_and (pa X hX) (pb X hX), ⟨fun env m μ σ H Q R E q => ?_⟩⟩
  refine da.run env m μ σ H _ R E (wp.mono (wp.bind q) fun x H1 ⟨dx, m1, μ1, e1, R1, r1, h1⟩ => ?_)
  subst r1
  cases dx with
  | true => rw [if_pos rfl]; exact db.run env m1 μ1 σ H1 _ R1 (E.mono e1) h1
  | false => rw [if_neg Bool.false_ne_true]; exact h1.ok R1 rfl
theorem sw_or (h : ST C a S) (g : SW C (.BoolOp .Or (b :: rest) pos) T) : SW C (.BoolOp .Or (a :: b :: rest) pos) (tOr' S T) := by
  obtain ⟨ta, pa, da⟩ := h
  obtain ⟨tb, pb, db⟩ := g
  refine ⟨tOr ta tb, fun X hX => pw_or (pa X hX) (pb X hX), ⟨fun env m μ σ H Q R E q => ?_⟩⟩
  refine da.run env m μ σ H _ R E (wp.mono (wp.bind q) fun x H1 ⟨dx, m1, μ1, e1, R1, r1, h1⟩ => ?_)
  subst r1
  cases dx with
  | true => rw [if_pos rfl]; exact h1.ok R1 rfl
  | false => rw [if_neg Bool.false_ne_true]; exact db.run env m1 μ1 σ H1 _ R1 (E.mono e1) h1
theorem st_not (h : ST C a S) : ST C (.UnaryOp .Not a pos) (tNot' S) := by
  obtain ⟨ta, pa, da⟩ := h
  refine ⟨tNot ta, fun X hX => pt_not (pa X hX), ⟨fun env m μ σ H Q R E q => ?_⟩⟩
  refine da.run env m μ σ H _ R E (wp.mono (wp.bind q) fun x H1 ⟨dx, m1, μ1, e1, R1, r1, h1⟩ => ?_)
  subst r1
  exact h1.ok R1 rfl
/-- as values -/
def eAndV (A B : DE) : DE := fun env m => (A env m).bind fun x m1 => match x with
  | .bl true => B env m1
  | .bl false => .ok (.bl false) m1
  | _ => .bad
def eOrV (A B : DE) : DE := fun env m => (A env m).bind fun x m1 => match x with
  | .bl true => .ok (.bl true) m1
  | .bl false => B env m1
  | _ => .bad
def eNotV (A : DE) : DE := fun env m => (A env m).bind fun x m1 => match x with
  | .bl c => .ok (.bl (!c)) m1
  | _ => .bad
theorem se_one {op} (h : SE C a A) : SE C (.BoolOp op [a] pos) A := let ⟨t, p, d⟩ := h; ⟨t, fun X hX => pe_one (p X hX), d⟩
theorem se_and (h : SE C a A) (g : SE C (.BoolOp .And (b :: rest) pos) B) : SE C (.BoolOp .And (a :: b :: rest) pos) (eAndV A B) := by
  obtain ⟨ta, pa, da⟩ := h
  obtain ⟨tb, pb, db⟩ := g
  refine ⟨tAndV ta tb, fun X hX => pe_and (pa X hX) (pb X hX), ⟨fun env m μ σ H Q R E q => ?_⟩⟩
  refine da.run env m μ σ H _ R E (wp.mono (wp.bind q) fun x H1 ⟨dx, m1, μ1, e1, R1, r1, h1⟩ => ?_)
  cases r1 <;> first | exact h1.elim | skip
  case bl c _ =>
  refine ⟨c, rfl, ?_⟩
  cases c with
  | true => rw [if_pos rfl]; exact db.run env m1 μ1 σ H1 _ R1 (E.mono e1) h1
  | false => rw [if_neg Bool.false_ne_true]; exact wp.ok h1 R1 (.bl false)
theorem se_or (h : SE C a A) (g : SE C (.BoolOp .Or (b :: rest) pos) B) : SE C (.BoolOp .Or (a :: b :: rest) pos) (eOrV A B) := by
  obtain ⟨ta, pa, da⟩ := h
  obtain ⟨tb, pb, db⟩ := g
  refine ⟨tOrV ta tb, fun X hX => pe_or (pa X hX) (pb X hX), ⟨fun env m μ σ H Q R E q => ?_⟩⟩
  refine da.run env m μ σ H _ R E (wp.mono (wp.bind q) fun x H1 ⟨dx, m1, μ1, e1, R1, r1, h1⟩ => ?_)
  cases r1 <;> first | exact h1.elim | skip
  case bl c _ =>
  refine ⟨c, rfl, ?_⟩
  cases c with
  | true => rw [if_pos rfl]; exact wp.ok h1 R1 (.bl true)
  | false => rw [if_neg Bool.false_ne_true]; exact db.run env m1 μ1 σ H1 _ R1 (E.mono e1) h1
theorem se_not (h : SE C a A) : SE C (.UnaryOp .Not a pos) (eNotV A) := by
  obtain ⟨ta, pa, da⟩ := h
  refine ⟨tNotV ta, fun X hX => pe_not (pa X hX), ⟨fun env m μ σ H Q R E q => ?_⟩⟩
  refine da.run env m μ σ H _ R E (wp.mono (wp.bind q) fun x H1 ⟨dx, m1, μ1, e1, R1, r1, h1⟩ => ?_)
  cases r1 <;> first | exact h1.elim | exact ⟨_, rfl, wp.ok h1 R1 (.bl _)⟩
def eIf (S : DT) (A B : DE) : DE := fun env m => (S env m).bind fun c m1 => if c then A env m1 else B env m1
theorem se_ifExp (h : ST C c S) (ha : SE C a A) (hb : SE C b B) : SE C (.IfExp c a b pos) (eIf S A B) := by
  obtain ⟨tc, pc, dc⟩ := h
  obtain ⟨ta, pa, da⟩ := ha
  obtain ⟨tb, pb, db⟩ := hb
  refine ⟨tIf tc ta tb, fun X hX => pe_ifExp (pc X hX) (pa X hX) (pb X hX), ⟨fun env m μ σ H Q R E q => ?_⟩⟩
  refine dc.run env m μ σ H _ R E (wp.mono (wp.bind q) fun x H1 ⟨dx, m1, μ1, e1, R1, r1, h1⟩ => ?_)
  subst r1
  cases dx with
  | true => rw [if_pos rfl]; exact da.run env m1 μ1 σ H1 _ R1 (E.mono e1) h1
  | false => rw [if_neg Bool.false_ne_true]; exact db.run env m1 μ1 σ H1 _ R1 (E.mono e1) h1

/-! ### argument lists, displays -/
def aNil : DA := fun _ m => .ok [] m
def aCons (A : DE) (As : DA) : DA := fun env m => (A env m).bind fun x m1 => (As env m1).bind fun xs m2 => .ok (x :: xs) m2
variable {As : DA}
theorem sa_nil : SA C [] aNil := ⟨tNil, fun X h => pa_nil, ⟨fun env m μ σ H Q R E q => q.ok R .nil⟩⟩
theorem sa_cons (h : SE C e A) (hr : SA C es As) (hs : ∀ env, starEach (e :: es) env = (false, eval e env) :: starEach es env := by intro _; rfl) : SA C (e :: es) (aCons A As) := by
  obtain ⟨ta, pa, da⟩ := h
  obtain ⟨tr, pr, dr⟩ := hr
  refine ⟨tCons ta tr, fun X hX => pa_cons (pa X hX) (pr X hX) (hs X.env), ⟨fun env m μ σ H Q R E q => ?_⟩⟩
  refine da.run env m μ σ H _ R E (wp.mono (wp.bind q) fun x H1 ⟨dx, m1, μ1, e1, R1, r1, h1⟩ => ?_)
  refine dr.run env m1 μ1 σ H1 _ R1 (E.mono e1) (wp.mono (wp.bind h1) fun y H2 ⟨dy, m2, μ2, e2, R2, r2, h2⟩ => ?_)
  exact h2.ok R2 (.cons (r1.mono e2) r2)
def eTup (As : DA) : DE := fun env m => (As env m).bind fun ds m1 => if ds.length ≤ 16777216 then .ok (.tup ds) m1 else .bad
def eLst (As : DA) : DE := fun env m => (As env m).bind fun ds m1 => if ds.length ≤ 16777216 then .ok (.ref m1.length) (m1 ++ [.lst ds]) else .bad
theorem line_eq : (sizeLine : Nat) = 16777216 := sizeLine_eq
theorem sqT_new {K : PySem.W.Frag} {H : Hp} {p : Addr} {xs : List V} : SqT K (upd H p (.tup xs)) p xs := .of upd_same
theorem se_tup {x1} (h : SA C es As) : SE C (.Tuple es x1 pos) (eTup As) := by
  obtain ⟨ta, pa, da⟩ := h
  refine ⟨tTup ta, fun X hX => pe_tup (pa X hX), ⟨fun env m μ σ H Q R E q => ?_⟩⟩
  refine da.run env m μ σ H _ R E (wp.mono (wp.bind q) fun xs H1 ⟨ds, m1, μ1, e1, R1, r1, h1⟩ => ?_)
  dsimp only at h1
  by_cases hl : ds.length ≤ 16777216
  · rw [if_pos hl] at h1
    refine ⟨by rw [← r1.length, line_eq]; exact hl, fun p hp => ?_⟩
    exact h1 _ μ1 _ (ext_fresh hp) (R1.fresh hp) (.tup sqT_new (r1.mono (ext_fresh hp)))
  · rw [if_neg hl] at h1; exact h1.elim
theorem rel_lst {K : PySem.W.Frag} {m : Mem} {μ : List Addr} {H : Hp} {ds : List DV} {xs : List V} {p : Addr} (R : Rel K m μ H) (hp : H p = none) (r : RVs K μ H ds xs) : Rel K (m ++ [.lst ds]) (μ ++ [p]) (upd H p (.lst xs)) :=
  R.alloc hp ⟨xs, upd_same, r.mono ((ext_fresh hp).trans ext_snoc)⟩
theorem rv_new {K : PySem.W.Frag} {m : Mem} {μ : List Addr} {H H' : Hp} {p : Addr} (R : Rel K m μ H) : RV K (μ ++ [p]) H' (.ref m.length) (.ref p) := .ref (by rw [← R.len]; simp)
theorem se_lst (h : SA C es As) : SE C (.List es pos) (eLst As) := by
  obtain ⟨ta, pa, da⟩ := h
  refine ⟨tLst ta, fun X hX => pe_lst (pa X hX), ⟨fun env m μ σ H Q R E q => ?_⟩⟩
  refine da.run env m μ σ H _ R E (wp.mono (wp.bind q) fun xs H1 ⟨ds, m1, μ1, e1, R1, r1, h1⟩ => ?_)
  dsimp only at h1
  by_cases hl : ds.length ≤ 16777216
  · rw [if_pos hl] at h1
    refine ⟨by rw [← r1.length, line_eq]; exact hl, fun p hp => ?_⟩
    exact h1 _ _ _ ((ext_fresh hp).trans ext_snoc) (rel_lst R1 hp r1) (rv_new R1)
  · rw [if_neg hl] at h1; exact h1.elim
end DL

end
section
set_option Elab.async false
set_option linter.all false
set_option maxRecDepth 100000
set_option maxHeartbeats 4000000
set_option autoImplicit false
/-! DL3: statements, loops, comprehensions, calls of defs, defs. -/
namespace DL
open PySem PySem.Spec L2

/-! ### statements -/
def wpS (K : PySem.W.Frag) (W : XK) (μ : List Addr) (H : Hp) (o : Out Fl) (Dn : Ends) : Prop := match o with
  | .ok fl m' => ∀ μ' H', Ext K μ H μ' H' → Rel K m' μ' H' → (match fl with
    | .nx env => ∀ σ', RE K μ' H' env σ' → Dn.nx σ' H'
    | .bk env => ∀ σ', RE K μ' H' env σ' → Dn.bk σ' H'
    | .ct env => ∀ σ', RE K μ' H' env σ' → Dn.ct σ' H'
    | .rt d => ∀ v, RV K μ' H' d v → Dn.rt v H')
  | .exc x m' => ∀ a μ' H', Ext K μ H μ' H' → Rel K m' μ' H' → XR K μ' H' x a → W x.cls a H'
  | .bad => False
section
variable {α β : Type} {K : PySem.W.Frag} {W : XK} {R : List Addr → Hp → α → β → Prop} {μ μ' : List Addr} {H H' : Hp} {Dn Dn' : Ends}
theorem wpS.later {o : Out Fl} (e : Ext K μ H μ' H') (h : wpS K W μ H o Dn) : wpS K W μ' H' o Dn := by
  cases o with
  | ok a m => exact fun μ2 H2 e2 r => h μ2 H2 (e.trans e2) r
  | exc x m => exact fun a μ2 H2 e2 => h a μ2 H2 (e.trans e2)
  | bad => exact h
def MidS (K : PySem.W.Frag) (W : XK) (R : List Addr → Hp → α → β → Prop) (μ : List Addr) (H : Hp) (f : α → Mem → Out Fl) (Dn : Ends) (b : β) (H1 : Hp) : Prop :=
  ∃ a m' μ', Ext K μ H μ' H1 ∧ Rel K m' μ' H1 ∧ R μ' H1 a b ∧ wpS K W μ' H1 (f a m') Dn
theorem wpS.bind {o : Out α} {f : α → Mem → Out Fl} (h : wpS K W μ H (o.bind f) Dn) : wp K W R μ H o (MidS K W R μ H f Dn) := by
  cases o with
  | ok a m => exact fun b μ2 H2 e2 r1 r2 => ⟨a, m, μ2, e2, r1, r2, wpS.later e2 h⟩
  | exc x m => exact h
  | bad => exact h
theorem wpS.nx {env : Env} {m : Mem} {σ : St} (h : wpS K W μ H (.ok (.nx env) m) Dn) (r1 : Rel K m μ H) (r2 : RE K μ H env σ) : Dn.nx σ H := h μ H Ext.refl r1 σ r2
theorem wpS.rt {d : DV} {m : Mem} {v : V} (h : wpS K W μ H (.ok (.rt d) m) Dn) (r1 : Rel K m μ H) (r2 : RV K μ H d v) : Dn.rt v H := h μ H Ext.refl r1 v r2
end
structure SdS (K : PySem.W.Frag) (W : XK) (t : TS) (D : DS) : Prop where
  run : ∀ env m μ σ H Dn, Rel K m μ H → RE K μ H env σ → wpS K W μ H (D env m) Dn → t Dn σ H
structure SdG (K : PySem.W.Frag) (W : XK) (t : TG) (D : DG) : Prop where
  run : ∀ d v env m μ σ H Q, Rel K m μ H → RE K μ H env σ → RV K μ H d v → wp K W (fun μ H => RE K μ H) μ H (D d env m) Q → t v σ H Q
structure SdGs (K : PySem.W.Frag) (W : XK) (t : TGs) (D : DGs) : Prop where
  run : ∀ ds vs env m μ σ H Q, Rel K m μ H → RE K μ H env σ → RVs K μ H ds vs → wp K W (fun μ H => RE K μ H) μ H (D ds env m) Q → t vs σ H Q
def SS (C : Cn) (st : Stmt) (D : DS) : Prop := ∃ t, (∀ X, C.Is X → PS X st t) ∧ SdS C.K C.W t D
def SSs (C : Cn) (sts : List Stmt) (D : DS) : Prop := ∃ t, (∀ X, C.Is X → PSs X sts t) ∧ SdS C.K C.W t D
def SG (C : Cn) (e : Expr) (D : DG) : Prop := ∃ t, (∀ X, C.Is X → PG X e t) ∧ SdG C.K C.W t D
def SGs (C : Cn) (es : List Expr) (D : DGs) : Prop := ∃ t, (∀ X, C.Is X → PGs X es t) ∧ SdGs C.K C.W t D

section
variable {C : Cn} {a b c e : Expr} {es : List Expr} {pos : Pos} {A B : DE} {st : Stmt} {sts : List Stmt} {S S' : DS} {T : DT}
def sSkip : DS := fun env m => .ok (.nx env) m
def sSeq (S S' : DS) : DS := fun env m => (S env m).bind fun fl m1 => match fl with
  | .nx env1 => S' env1 m1
  | fl => .ok fl m1
theorem ss_nil : SSs C [] sSkip := ⟨tNext, fun X h => pss_nil, ⟨fun env m μ σ H Dn R E q => q.nx R E⟩⟩
/-- the next statement, behind a first one -/
theorem wpS.seq {K : PySem.W.Frag} {W : XK} {μ : List Addr} {H : Hp} {Dn : Ends} {o : Out Fl} {S' : DS} {u : TS} (hu : SdS K W u S')
    (h : wpS K W μ H (o.bind fun fl m1 => match fl with | .nx env1 => S' env1 m1 | fl => .ok fl m1) Dn) : wpS K W μ H o { Dn with nx := u Dn } := by
  cases o with
  | ok fl m =>
    intro μ2 H2 e2 R2
    cases fl with
    | nx env => exact fun σ' E' => hu.run env m μ2 σ' H2 Dn R2 E' (wpS.later e2 h)
    | bk env => exact h μ2 H2 e2 R2
    | ct env => exact h μ2 H2 e2 R2
    | rt d => exact h μ2 H2 e2 R2
  | exc x m => exact h
  | bad => exact h
theorem ss_cons (h : SS C st S) (g : SSs C sts S') : SSs C (st :: sts) (sSeq S S') := by
  obtain ⟨t, p, d⟩ := h
  obtain ⟨u, p', d'⟩ := g
  exact ⟨tSeq t u, fun X hX => pss_cons (p X hX) (p' X hX), ⟨fun env m μ σ H Dn R E q => d.run env m μ σ H _ R E (wpS.seq d' q)⟩⟩
theorem ss_one (h : SS C st S) : SSs C [st] S := let ⟨t, p, d⟩ := h; ⟨t, fun X hX => pss_one (p X hX), d⟩
theorem ss_pass : SS C (.Pass pos) sSkip := ⟨tNext, fun X h => ps_pass, ⟨fun env m μ σ H Dn R E q => q.nx R E⟩⟩
def sBreak : DS := fun env m => .ok (.bk env) m
def sCont : DS := fun env m => .ok (.ct env) m
theorem ss_break : SS C (.Break pos) sBreak := ⟨tBreak, fun X h => ps_break, ⟨fun env m μ σ H Dn R E q => q μ H Ext.refl R σ E⟩⟩
theorem ss_continue : SS C (.Continue pos) sCont := ⟨tCont, fun X h => ps_continue, ⟨fun env m μ σ H Dn R E q => q μ H Ext.refl R σ E⟩⟩
def sExpr (A : DE) : DS := fun env m => (A env m).bind fun _ m1 => .ok (.nx env) m1
theorem ss_expr (h : SE C e A) (hs : ∀ env, swapsWith e none pos.line env = pure false := by intro _; rfl) : SS C (.Expr e pos) (sExpr A) := by
  obtain ⟨t, p, d⟩ := h
  refine ⟨tDrop t, fun X hX => ps_expr (p X hX) (hs X.env), ⟨fun env m μ σ H Dn R E q => ?_⟩⟩
  exact d.run env m μ σ H _ R E (wp.mono (wpS.bind q) fun x H1 ⟨dx, m1, μ1, e1, R1, r1, h1⟩ => h1.nx R1 (E.mono e1))
def sRet (A : DE) : DS := fun env m => (A env m).bind fun d m1 => .ok (.rt d) m1
theorem ss_ret (h : SE C e A) : SS C (.Return (some e) pos) (sRet A) := by
  obtain ⟨t, p, d⟩ := h
  refine ⟨tRet t, fun X hX => ps_ret (p X hX), ⟨fun env m μ σ H Dn R E q => ?_⟩⟩
  exact d.run env m μ σ H _ R E (wp.mono (wpS.bind q) fun x H1 ⟨dx, m1, μ1, e1, R1, r1, h1⟩ => h1.rt R1 r1)
def sRetN : DS := fun _ m => .ok (.rt .non) m
theorem ss_retN : SS C (.Return none pos) sRetN := ⟨tRetN, fun X h => ps_retN, ⟨fun env m μ σ H Dn R E q => q.rt R .non⟩⟩
def sIf (T : DT) (S S' : DS) : DS := fun env m => (T env m).bind fun c m1 => if c then S env m1 else S' env m1
theorem ss_if {s1 s2 : List Stmt} (h : ST C c T) (g : SSs C s1 S) (g' : SSs C s2 S') : SS C (.If c s1 s2 pos) (sIf T S S') := by
  obtain ⟨t, p, d⟩ := h
  obtain ⟨u, p1, d1⟩ := g
  obtain ⟨v, p2, d2⟩ := g'
  refine ⟨tIfS t u v, fun X hX => ps_if (p X hX) (p1 X hX) (p2 X hX), ⟨fun env m μ σ H Dn R E q => ?_⟩⟩
  refine d.run env m μ σ H _ R E (wp.mono (wpS.bind q) fun x H1 ⟨dx, m1, μ1, e1, R1, r1, h1⟩ => ?_)
  subst r1
  cases dx with
  | true => rw [if_pos rfl]; exact d1.run env m1 μ1 σ H1 _ R1 (E.mono e1) h1
  | false => rw [if_neg Bool.false_ne_true]; exact d2.run env m1 μ1 σ H1 _ R1 (E.mono e1) h1

/-! ### targets, assignments -/
def gVar (i : Nat) : DG := fun d env m => .ok (env.set i (some d)) m
def Sto (C : Cn) (x : Str) : Prop := C.sc.names.lookup x = some .local ∨ (C.df = true ∧ C.sc.names.lookup x = some .cell)
theorem Sto.loc {X : Cx} {x : Str} (h : C.Is X) (s : Sto C x) : Loc X.env.scope x := by
  rw [h.sc]
  rcases s with s | s
  · exact .inl s
  · exact .inr s.2
theorem Sto.fn {X : Cx} {x : Str} (h : C.Is X) (s : Sto C x) : X.fn x = true ∨ X.env.scope.names.lookup x = some .local := by
  rcases s with s | s
  · exact .inr (by rw [h.sc]; exact s)
  · exact .inl (h.fn s.1 x)
theorem sg_var (i : Nat) {x : Str} (hi : C.N[i]? = some x := by rfl) (hx : Sto C x := by first | exact Or.inl rfl | exact Or.inr ⟨rfl, rfl⟩) : SG C (.Name x pos) (gVar i) :=
  ⟨gName i, fun X h => pg_name (by rw [h.N]; exact h.nd) (by rw [h.N]; exact hi) (hx.loc h) (hx.fn h), ⟨fun d v env m μ σ H Q R E r q => wp.ok q R (E.set i r)⟩⟩
def gsNil : DGs := fun ds env m => match ds with
  | [] => .ok env m
  | _ => .bad
def gsCons (G : DG) (Gs : DGs) : DGs := fun ds env m => match ds with
  | d :: ds => (G d env m).bind fun env1 m1 => Gs ds env1 m1
  | [] => .bad
def gTupD (n : Nat) (Gs : DGs) : DG := fun d env m => match d with
  | .tup ds => if ds.length = n then Gs ds env m else .bad
  | _ => .bad
variable {G : DG} {Gs : DGs}
theorem sgs_nil : SGs C [] gsNil := ⟨gNil, fun X h => pgs_nil, ⟨fun ds vs env m μ σ H Q R E r q => by
  cases r with
  | nil => exact ⟨rfl, wp.ok q R E⟩
  | cons _ _ => exact q.elim⟩⟩
theorem sgs_cons (h : SG C e G) (g : SGs C es Gs) (hs : ∀ env, (assignEach (e :: es) env).map (·.2) = assign e env :: (assignEach es env).map (·.2) := by intro _; rfl) : SGs C (e :: es) (gsCons G Gs) := by
  obtain ⟨t, p, d⟩ := h
  obtain ⟨u, p', d'⟩ := g
  refine ⟨gCons t u, fun X hX => pgs_cons (p X hX) (p' X hX) (hs X.env), ⟨fun ds vs env m μ σ H Q R E r q => ?_⟩⟩
  cases r with
  | nil => exact q.elim
  | @cons dx v ds vs r1 r2 =>
    refine ⟨v, vs, rfl, ?_⟩
    exact d.run dx v env m μ σ H _ R E r1 (wp.mono (wp.bind q) fun σ1 H1 ⟨env1, m1, μ1, e1, R1, E1, h1⟩ => d'.run ds vs env1 m1 μ1 σ1 H1 Q R1 E1 (r2.mono e1) h1)
theorem sg_tup {k n : Nat} (h : SGs C es Gs) (hn : ∀ env, (assignEach es env).length = n := by intro _; rfl) (hst : ∀ env, (assignEach es env).findIdx? (·.1) = none := by intro _; rfl) : SG C (.Tuple es k pos) (gTupD n Gs) := by
  obtain ⟨t, p, d⟩ := h
  refine ⟨gTup C.K n t, fun X hX => by rw [← hX.K]; exact pg_tup hX.calm (p X hX) (hn X.env) (hst X.env), ⟨fun dx v env m μ σ H Q R E r q => ?_⟩⟩
  cases r with
  | @tup a xs ds s r =>
    have q' : wp C.K C.W (fun μ H => RE C.K μ H) μ H (if ds.length = n then Gs ds env m else .bad) Q := q
    by_cases hl : ds.length = n
    · rw [if_pos hl] at q'
      exact ⟨a, xs, rfl, s, by rw [← r.length]; exact hl, d.run ds xs env m μ σ H Q R E r q'⟩
    · rw [if_neg hl] at q'; exact q'.elim
  | _ => exact q.elim
def sAsg (A : DE) (G : DG) : DS := fun env m => (A env m).bind fun d m1 => (G d env m1).bind fun env1 m2 => .ok (.nx env1) m2
theorem ss_asg {tg : Expr} (h : SE C e A) (g : SG C tg G) (hs : ∀ env : PySem.Env, env.scope = C.sc → swapsWithSole [tg] e pos.line env = pure false := by intro _ _; rfl) (hw : ∀ env : PySem.Env, env.scope = C.sc → swappedStores [tg] e env = pure none := by intro _ _; rfl)
    (h1 : ∀ env, (assignEach [tg] env).map (·.2) = [assign tg env] := by intro _; rfl) : SS C (.Assign [tg] e pos) (sAsg A G) := by
  obtain ⟨t, p, d⟩ := h
  obtain ⟨u, p', d'⟩ := g
  refine ⟨tAsg t u, fun X hX => ps_asg (p X hX) (p' X hX) (hs X.env hX.sc) (hw X.env hX.sc) (h1 X.env), ⟨fun env m μ σ H Dn R E q => ?_⟩⟩
  refine d.run env m μ σ H _ R E (wp.mono (wpS.bind q) fun x H1 ⟨dx, m1, μ1, e1, R1, r1, h1⟩ => ?_)
  exact d'.run dx x env m1 μ1 σ H1 _ R1 (E.mono e1) r1 (wp.mono (wpS.bind h1) fun σ2 H2 ⟨env2, m2, μ2, e2, R2, E2, h2⟩ => h2.nx R2 E2)
def sSet (i : Nat) (A : DE) : DS := fun env m => (A env m).bind fun d m1 => .ok (.nx (env.set i (some d))) m1
theorem ss_set (i : Nat) {x : Str} {pos' : Pos} (h : SE C e A) (hi : C.N[i]? = some x := by rfl) (hx : Sto C x := by first | exact Or.inl rfl | exact Or.inr ⟨rfl, rfl⟩)
    (hs : ∀ env : PySem.Env, env.scope = C.sc → swapsWith e (some (.Name x pos')) pos.line env = pure false := by intro _ _; rfl) : SS C (.Assign [.Name x pos'] e pos) (sSet i A) := by
  obtain ⟨t, p, d⟩ := h
  refine ⟨tAsg t (gName i), fun X hX => ps_set (by rw [hX.N]; exact hX.nd) (by rw [hX.N]; exact hi) (hx.loc hX) (p X hX) (hs X.env hX.sc) (hx.fn hX), ⟨fun env m μ σ H Dn R E q => ?_⟩⟩
  exact d.run env m μ σ H _ R E (wp.mono (wpS.bind q) fun x H1 ⟨dx, m1, μ1, e1, R1, r1, h1⟩ => h1.nx R1 ((E.mono e1).set i r1))
/-- a, b = x, y (plain locals) -/
def sPar (i j : Nat) (As : DA) : DS := fun env m => (As env m).bind fun ds m1 => match ds with
  | [d, d'] => .ok (.nx ((env.set i (some d)).set j (some d'))) m1
  | _ => .bad
theorem ss_par (i j : Nat) {x y : Str} {As : DA} {px py pt : Pos} {kt k2 pt2} (h : SA C [a, b] As) (hi : C.N[i]? = some x := by rfl) (hj : C.N[j]? = some y := by rfl) (hij : i ≠ j := by decide)
    (hx : C.sc.names.lookup x = some .local := by rfl) (hy : C.sc.names.lookup y = some .local := by rfl)
    (hw : ∀ env : PySem.Env, env.scope = C.sc → swappedStores [.Tuple [.Name x px, .Name y py] kt pt] (.Tuple [a, b] k2 pt2) env = pure (some [x, y]))
    (hs : ∀ env, swapsWithSole [.Tuple [.Name x px, .Name y py] kt pt] (.Tuple [a, b] k2 pt2) pos.line env = pure false := by intro _; rfl) :
    SS C (.Assign [.Tuple [.Name x px, .Name y py] kt pt] (.Tuple [a, b] k2 pt2) pos) (sPar i j As) := by
  obtain ⟨t, p, d⟩ := h
  refine ⟨tPar i j t, fun X hX => ps_par hX.calm (by rw [hX.N]; exact hX.nd) (by rw [hX.N]; exact hi) (by rw [hX.N]; exact hj) hij (by rw [hX.sc]; exact hx) (by rw [hX.sc]; exact hy) (p X hX) (hw _ hX.sc) (hs X.env), ⟨fun env m μ σ H Dn R E q => ?_⟩⟩
  refine d.run env m μ σ H _ R E (wp.mono (wpS.bind q) fun xs H1 ⟨ds, m1, μ1, e1, R1, r1, h1⟩ => ?_)
  cases r1 with
  | nil => exact h1.elim
  | @cons d1 v1 ds vs r1 r2 =>
    cases r2 with
    | nil => exact h1.elim
    | @cons d2 v2 ds vs r2 r3 =>
      cases r3 with
      | nil => exact ⟨v1, v2, rfl, h1.nx R1 (((E.mono e1).set i r1).set j r2)⟩
      | cons _ _ => exact h1.elim
def sAug (i : Nat) (f : D2) (A : DE) : DS := fun env m => match env[i]? with
  | some (some x) => (A env m).bind fun y m1 => (f x y m1).bind fun z m2 => .ok (.nx (env.set i (some z))) m2
  | _ => .bad
theorem ss_aug (i : Nat) {x : Str} {op : Operator} {r : R2} {f : D2} {pos' : Pos} (ho : ∀ X, C.Is X → PIp X op r) (hf : BinD C.K C.W r f) (h : SE C e A) (hi : C.N[i]? = some x := by rfl) (hx : Sto C x := by first | exact Or.inl rfl | exact Or.inr ⟨rfl, rfl⟩) :
    SS C (.AugAssign (.Name x pos') op e pos) (sAug i f A) := by
  obtain ⟨t, p, d⟩ := h
  refine ⟨tAug i t r, fun X hX => ps_aug (by rw [hX.N]; exact hX.nd) (by rw [hX.N]; exact hi) (hx.loc hX) (p X hX) (ho X hX) (hx.fn hX), ⟨fun env m μ σ H Dn R E q => ?_⟩⟩
  unfold sAug at q
  cases g : env[i]? with
  | none => rw [g] at q; exact q.elim
  | some o =>
    cases o with
    | none => rw [g] at q; exact q.elim
    | some dx =>
      rw [g] at q
      obtain ⟨v, h1, h2⟩ := E.get i dx g
      refine ⟨v, h1, ?_⟩
      refine d.run env m μ σ H _ R E (wp.mono (wpS.bind q) fun y H1 ⟨dy, m1, μ1, e1, R1, r1, h1⟩ => ?_)
      exact hf μ1 H1 m1 v y dx dy _ R1 (h2.mono e1) r1 (wp.mono (wpS.bind h1) fun z H2 ⟨dz, m2, μ2, e2, R2, r2, h2⟩ => h2.nx R2 ((E.mono (e1.trans e2)).set i r2))
/-- forgetting a slot is always allowed -/
def sKill (is : List Nat) (S : DS) : DS := fun env m => (S env m).bind fun fl m1 => match fl with
  | .nx env1 => .ok (.nx (is.foldl (fun e i => e.set i none) env1)) m1
  | fl => .ok fl m1
theorem RE.kills {K : PySem.W.Frag} {μ : List Addr} {H : Hp} {σ : St} : ∀ (is : List Nat) {env : Env}, RE K μ H env σ → RE K μ H (is.foldl (fun e i => e.set i none) env) σ
  | [], _, r => r
  | i :: is, _, r => RE.kills is (r.kill i)
theorem ss_kill (is : List Nat) (h : SSs C sts S) : SSs C sts (sKill is S) := by
  obtain ⟨t, p, d⟩ := h
  refine ⟨t, p, ⟨fun env m μ σ H Dn R E q => d.run env m μ σ H Dn R E ?_⟩⟩
  unfold sKill at q
  cases o : S env m with
  | ok fl m1 =>
    rw [o] at q
    cases fl with
    | nx env1 => exact fun μ2 H2 e2 R2 σ' E' => q μ2 H2 e2 R2 σ' (E'.kills is)
    | _ => exact q
  | _ => rw [o] at q; exact q

/-! ### while -/
def whileN (T : DT) (S : DS) : Nat → DS
  | 0, _, _ => .bad
  | n + 1, env, m => (T env m).bind fun c m1 => if c then (S env m1).bind fun fl m2 => (match fl with
      | .nx env2 => whileN T S n env2 m2
      | .ct env2 => whileN T S n env2 m2
      | .bk env2 => .ok (.nx env2) m2
      | .rt d => .ok (.rt d) m2) else .ok (.nx env) m1
def sWhileN (n : Nat) (T : DT) (S : DS) : DS := whileN T S n
theorem ss_whileN (n : Nat) {body : List Stmt} (h : ST C c T) (g : SSs C body S) : SS C (.While c body [] pos) (sWhileN n T S) := by
  obtain ⟨t, p, d⟩ := h
  obtain ⟨u, p', d'⟩ := g
  refine ⟨tWhile t u, fun X hX => ps_while hX.po (p X hX) (p' X hX), ⟨fun env m μ σ H Dn R E q => ?_⟩⟩
  refine ⟨fun k σ' H' => ∃ env' m' μ', Rel C.K m' μ' H' ∧ RE C.K μ' H' env' σ' ∧ wpS C.K C.W μ' H' (whileN T S k env' m') Dn, ⟨n, env, m, μ, R, E, q⟩, ?_⟩
  rintro k σ1 H1 ⟨env1, m1, μ1, R1, E1, q1⟩
  cases k with
  | zero => exact q1.elim
  | succ k =>
    refine d.run env1 m1 μ1 σ1 H1 _ R1 E1 (wp.mono (wpS.bind q1) fun x H2 ⟨dx, m2, μ2, e2, R2, r2, h2⟩ => ?_)
    subst r2
    cases dx with
    | false => rw [if_neg Bool.false_ne_true]; exact h2.nx R2 (E1.mono e2)
    | true =>
      rw [if_pos rfl]
      refine ⟨fun σ' H' => ∃ env' m' μ', Rel C.K m' μ' H' ∧ RE C.K μ' H' env' σ' ∧ wpS C.K C.W μ' H' (whileN T S k env' m') Dn, fun σ' H' hh => ⟨k, Nat.lt_succ_self k, hh⟩, ?_⟩
      refine d'.run env1 m2 μ2 σ1 H2 _ R2 (E1.mono e2) ?_
      have h3 : wpS C.K C.W μ2 H2 ((S env1 m2).bind fun fl m2 => (match fl with
        | .nx env2 => whileN T S k env2 m2
        | .ct env2 => whileN T S k env2 m2
        | .bk env2 => .ok (.nx env2) m2
        | .rt d => .ok (.rt d) m2)) Dn := h2
      cases o : S env1 m2 with
      | ok fl m3 =>
        rw [o] at h3
        intro μ3 H3 e3 R3
        cases fl with
        | nx env2 => exact fun σ' E' => ⟨env2, m3, μ3, R3, E', wpS.later e3 h3⟩
        | ct env2 => exact fun σ' E' => ⟨env2, m3, μ3, R3, E', wpS.later e3 h3⟩
        | bk env2 => exact fun σ' E' => h3 μ3 H3 e3 R3 σ' E'
        | rt dd => exact fun v r => h3 μ3 H3 e3 R3 v r
      | exc x m3 => rw [o] at h3; exact h3
      | bad => rw [o] at h3; exact h3
open Classical in
/-- the loop, as many turns as it takes -/
noncomputable def sWhile (T : DT) (S : DS) : DS := fun env m => if h : ∃ n, whileN T S n env m ≠ .bad then whileN T S h.choose env m else .bad
theorem ss_while {body : List Stmt} (h : ST C c T) (g : SSs C body S) : SS C (.While c body [] pos) (sWhile T S) := by
  obtain ⟨t, p, d⟩ := h
  obtain ⟨u, p', d'⟩ := g
  refine ⟨tWhile t u, fun X hX => ps_while hX.po (p X hX) (p' X hX), ⟨fun env m μ σ H Dn R E q => ?_⟩⟩
  unfold sWhile at q
  split at q
  · rename_i hx
    obtain ⟨t', p'', d''⟩ := ss_whileN (C := C) (pos := pos) hx.choose ⟨t, p, d⟩ ⟨u, p', d'⟩
    have := ss_whileN (C := C) (pos := pos) hx.choose ⟨t, p, d⟩ ⟨u, p', d'⟩
    clear this d'' p''
    -- the reading is the same for every number of turns
    refine ⟨fun k σ' H' => ∃ env' m' μ', Rel C.K m' μ' H' ∧ RE C.K μ' H' env' σ' ∧ wpS C.K C.W μ' H' (whileN T S k env' m') Dn, ⟨hx.choose, env, m, μ, R, E, q⟩, ?_⟩
    rintro k σ1 H1 ⟨env1, m1, μ1, R1, E1, q1⟩
    cases k with
    | zero => exact q1.elim
    | succ k =>
      refine d.run env1 m1 μ1 σ1 H1 _ R1 E1 (wp.mono (wpS.bind q1) fun x H2 ⟨dx, m2, μ2, e2, R2, r2, h2⟩ => ?_)
      subst r2
      cases dx with
      | false => rw [if_neg Bool.false_ne_true]; exact h2.nx R2 (E1.mono e2)
      | true =>
        rw [if_pos rfl]
        refine ⟨fun σ' H' => ∃ env' m' μ', Rel C.K m' μ' H' ∧ RE C.K μ' H' env' σ' ∧ wpS C.K C.W μ' H' (whileN T S k env' m') Dn, fun σ' H' hh => ⟨k, Nat.lt_succ_self k, hh⟩, ?_⟩
        refine d'.run env1 m2 μ2 σ1 H2 _ R2 (E1.mono e2) ?_
        have h3 : wpS C.K C.W μ2 H2 ((S env1 m2).bind fun fl m2 => (match fl with
          | .nx env2 => whileN T S k env2 m2
          | .ct env2 => whileN T S k env2 m2
          | .bk env2 => .ok (.nx env2) m2
          | .rt d => .ok (.rt d) m2)) Dn := h2
        cases o : S env1 m2 with
        | ok fl m3 =>
          rw [o] at h3
          intro μ3 H3 e3 R3
          cases fl with
          | nx env2 => exact fun σ' E' => ⟨env2, m3, μ3, R3, E', wpS.later e3 h3⟩
          | ct env2 => exact fun σ' E' => ⟨env2, m3, μ3, R3, E', wpS.later e3 h3⟩
          | bk env2 => exact fun σ' E' => h3 μ3 H3 e3 R3 σ' E'
          | rt dd => exact fun v r => h3 μ3 H3 e3 R3 v r
        | exc x m3 => rw [o] at h3; exact h3
        | bad => rw [o] at h3; exact h3
  · exact q.elim
/-- more turns change nothing -/
theorem whileN_mono (T : DT) (S : DS) : ∀ (n k : Nat) (env : Env) (m : Mem), n ≤ k → whileN T S n env m ≠ .bad → whileN T S k env m = whileN T S n env m
  | 0, _, _, _, _, h => absurd rfl h
  | n + 1, 0, _, _, hl, _ => absurd hl (by omega)
  | n + 1, k + 1, env, m, hl, h => by
    unfold whileN at h ⊢
    cases o : T env m with
    | ok c m1 =>
      rw [o] at h
      simp only [Out.bind_ok] at h ⊢
      cases c with
      | false => rfl
      | true =>
        simp only [if_true] at h ⊢
        cases o2 : S env m1 with
        | ok fl m2 =>
          rw [o2] at h
          simp only [Out.bind_ok] at h ⊢
          cases fl with
          | nx env2 => exact whileN_mono T S n k env2 m2 (by omega) h
          | ct env2 => exact whileN_mono T S n k env2 m2 (by omega) h
          | bk env2 => rfl
          | rt d => rfl
        | _ => rfl
    | _ => rfl
theorem sWhile_of {T : DT} {S : DS} {env : Env} {m : Mem} {n : Nat} (h : whileN T S n env m ≠ .bad) : sWhile T S env m = whileN T S n env m := by
  unfold sWhile
  have hx : ∃ n, whileN T S n env m ≠ .bad := ⟨n, h⟩
  rw [dif_pos hx]
  rcases Nat.le_total hx.choose n with q | q
  · exact (whileN_mono T S _ _ env m q hx.choose_spec).symm
  · exact whileN_mono T S _ _ env m q h
theorem sWhile_bad {T : DT} {S : DS} {env : Env} {m : Mem} (h : ∀ n, whileN T S n env m = .bad) : sWhile T S env m = .bad := by
  unfold sWhile
  rw [dif_neg]
  rintro ⟨n, q⟩
  exact q (h n)
/-- one turn -/
theorem sWhile_eq (T : DT) (S : DS) (env : Env) (m : Mem) : sWhile T S env m = (T env m).bind fun c m1 => if c then (S env m1).bind fun fl m2 => (match fl with
      | .nx env2 => sWhile T S env2 m2
      | .ct env2 => sWhile T S env2 m2
      | .bk env2 => .ok (.nx env2) m2
      | .rt d => .ok (.rt d) m2) else .ok (.nx env) m1 := by
  have key : ∀ env2 m2 (f : Nat → Out Fl), (∀ n, f (n + 1) = whileN T S n env2 m2) → f 0 = .bad → (∀ n, whileN T S n env m = f n) → sWhile T S env m = sWhile T S env2 m2 := by
    intro env2 m2 f h1 h0 h2
    by_cases hx : ∃ n, whileN T S n env2 m2 ≠ .bad
    · obtain ⟨n, hn⟩ := hx
      rw [sWhile_of hn, sWhile_of (n := n + 1) (by rw [h2, h1]; exact hn), h2, h1]
    · rw [sWhile_bad (env := env2) fun n => Classical.byContradiction fun q => hx ⟨n, q⟩]
      refine sWhile_bad fun n => ?_
      cases n with
      | zero => rw [h2, h0]
      | succ n => rw [h2, h1]; exact Classical.byContradiction fun q => hx ⟨n, q⟩
  have one : ∀ (o : Out Fl), (∀ n, whileN T S (n + 1) env m = o) → sWhile T S env m = o := by
    intro o ho
    by_cases hb : o = .bad
    · subst hb
      refine sWhile_bad fun n => ?_
      cases n with
      | zero => rfl
      | succ n => exact ho n
    · rw [sWhile_of (n := 1) (by rw [ho]; exact hb), ho]
  cases o : T env m with
  | ok c m1 =>
    simp only [Out.bind_ok]
    cases c with
    | false =>
      simp only [Bool.false_eq_true, if_false]
      exact one _ fun n => by unfold whileN; rw [o]; rfl
    | true =>
      simp only [if_true]
      cases o2 : S env m1 with
      | ok fl m2 =>
        simp only [Out.bind_ok]
        cases fl with
        | nx env2 => exact key env2 m2 (fun n => whileN T S n env m) (fun n => by simp only [whileN, o, Out.bind_ok, if_true, o2]) rfl fun n => rfl
        | ct env2 => exact key env2 m2 (fun n => whileN T S n env m) (fun n => by simp only [whileN, o, Out.bind_ok, if_true, o2]) rfl fun n => rfl
        | bk env2 => exact one _ fun n => by simp only [whileN, o, Out.bind_ok, if_true, o2]
        | rt d => exact one _ fun n => by simp only [whileN, o, Out.bind_ok, if_true, o2]
      | exc x m2 => exact one _ fun n => by simp only [whileN, o, Out.bind_ok, if_true, o2, Out.bind_exc]
      | bad => exact one _ fun n => by simp only [whileN, o, Out.bind_ok, if_true, o2, Out.bind_bad]
  | exc x m2 => exact one _ fun n => by simp only [whileN, o, Out.bind_exc]
  | bad => exact one _ fun n => by simp only [whileN, o, Out.bind_bad]
end
end DL

end
section
set_option Elab.async false
set_option linter.all false
set_option maxRecDepth 100000
set_option maxHeartbeats 4000000
set_option autoImplicit false
/-! DL4: what is walked, for loops, comprehensions, calls of defs, defs, what a call leaves behind. -/
namespace DL
open PySem PySem.Spec L2

/-! ### what is walked -/
structure ItD where
  ds : List DV
  gs : List (Nat × MO)
def guard (gs : List (Nat × MO)) (m : Mem) : Prop := ∀ p ∈ gs, m[p.1]? = some p.2
abbrev DI := Env → Mem → Out ItD
def RI (K : PySem.W.Frag) (J : It) (it : ItD) (μ0 : List Addr) (H0 : Hp) : Prop := ∀ m μ H, Ext K μ0 H0 μ H → Rel K m μ H → guard it.gs m → ∀ j : Nat,
  (∀ d, it.ds[j]? = some d → J.go j H ∧ ∀ x H', J.yld j H x H' → Ext K μ H μ H' ∧ Rel K m μ H' ∧ RV K μ H' d x) ∧ (it.ds.length = j → J.stop j H)
structure SdI (K : PySem.W.Frag) (W : XK) (w : TI) (D : DI) : Prop where
  run : ∀ env m μ σ H R, Rel K m μ H → RE K μ H env σ → wp K W (fun μ H it J => RI K J it μ H) μ H (D env m) R → w σ H R
def SI (C : Cn) (tg e : Expr) (D : DI) : Prop := ∃ w, (∀ X, C.Is X → PI X tg e w) ∧ SdI C.K C.W w D

section
variable {C : Cn} {a b c e tg iter : Expr} {es : List Expr} {pos : Pos} {A B : DE} {st : Stmt} {sts body : List Stmt} {S S' : DS} {T : DT} {I : DI} {G : DG}
section
variable {X : Cx}
/-- a list, a tuple, a text, a locked dict's keys -/
def iAny (K : PySem.W.Frag) (te : TE) : TI := fun σ H R => te σ H fun x H1 => (∃ a, x = .ref a ∧ (∃ xs, SqL K H1 a xs) ∧ R (Itl K a) H1) ∨ (∃ a, x = .ref a ∧ (∃ xs, SqT K H1 a xs) ∧ R (Itt K a) H1) ∨ (∃ z, x = .str z ∧ R (Its z) H1) ∨
  ∃ d o kvs, x = .ref d ∧ H1 d = some (.frz o (.dK kvs)) ∧ R (Itk d o kvs) H1
theorem pi_any {te : TE} (he : PE X e te) : PI X tg e (iAny X.K te) := by
  refine ⟨fun pins s σ H R I h => ?_⟩
  refine thn (he.run pins s σ H _ I h) fun v s1 ⟨x, H1, I1, r1, q1⟩ => ?_
  rcases q1 with ⟨a, rfl, ⟨xs, hq⟩, q⟩ | ⟨a, rfl, ⟨xs, hq⟩, q⟩ | ⟨z, rfl, q⟩ | ⟨d, o, kvs, rfl, hd, q⟩
  · cases r1
    obtain ⟨its, rv, p, hz⟩ := I1.list hq
    refine wpAny_pyIter_list p.isList ?_
    refine ⟨s1.heap.objs.size, [s1.heap.objs.size], _, _, H1, rfl, I1.kept (t' := s1.toks) fun b o e => Heap.get?_push_of_some _ e, turn_list a _, ⟨_, Heap.get?_push_size _ rfl, rfl, rfl⟩, fun b hb => ?_, q⟩
    have e : b = s1.heap.objs.size := by simpa using hb
    subst e
    exact I1.fpOk (Nat.le_refl _) (I1.hok.fresh (Nat.le_refl _))
  · cases r1
    obtain ⟨its, rv, p, hz⟩ := I1.tuple hq
    refine wpAny_pyIter_tuple (show s1.heap.IsTuple a its.toArray from p) ?_
    refine ⟨s1.heap.objs.size, [s1.heap.objs.size], _, _, H1, rfl, I1.kept (t' := s1.toks) fun b o e => Heap.get?_push_of_some _ e, turn_tuple a _, ⟨_, Heap.get?_push_size _ rfl, rfl, rfl⟩, fun b hb => ?_, q⟩
    have e : b = s1.heap.objs.size := by simpa using hb
    subst e
    exact I1.fpOk (Nat.le_refl _) (I1.hok.fresh (Nat.le_refl _))
  · obtain ⟨t, rfl⟩ := r1
    cases ha : z.cps.all (· < 128)
    · exact wpAny_pyIter_wide ha (pi_one (tk := s1.toks) I1 _ (turn_str _ z t "str_iterator" (.inr rfl)) ⟨_, Heap.get?_push_size _ rfl, rfl, rfl⟩ q)
    · exact wpAny_pyIter_ascii ha (pi_one (tk := s1.toks) I1 _ (turn_str _ z t "str_ascii_iterator" (.inl rfl)) ⟨_, Heap.get?_push_size _ rfl, rfl, rfl⟩ q)
  · obtain rfl : v = Value.ref d := r1
    obtain ⟨hs, hgd, hx, es, ep, vs, hdt, hsz, kv, hm⟩ := I1.frzK hd
    refine iter_keys hs hgd hx hdt (pi_one (tk := s1.toks) I1 _ (turn_keys _ hdt) ⟨_, Heap.get?_push_size _ rfl, rfl, ?_⟩ q)
    rw [hsz] <;> rfl
end
/-- a key as a value -/
def kD : Key → DV
  | .inl i => .int i
  | .inr x => .str x
theorem rv_key {K : PySem.W.Frag} {μ : List Addr} {H : Hp} (k : Key) : RV K μ H (kD k) (kV k) := by cases k <;> constructor
def one (c : Nat) : DV := .str ⟨#[c]⟩
def iAnyD (A : DE) : DI := fun env m => (A env m).bind fun x m1 => match x with
  | .ref i => (match m1[i]? with
    | some (.lst ds) => .ok ⟨ds, [(i, .lst ds)]⟩ m1
    | some (.rol ds) => .ok ⟨ds, [(i, .rol ds)]⟩ m1
    | some (.rod kvs) => .ok ⟨kvs.map fun p => kD p.1, [(i, .rod kvs)]⟩ m1
    | _ => .bad)
  | .tup ds => .ok ⟨ds, []⟩ m1
  | .str z => .ok ⟨z.cps.toList.map one, []⟩ m1
  | _ => .bad
variable {K : PySem.W.Frag} {W : XK} {μ μ' : List Addr} {H H' : Hp} {m : Mem}
theorem guard1 {i : Nat} {o : MO} (h : guard [(i, o)] m) : m[i]? = some o := h (i, o) (by simp)
theorem ro_sq {a : Addr} {ds : List DV} {o : MO} (ho : o = .lst ds ∨ o = .rol ds) (r : RO K μ H a o) : ∃ xs, SqL K H a xs ∧ RVs K μ H ds xs := by
  rcases ho with rfl | rfl
  · obtain ⟨xs, h, q⟩ := r
    exact ⟨xs, .of h, q⟩
  · obtain ⟨xs, h, q⟩ := r
    refine ⟨xs, ?_, q⟩
    rcases h with ⟨o, h⟩ | h
    · exact .inl (.inr ⟨o, h⟩)
    · exact h.sq
theorem ri_list {i : Nat} {a : Addr} {ds : List DV} {o : MO} (ho : o = .lst ds ∨ o = .rol ds) (hi : μ[i]? = some a) : RI K (Itl K a) ⟨ds, [(i, o)]⟩ μ H := by
  intro m1 μ1 H1 e R g j
  obtain ⟨xs, s, r⟩ := ro_sq ho (R.obj i a o (e.pre i a hi) (guard1 g))
  refine ⟨fun d hd => ?_, fun hl => ⟨xs, s, by rw [← r.length]; exact Nat.le_of_eq hl⟩⟩
  obtain ⟨v, h1, h2⟩ := r.get hd
  refine ⟨⟨xs, v, s, h1⟩, fun x H' ⟨e1, e2⟩ => ?_⟩
  subst e1
  have := e2 xs s
  rw [h1] at this
  cases this
  exact ⟨Ext.refl, R, h2⟩
theorem ri_tup {a : Addr} {ds : List DV} {xs : List V} (s : SqT K H a xs) (r : RVs K μ H ds xs) : RI K (Itt K a) ⟨ds, []⟩ μ H := by
  intro m1 μ1 H1 e R g j
  have s1 := e.tups _ _ s
  have r1 := r.mono e
  refine ⟨fun d hd => ?_, fun hl => ⟨xs, s1, by rw [← r.length]; exact Nat.le_of_eq hl⟩⟩
  obtain ⟨v, h1, h2⟩ := r1.get hd
  refine ⟨⟨xs, v, s1, h1⟩, fun x H' ⟨e1, e2⟩ => ?_⟩
  subst e1
  have := e2 xs s1
  rw [h1] at this
  cases this
  exact ⟨Ext.refl, R, h2⟩
theorem ri_str {z : Str} : RI K (Its z) ⟨z.cps.toList.map one, []⟩ μ H := by
  intro m1 μ1 H1 e R g j
  refine ⟨fun d hd => ?_, fun hl => by
    have hl' : (z.cps.toList.map one).length ≤ j := Nat.le_of_eq hl
    show z.cps.size ≤ j
    simpa using hl'⟩
  have hd' : (z.cps.toList.map one)[j]? = some d := hd
  rw [List.getElem?_map] at hd'
  obtain ⟨c, hc, rfl⟩ := Option.map_eq_some_iff.mp hd'
  have hc' : z.cps[j]? = some c := by simpa using hc
  refine ⟨(Array.getElem?_eq_some_iff.mp hc').1, fun x H' ⟨e1, c', e2, e3⟩ => ?_⟩
  subst e1 e3
  rw [hc'] at e2
  cases e2
  exact ⟨Ext.refl, R, .str _⟩
theorem rkv_get {kvs : List (Key × DV)} {kk : List (Key × V)} (r : RKV K μ H kvs kk) : ∀ {j : Nat} {p : Key × DV}, kvs[j]? = some p → ∃ q, kk[j]? = some q ∧ p.1 = q.1 ∧ RV K μ H p.2 q.2 := by
  induction r with
  | nil => intro j p h; simp at h
  | cons h t ih =>
    intro j p hj
    cases j with
    | zero => simp at hj; subst hj; exact ⟨_, rfl, h.1, h.2⟩
    | succ j => simpa using ih (by simpa using hj)
theorem ri_keys {i : Nat} {d : Addr} {o : Obj} {kk : List (Key × V)} {kvs : List (Key × DV)} (hi : μ[i]? = some d) (hd : H d = some (.frz o (.dK kk))) : RI K (Itk d o kk) ⟨kvs.map fun p => kD p.1, [(i, .rod kvs)]⟩ μ H := by
  intro m1 μ1 H1 e R g j
  have g1 : m1[i]? = some (.rod kvs) := guard1 g
  have h0 := e.frz _ _ _ hd
  obtain ⟨o', kk', h1, r1⟩ := R.obj i d _ (e.pre i d hi) g1
  rw [h0] at h1
  cases h1
  refine ⟨fun dk hdk => ?_, fun hl => ⟨h0, ?_⟩⟩
  · have hdk' : (kvs.map fun p => kD p.1)[j]? = some dk := hdk
    rw [List.getElem?_map] at hdk'
    obtain ⟨p, h4, h5⟩ := Option.map_eq_some_iff.mp hdk'
    obtain ⟨q, h6, h7, h8⟩ := rkv_get r1 h4
    refine ⟨⟨h0, (List.getElem?_eq_some_iff.mp h6).1⟩, fun x H' ⟨e1, k', v', e2, e3⟩ => ?_⟩
    subst e1 e3
    rw [h6] at e2
    cases e2
    subst h5
    rw [h7]
    exact ⟨Ext.refl, R, rv_key _⟩
  · have := Paired.length r1
    have hl' : (kvs.map fun p => kD p.1).length = j := hl
    rw [List.length_map] at hl'
    omega
theorem si_any (h : SE C e A) : SI C tg e (iAnyD A) := by
  obtain ⟨t, p, d⟩ := h
  refine ⟨iAny C.K t, fun X hX => by rw [← hX.K]; exact pi_any (p X hX), ⟨fun env m μ σ H R Rl E q => ?_⟩⟩
  refine d.run env m μ σ H _ Rl E (wp.mono (wp.bind q) fun x H1 ⟨dx, m1, μ1, e1, R1, r1, h1⟩ => ?_)
  cases r1 with
  | @ref i a hi =>
    have h1' : wp C.K C.W (fun μ H it J => RI C.K J it μ H) μ1 H1 (match m1[i]? with
      | some (.lst ds) => .ok ⟨ds, [(i, .lst ds)]⟩ m1
      | some (.rol ds) => .ok ⟨ds, [(i, .rol ds)]⟩ m1
      | some (.rod kvs) => .ok ⟨kvs.map fun p => kD p.1, [(i, .rod kvs)]⟩ m1
      | _ => .bad) R := h1
    cases g : m1[i]? with
    | none => rw [g] at h1'; exact h1'.elim
    | some o =>
      rw [g] at h1'
      cases o with
      | lst ds =>
        obtain ⟨xs, s, r⟩ := ro_sq (ds := ds) (.inl rfl) (R1.obj i a _ hi g)
        exact .inl ⟨a, rfl, ⟨xs, s⟩, wp.ok h1' R1 (ri_list (.inl rfl) hi)⟩
      | rol ds =>
        obtain ⟨xs, s, r⟩ := ro_sq (ds := ds) (.inr rfl) (R1.obj i a _ hi g)
        exact .inl ⟨a, rfl, ⟨xs, s⟩, wp.ok h1' R1 (ri_list (.inr rfl) hi)⟩
      | rod kvs =>
        obtain ⟨o, kk, hd, r1⟩ := R1.obj i a _ hi g
        refine .inr (.inr (.inr ⟨a, o, kk, rfl, hd, ?_⟩))
        exact wp.ok h1' R1 (ri_keys hi hd)
      | _ => exact h1'.elim
  | tup s r => exact .inr (.inl ⟨_, rfl, ⟨_, s⟩, wp.ok h1 R1 (ri_tup s r)⟩)
  | str z => exact .inr (.inr (.inl ⟨z, rfl, wp.ok h1 R1 ri_str⟩))
  | _ => exact h1.elim

/-! ### ranges -/
def rng (lo : Int) (n : Nat) : List DV := (List.range n).map fun (i : Nat) => DV.int (lo + (i : Int))
theorem rng_get {lo : Int} {n j : Nat} {d : DV} (h : (rng lo n)[j]? = some d) : j < n ∧ d = .int (lo + (j : Int)) := by
  unfold rng at h
  rw [List.getElem?_map] at h
  obtain ⟨k, h1, h2⟩ := Option.map_eq_some_iff.mp h
  have hl := (List.getElem?_eq_some_iff.mp h1).1
  rw [List.length_range] at hl
  rw [List.getElem?_range hl] at h1
  cases h1
  exact ⟨hl, h2.symm⟩
theorem rng_length (lo : Int) (n : Nat) : (rng lo n).length = n := by simp [rng]
theorem ri_rng {lo : Int} {n : Nat} : RI K (Itr lo n) ⟨rng lo n, []⟩ μ H := by
  intro m1 μ1 H1 e R g j
  refine ⟨fun d hd => ?_, fun hl => by
    have hl' : (rng lo n).length ≤ j := Nat.le_of_eq hl
    rw [rng_length] at hl'
    exact hl'⟩
  obtain ⟨h1, rfl⟩ := rng_get hd
  refine ⟨h1, fun x H' ⟨e1, e2⟩ => ?_⟩
  subst e1 e2
  exact ⟨Ext.refl, R, .int _⟩
def Gb (C : Cn) (x : Str) : Prop := C.sc.names.lookup x = some .globalImplicit
theorem Gb.gl {X : Cx} {x : Str} (h : C.Is X) (g : Gb C x) : Gl X x := by
  show X.env.scope.names.lookup x = _
  rw [h.sc]; exact g
structure In62 (j : Int) : Prop where
  lo : -(2 ^ 62) ≤ j
  hi : j < 2 ^ 62
noncomputable instance (j : Int) : Decidable (In62 j) := Classical.propDecidable _
noncomputable def iRng1D (A : DE) : DI := fun env m => (A env m).bind fun x m1 => match x with
  | .int j => if In62 j then .ok ⟨rng 0 j.toNat, []⟩ m1 else .bad
  | _ => .bad
theorem si_range1 {p : Pos} (h : SE C a A) (hg : Gb C "range" := by rfl) (hm : C.mg "range" = none) (hs : ∀ env, starEach [a] env = [(false, eval a env)] := by intro _; rfl) : SI C tg (.Call (.Name "range" p) [a] [] pos) (iRng1D A) := by
  obtain ⟨t, pp, d⟩ := sa_cons h sa_nil (hs := fun env => by rw [hs]; rfl)
  refine ⟨iRng1 t, fun X hX => pi_range1 (hg.gl hX) (by rw [hX.mg]; exact hm) (pp X hX) (hs X.env), ⟨fun env m μ σ H R Rl E q => ?_⟩⟩
  refine d.run env m μ σ H _ Rl E ?_
  have q' : wp C.K C.W (fun μ H it J => RI C.K J it μ H) μ H ((aCons A aNil env m).bind fun xs m1 => match xs with
    | [.int j] => if In62 j then .ok ⟨rng 0 j.toNat, []⟩ m1 else .bad
    | _ => .bad) R := by
    unfold iRng1D at q
    unfold aCons aNil
    cases o : A env m with
    | ok x m1 => rw [o] at q; cases x <;> exact q
    | exc x m1 => rw [o] at q; exact q
    | bad => rw [o] at q; exact q
  refine wp.mono (wp.bind q') fun xs H1 ⟨ds, m1, μ1, e1, R1, r1, h1⟩ => ?_
  cases r1 with
  | nil => exact h1.elim
  | @cons d1 v1 ds vs r1 r2 =>
    cases r2 with
    | cons _ _ => cases r1 <;> exact h1.elim
    | nil =>
      cases r1 with
      | int j =>
        have h1' : wp C.K C.W (fun μ H it J => RI C.K J it μ H) μ1 H1 (if In62 j then .ok ⟨rng 0 j.toNat, []⟩ m1 else .bad) R := h1
        by_cases hj : In62 j
        · rw [if_pos hj] at h1'
          exact ⟨j, rfl, hj.lo, hj.hi, wp.ok h1' R1 ri_rng⟩
        · rw [if_neg hj] at h1'; exact h1'.elim
      | _ => exact h1.elim
noncomputable def iRng2D (A B : DE) : DI := fun env m => (A env m).bind fun x m1 => (B env m1).bind fun y m2 => match x, y with
  | .int i, .int j => if In62 i ∧ In62 j then .ok ⟨rng i (j - i).toNat, []⟩ m2 else .bad
  | _, _ => .bad
theorem si_range2 {p : Pos} (h : SE C a A) (h' : SE C b B) (hg : Gb C "range" := by rfl) (hm : C.mg "range" = none) (hs : ∀ env, starEach [a, b] env = [(false, eval a env), (false, eval b env)] := by intro _; rfl)
    (hs2 : ∀ env, starEach [b] env = [(false, eval b env)] := by intro _; rfl) : SI C tg (.Call (.Name "range" p) [a, b] [] pos) (iRng2D A B) := by
  obtain ⟨t, pp, d⟩ := sa_cons h (sa_cons h' sa_nil (hs := fun env => by rw [hs2]; rfl)) (hs := fun env => by rw [hs, hs2])
  refine ⟨iRng2 t, fun X hX => pi_range2 (hg.gl hX) (by rw [hX.mg]; exact hm) (pp X hX) (hs X.env) (hs2 X.env), ⟨fun env m μ σ H R Rl E q => ?_⟩⟩
  refine d.run env m μ σ H _ Rl E ?_
  have q' : wp C.K C.W (fun μ H it J => RI C.K J it μ H) μ H ((aCons A (aCons B aNil) env m).bind fun xs m1 => match xs with
    | [.int i, .int j] => if In62 i ∧ In62 j then .ok ⟨rng i (j - i).toNat, []⟩ m1 else .bad
    | _ => .bad) R := by
    unfold iRng2D at q
    unfold aCons aNil
    cases o : A env m with
    | ok x m1 =>
      rw [o] at q
      simp only [Out.bind_ok] at q ⊢
      cases o2 : B env m1 with
      | ok y m2 => rw [o2] at q; cases x <;> cases y <;> exact q
      | exc y m2 => rw [o2] at q; exact q
      | bad => rw [o2] at q; exact q
    | exc x m1 => rw [o] at q; exact q
    | bad => rw [o] at q; exact q
  refine wp.mono (wp.bind q') fun xs H1 ⟨ds, m1, μ1, e1, R1, r1, h1⟩ => ?_
  cases r1 with
  | nil => exact h1.elim
  | @cons d1 v1 ds vs r1 r2 =>
    cases r2 with
    | nil => cases r1 <;> exact h1.elim
    | @cons d2 v2 ds vs r2 r3 =>
      cases r3 with
      | cons _ _ => cases r1 <;> cases r2 <;> exact h1.elim
      | nil =>
        cases r1 with
        | int i =>
          cases r2 with
          | int j =>
            have h1' : wp C.K C.W (fun μ H it J => RI C.K J it μ H) μ1 H1 (if In62 i ∧ In62 j then .ok ⟨rng i (j - i).toNat, []⟩ m1 else .bad) R := h1
            by_cases hj : In62 i ∧ In62 j
            · rw [if_pos hj] at h1'
              exact ⟨i, j, rfl, ⟨hj.1.lo, hj.1.hi, hj.2.lo, hj.2.hi⟩, wp.ok h1' R1 ri_rng⟩
            · rw [if_neg hj] at h1'; exact h1'.elim
          | _ => exact h1.elim
        | _ => cases r2 <;> exact h1.elim

/-! ### for -/
open Classical in
noncomputable def forD (gs : List (Nat × MO)) (G : DG) (S : DS) : List DV → DS
  | [], env, m => if guard gs m then .ok (.nx env) m else .bad
  | d :: ds, env, m => if guard gs m then (G d env m).bind fun env1 m1 => (S env1 m1).bind fun fl m2 => (match fl with
      | .nx env2 => forD gs G S ds env2 m2
      | .ct env2 => forD gs G S ds env2 m2
      | .bk env2 => .ok (.nx env2) m2
      | .rt d => .ok (.rt d) m2) else .bad
noncomputable def sFor (I : DI) (G : DG) (S : DS) : DS := fun env m => (I env m).bind fun it m1 => forD it.gs G S it.ds env m1
theorem ss_for (hi : SI C tg iter I) (hg : SG C tg G) (hb : SSs C body S) (hs : ∀ env x, foldedSetIterable iter env x = pure x := by intro _ _; rfl) : SS C (.For tg iter body [] pos) (sFor I G S) := by
  obtain ⟨wi, pi, di⟩ := hi
  obtain ⟨g, pg, dg⟩ := hg
  obtain ⟨u, pu, du⟩ := hb
  refine ⟨tFor wi g u, fun X hX => ps_for hX.po hX.calm (pi X hX) (pg X hX) (pu X hX) (hs X.env), ⟨fun env m μ σ H Dn R E q => ?_⟩⟩
  refine di.run env m μ σ H _ R E (wp.mono (wpS.bind q) fun J H1 ⟨it, m1, μ1, e1, R1, ri, h1⟩ => ?_)
  refine ⟨fun i k σ' H' => i ≤ it.ds.length ∧ k = it.ds.length - i ∧ ∃ env' m' μ', Ext C.K μ1 H1 μ' H' ∧ Rel C.K m' μ' H' ∧ RE C.K μ' H' env' σ' ∧ wpS C.K C.W μ' H' (forD it.gs G S (it.ds.drop i) env' m') Dn,
    ⟨_, Nat.zero_le _, rfl, env, m1, μ1, Ext.refl, R1, E.mono e1, by simpa using h1⟩, ?_⟩
  rintro i k σ2 H2 ⟨hle, hk, env2, m2, μ2, e2, R2, E2, q2⟩
  subst hk
  cases hd : it.ds.drop i with
  | nil =>
    have hl : it.ds.length ≤ i := List.drop_eq_nil_iff.mp hd
    rw [hd] at q2
    unfold forD at q2
    by_cases hg : guard it.gs m2
    · rw [if_pos hg] at q2
      exact .inl ⟨(ri m2 μ2 H2 e2 R2 hg i).2 (Nat.le_antisymm hl hle), q2.nx R2 E2⟩
    · rw [if_neg hg] at q2; exact q2.elim
  | cons d ds =>
    have hlt : i < it.ds.length := by
      rcases Nat.lt_or_ge i it.ds.length with h | h
      · exact h
      · rw [List.drop_eq_nil_iff.mpr h] at hd; cases hd
    have hgd : it.ds[i]? = some d := by
      rw [List.drop_eq_getElem_cons hlt] at hd
      cases hd
      simp [hlt]
    have hrest : it.ds.drop (i + 1) = ds := by
      rw [List.drop_eq_getElem_cons hlt] at hd
      cases hd
      rfl
    rw [hd] at q2
    unfold forD at q2
    by_cases hg : guard it.gs m2
    · rw [if_pos hg] at q2
      obtain ⟨go, yl⟩ := (ri m2 μ2 H2 e2 R2 hg i).1 d hgd
      refine .inr ⟨go, fun σ' H' => ∃ env' m' μ', Ext C.K μ1 H1 μ' H' ∧ Rel C.K m' μ' H' ∧ RE C.K μ' H' env' σ' ∧ wpS C.K C.W μ' H' (forD it.gs G S ds env' m') Dn, fun σ' H' hh => ⟨it.ds.length - (i + 1), by omega, hlt, rfl, by rw [hrest]; exact hh⟩, fun x H3 y => ?_⟩
      obtain ⟨e3, R3, r3⟩ := yl x H3 y
      refine dg.run d x env2 m2 μ2 σ2 H3 _ R3 (E2.mono e3) r3 (wp.mono (wpS.bind (wpS.later e3 q2)) fun σ4 H4 ⟨env4, m4, μ4, e4, R4, E4, q4⟩ => ?_)
      refine du.run env4 m4 μ4 σ4 H4 _ R4 E4 ?_
      dsimp only at q4
      cases o : S env4 m4 with
      | ok fl m5 =>
        rw [o] at q4
        intro μ5 H5 e5 R5
        have e15 : Ext C.K μ1 H1 μ5 H5 := ((e2.trans e3).trans e4).trans e5
        cases fl with
        | nx env5 => exact fun σ' E' => ⟨env5, m5, μ5, e15, R5, E', wpS.later e5 q4⟩
        | ct env5 => exact fun σ' E' => ⟨env5, m5, μ5, e15, R5, E', wpS.later e5 q4⟩
        | bk env5 => exact fun σ' E' => q4 μ5 H5 e5 R5 σ' E'
        | rt dd => exact fun v r => q4 μ5 H5 e5 R5 v r
      | exc x m5 => rw [o] at q4; exact q4
      | bad => rw [o] at q4; exact q4
    · rw [if_neg hg] at q2; exact q2.elim

/-! ### the block of a comprehension -/
def E0' : XK := fun _ _ _ => False
abbrev Cn.blk (C : Cn) (scope : Scope) : Cn := { C with sc := relS scope C.sc, W := E0', df := false }
theorem Cn.Is.blk {X : Cx} (h : C.Is X) (scope : Scope) (s : Shared) (H : Hp) (Ca : Addr) (cl : List (Str × Addr)) (fp : List Addr) : (C.blk scope).Is (X.blk s H scope (compEnvC scope cl Ca X.env) fp) where
  P := h.P
  w := h.w
  K := h.K
  mg := h.mg
  base := h.base
  N := h.N
  nd := h.nd
  sc := by
    show relS scope X.env.scope = relS scope C.sc
    rw [h.sc]
  calm := h.calm
  room := h.room
  po := PassesOwn.never
  px := passL
  fn := fun q => nomatch q
/-- a test list -/
def STs (C : Cn) (ifs : List Expr) (D : DT) : Prop := ∃ t, (∀ X, C.Is X → PTs X ifs t) ∧ SdT C.K C.W t D
def tYesD : DT := fun _ m => .ok true m
theorem sts_nil : STs C [] tYesD := ⟨tYes, fun X h => pts_nil, ⟨fun env m μ σ H Q R E q => wp.ok q R rfl⟩⟩
theorem sts_one (h : ST C c T) : STs C [c] T := let ⟨t, p, d⟩ := h; ⟨t, fun X hX => pts_one (p X hX), d⟩
def wipeD (vs : List Nat) (env : Env) : Env := vs.foldr (fun v e => e.set v none) env
theorem RE.wipe {env : Env} {σ : L2.St} (E : RE K μ H env σ) : ∀ vs : List Nat, RE K μ H (wipeD vs env) (L2.wipe σ vs)
  | [] => E
  | v :: vs => by
    have ih := RE.wipe E vs
    refine ⟨by simpa [wipeD, L2.wipe] using ih.len, fun j d hd => ?_⟩
    have hd' : ((wipeD vs env).set v none)[j]? = some (some d) := hd
    by_cases hj : v = j
    · subst hj
      have hl : v < (wipeD vs env).length := by
        have := (List.getElem?_eq_some_iff.mp hd').1
        simpa using this
      rw [List.getElem?_set_self hl] at hd'
      cases hd'
    · rw [List.getElem?_set_ne hj] at hd'
      obtain ⟨w, h1, h2⟩ := ih.get j d hd'
      exact ⟨w, by show ((L2.wipe σ vs).set v none)[j]? = _; rw [List.getElem?_set_ne hj]; exact h1, h2⟩

/-- a target that sets only slots of vs -/
structure FrG (t : TG) (vs : List Nat) : Prop where
  run : ∀ (v : V) (σ : L2.St) (H : Hp) (Q Q' : L2.St → Hp → Prop), t v σ H Q → (∀ σ2 H2, Q σ2 H2 → σ2.length = σ.length → (∀ j, j ∉ vs → σ2[j]? = σ[j]?) → Q' σ2 H2) → t v σ H Q'
structure FrGs (t : TGs) (vs : List Nat) : Prop where
  run : ∀ (v : List V) (σ : L2.St) (H : Hp) (Q Q' : L2.St → Hp → Prop), t v σ H Q → (∀ σ2 H2, Q σ2 H2 → σ2.length = σ.length → (∀ j, j ∉ vs → σ2[j]? = σ[j]?) → Q' σ2 H2) → t v σ H Q'
def SGv (C : Cn) (vs : List Nat) (e : Expr) (D : DG) : Prop := ∃ t, (∀ X, C.Is X → PG X e t) ∧ SdG C.K C.W t D ∧ FrG t vs
def SGvs (C : Cn) (vs : List Nat) (e : List Expr) (D : DGs) : Prop := ∃ t, (∀ X, C.Is X → PGs X e t) ∧ SdGs C.K C.W t D ∧ FrGs t vs
variable {vs : List Nat} {Gs : DGs}
theorem sgv_var (i : Nat) {x : Str} (hi : C.N[i]? = some x := by rfl) (hx : Sto C x := by first | exact Or.inl rfl | exact Or.inr ⟨rfl, rfl⟩) (hv : i ∈ vs := by decide) : SGv C vs (.Name x pos) (gVar i) :=
  ⟨gName i, fun X h => pg_name (by rw [h.N]; exact h.nd) (by rw [h.N]; exact hi) (hx.loc h) (hx.fn h), ⟨fun d v env m μ σ H Q R E r q => wp.ok q R (E.set i r)⟩,
    ⟨fun v σ H Q Q' q k => k _ _ q (by simp) fun j hj => List.getElem?_set_ne (by rintro rfl; exact hj hv)⟩⟩
theorem sgvs_nil : SGvs C vs [] gsNil := by
  obtain ⟨t, p, d⟩ := sgs_nil (C := C)
  refine ⟨gNil, fun X h => pgs_nil, ⟨fun ds vs env m μ σ H Q R E r q => ?_⟩, ⟨fun v σ H Q Q' q k => ⟨q.1, k _ _ q.2 rfl fun _ _ => rfl⟩⟩⟩
  cases r with
  | nil => exact ⟨rfl, wp.ok q R E⟩
  | cons _ _ => exact q.elim
theorem sgvs_cons (h : SGv C vs e G) (g : SGvs C vs es Gs) (hs : ∀ env, (assignEach (e :: es) env).map (·.2) = assign e env :: (assignEach es env).map (·.2) := by intro _; rfl) : SGvs C vs (e :: es) (gsCons G Gs) := by
  obtain ⟨t, p, d, f⟩ := h
  obtain ⟨u, p', d', f'⟩ := g
  refine ⟨gCons t u, fun X hX => pgs_cons (p X hX) (p' X hX) (hs X.env), ⟨fun ds vs env m μ σ H Q R E r q => ?_⟩, ⟨fun vs' σ H Q Q' q k => ?_⟩⟩
  · cases r with
    | nil => exact q.elim
    | @cons dx v ds vs r1 r2 =>
      refine ⟨v, vs, rfl, ?_⟩
      exact d.run dx v env m μ σ H _ R E r1 (wp.mono (wp.bind q) fun σ1 H1 ⟨env1, m1, μ1, e1, R1, E1, h1⟩ => d'.run ds vs env1 m1 μ1 σ1 H1 Q R1 E1 (r2.mono e1) h1)
  · obtain ⟨v, r, e1, q⟩ := q
    exact ⟨v, r, e1, f.run v σ H _ _ q fun σ2 H2 q2 l2 g2 => f'.run r σ2 H2 Q Q' q2 fun σ3 H3 q3 l3 g3 => k σ3 H3 q3 (l3.trans l2) fun j hj => (g3 j hj).trans (g2 j hj)⟩
theorem sgv_tup {k n : Nat} (h : SGvs C vs es Gs) (hn : ∀ env, (assignEach es env).length = n := by intro _; rfl) (hst : ∀ env, (assignEach es env).findIdx? (·.1) = none := by intro _; rfl) : SGv C vs (.Tuple es k pos) (gTupD n Gs) := by
  obtain ⟨t, p, d, f⟩ := h
  refine ⟨gTup C.K n t, fun X hX => by rw [← hX.K]; exact pg_tup hX.calm (p X hX) (hn X.env) (hst X.env), ⟨fun dx v env m μ σ H Q R E r q => ?_⟩, ⟨fun v σ H Q Q' q k => ?_⟩⟩
  · cases r with
    | @tup a xs ds s r =>
      have q' : wp C.K C.W (fun μ H => RE C.K μ H) μ H (if ds.length = n then Gs ds env m else .bad) Q := q
      by_cases hl : ds.length = n
      · rw [if_pos hl] at q'
        exact ⟨a, xs, rfl, s, by rw [← r.length]; exact hl, d.run ds xs env m μ σ H Q R E r q'⟩
      · rw [if_neg hl] at q'; exact q'.elim
    | _ => exact q.elim
  · obtain ⟨a, xs, e1, s, hl, q⟩ := q
    exact ⟨a, xs, e1, s, hl, f.run xs σ H Q Q' q k⟩

theorem wipe_get {σ : L2.St} {j : Nat} : ∀ {vs : List Nat}, (L2.wipe σ vs)[j]? = if j ∈ vs then (if j < σ.length then some none else none) else σ[j]?
  | [] => by simp [L2.wipe]
  | v :: vs => by
    show ((L2.wipe σ vs).set v none)[j]? = _
    by_cases hj : v = j
    · subst hj
      rw [if_pos List.mem_cons_self]
      by_cases hl : v < σ.length
      · rw [if_pos hl, List.getElem?_set_self (by rw [wipe_length]; exact hl)]
      · rw [if_neg hl, List.getElem?_eq_none]
        rw [List.length_set, wipe_length]; omega
    · rw [List.getElem?_set_ne hj, wipe_get]
      by_cases hm : j ∈ vs
      · rw [if_pos hm, if_pos (List.mem_cons_of_mem _ hm)]
      · rw [if_neg hm, if_neg (by simp only [List.mem_cons, not_or]; exact ⟨fun e => hj e.symm, hm⟩)]
theorem wipe_same {σ σ2 : L2.St} (hl : σ2.length = (L2.wipe σ vs).length) (hg : ∀ j, j ∉ vs → σ2[j]? = (L2.wipe σ vs)[j]?) : L2.wipe σ2 vs = L2.wipe σ vs := by
  refine List.ext_getElem? fun j => ?_
  rw [wipe_length] at hl
  rw [wipe_get, wipe_get, hl]
  by_cases hm : j ∈ vs
  · rw [if_pos hm, if_pos hm]
  · rw [if_neg hm, if_neg hm, hg j hm, wipe_get, if_neg hm]

/-- nothing may be raised -/
def Out.nox {α : Type} (o : Out α) : Out α := match o with
  | .ok a m => .ok a m
  | _ => .bad
@[simp] theorem Out.nox_ok {α : Type} (a : α) (m : Mem) : (Out.ok a m).nox = .ok a m := id rfl
@[simp] theorem Out.nox_bad {α : Type} : (Out.bad : Out α).nox = .bad := id rfl
@[simp] theorem Out.nox_exc {α : Type} (x : DX) (m : Mem) : (Out.exc x m : Out α).nox = .bad := id rfl
theorem wp.bindX {α β γ δ : Type} {R : List Addr → Hp → α → β → Prop} {R' : List Addr → Hp → γ → δ → Prop} {o : Out α} {f : α → Mem → Out γ} {Q : δ → Hp → Prop} (h : wp K W R' μ H (o.nox.bind f) Q) : wp K E0' R μ H o (Mid K W R R' μ H f Q) := by
  cases o with
  | ok a m => exact fun b μ2 H2 e2 r1 r2 => ⟨a, m, μ2, e2, r1, r2, wp.later e2 h⟩
  | exc x m => exact h.elim
  | bad => exact h
open Classical in
noncomputable def compD (gs : List (Nat × MO)) (G : DG) (T : DT) (E : DE) (k : Nat) (env : Env) : List DV → Mem → Out Unit
  | [], m => if guard gs m then .ok () m else .bad
  | d :: ds, m => if guard gs m then (G d env m).nox.bind fun env1 m1 => (T env1 m1).nox.bind fun c m2 => if c then (E env1 m2).nox.bind fun y m3 => (match m3[k]? with
      | some (.lst acc) => if acc.length < 16777216 then compD gs G T E k env ds (m3.set k (.lst (acc ++ [y]))) else .bad
      | _ => .bad) else compD gs G T E k env ds m2 else .bad
/-- [e for target in iter if test]: the new list stands at the first free place from the start -/
noncomputable def eComp (I : DI) (G : DG) (T : DT) (E : DE) (vs : List Nat) : DE := fun env m => (I env m).bind fun it m1 =>
  (compD it.gs G T E m1.length (wipeD vs env) it.ds (m1 ++ [.lst []])).bind fun _ m2 => .ok (.ref m1.length) m2
theorem sd_comp {scope : Scope} {wi : TI} {g : TG} {tt : TT} {te : TE} (di : SdI C.K C.W wi I) (dg : SdG C.K E0' g G) (fg : FrG g vs) (dt : SdT C.K E0' tt T) (de : Sd C.K E0' te A) : Sd C.K C.W (tLc wi g tt te vs) (eComp I G T A vs) := by
  refine ⟨fun env m μ σ H Q R E q => ?_⟩
  refine di.run env m μ σ H _ R E (wp.mono (wp.bind q) fun J H1 ⟨it, m1, μ1, e1, R1, ri, h1⟩ => ?_)
  intro D hD
  have R0 : Rel C.K (m1 ++ [.lst []]) (μ1 ++ [D]) (upd H1 D (.lst [])) := rel_lst R1 hD .nil
  have e0 : Ext C.K μ1 H1 (μ1 ++ [D]) (upd H1 D (.lst [])) := (ext_fresh hD).trans ext_snoc
  have hk0 : (μ1 ++ [D])[m1.length]? = some D := by rw [← R1.len]; simp
  refine ⟨fun i k H' => i ≤ it.ds.length ∧ k = it.ds.length - i ∧ ∃ m' μ', Ext C.K (μ1 ++ [D]) (upd H1 D (.lst [])) μ' H' ∧ Rel C.K m' μ' H' ∧ wp C.K C.W (RV C.K) μ' H' ((compD it.gs G T A m1.length (wipeD vs env) (it.ds.drop i) m').bind fun _ m2 => .ok (.ref m1.length) m2) Q,
    ⟨_, Nat.zero_le _, rfl, m1 ++ [.lst []], μ1 ++ [D], Ext.refl, R0, by simpa using wp.later e0 h1⟩, ?_⟩
  rintro i k H2 ⟨hle, hk, m2, μ2, e2, R2, q2⟩
  subst hk
  have hkD : μ2[m1.length]? = some D := e2.pre _ _ hk0
  cases hd : it.ds.drop i with
  | nil =>
    have hl : it.ds.length ≤ i := List.drop_eq_nil_iff.mp hd
    rw [hd] at q2
    unfold compD at q2
    by_cases hg : guard it.gs m2
    · rw [if_pos hg] at q2
      exact .inl ⟨(ri m2 μ2 H2 (e0.trans e2) R2 hg i).2 (Nat.le_antisymm hl hle), wp.ok q2 R2 (.ref hkD)⟩
    · rw [if_neg hg] at q2; exact q2.elim
  | cons d ds =>
    have hlt : i < it.ds.length := by
      rcases Nat.lt_or_ge i it.ds.length with h | h
      · exact h
      · rw [List.drop_eq_nil_iff.mpr h] at hd; cases hd
    have hgd : it.ds[i]? = some d := by
      rw [List.drop_eq_getElem_cons hlt] at hd
      cases hd
      simp [hlt]
    have hrest : it.ds.drop (i + 1) = ds := by
      rw [List.drop_eq_getElem_cons hlt] at hd
      cases hd
      rfl
    rw [hd] at q2
    unfold compD at q2
    by_cases hg : guard it.gs m2
    · rw [if_pos hg] at q2
      obtain ⟨go, yl⟩ := (ri m2 μ2 H2 (e0.trans e2) R2 hg i).1 d hgd
      refine .inr ⟨go, fun H' => ∃ m' μ', Ext C.K (μ1 ++ [D]) (upd H1 D (.lst [])) μ' H' ∧ Rel C.K m' μ' H' ∧ wp C.K C.W (RV C.K) μ' H' ((compD it.gs G T A m1.length (wipeD vs env) ds m').bind fun _ m2 => .ok (.ref m1.length) m2) Q, fun H' hh => ⟨it.ds.length - (i + 1), by omega, hlt, rfl, by rw [hrest]; exact hh⟩, fun x H3 y => ?_⟩
      obtain ⟨e3, R3, r3⟩ := yl x H3 y
      have E3 : RE C.K μ2 H3 (wipeD vs env) (L2.wipe σ vs) := ((E.mono e1).mono ((e0.trans e2).trans e3)).wipe vs
      have q3 := wp.later e3 q2
      have assoc : ∀ {α β γ : Type} (o : Out α) (f : α → Mem → Out β) (g : β → Mem → Out γ), (o.bind f).bind g = o.bind fun a m => (f a m).bind g := by
        intro α β γ o f g; cases o <;> rfl
      rw [assoc] at q3
      refine fg.run x _ H3 _ _ (dg.run d x (wipeD vs env) m2 μ2 _ H3 _ R3 E3 r3 (wp.bindX q3)) fun σ4 H4 ⟨env4, m4, μ4, e4, R4, E4, q4⟩ l4 g4 => ?_
      refine ⟨wipe_same l4 g4, ?_⟩
      dsimp only at q4
      rw [assoc] at q4
      refine dt.run env4 m4 μ4 σ4 H4 _ R4 E4 (wp.mono (wp.bindX q4) fun c H5 ⟨dc, m5, μ5, e5, R5, r5, q5⟩ => ?_)
      have r5' : dc = c := r5
      subst r5'
      have e25 : Ext C.K (μ1 ++ [D]) (upd H1 D (.lst [])) μ5 H5 := ((e2.trans e3).trans e4).trans e5
      cases dc with
      | false =>
        rw [if_neg Bool.false_ne_true]
        exact ⟨m5, μ5, e25, R5, q5⟩
      | true =>
        rw [if_pos rfl]
        have q5' : wp C.K C.W (RV C.K) μ5 H5 (((A env4 m5).nox.bind fun y m3 => (match m3[m1.length]? with
          | some (.lst acc) => if acc.length < 16777216 then compD it.gs G T A m1.length (wipeD vs env) ds (m3.set m1.length (.lst (acc ++ [y]))) else .bad
          | _ => .bad)).bind fun _ m2 => .ok (.ref m1.length) m2) Q := q5
        rw [assoc] at q5'
        refine de.run env4 m5 μ5 σ4 H5 _ R5 (E4.mono e5) (wp.mono (wp.bindX q5') fun y H6 ⟨dy, m6, μ6, e6, R6, r6, q6⟩ => ?_)
        dsimp only at q6
        cases g6 : m6[m1.length]? with
        | none => rw [g6] at q6; exact q6.elim
        | some o =>
          rw [g6] at q6
          cases o with
          | lst acc =>
            dsimp only at q6
            by_cases hz : acc.length < 16777216
            · rw [if_pos hz] at q6
              have hD6 : μ6[m1.length]? = some D := e6.pre _ _ (e25.pre _ _ hk0)
              obtain ⟨xs, hx, rx⟩ := R6.obj _ _ _ hD6 g6
              refine ⟨xs, hx, by rw [← rx.length, line_eq]; exact hz, ?_⟩
              have ew : Ext C.K μ6 H6 μ6 (upd H6 D (.lst (xs ++ [y]))) := ext_write hx ⟨(by simp), (by simp), (by simp)⟩ (by simp)
              refine ⟨m6.set m1.length (.lst (acc ++ [dy])), μ6, (e25.trans e6).trans ew, R6.write hD6 g6 trivial ⟨_, upd_same, (rx.mono ew).append (.cons (r6.mono ew) .nil)⟩ trivial, wp.later ew q6⟩
            · rw [if_neg hz] at q6; exact q6.elim
          | _ => exact q6.elim
    · rw [if_neg hg] at q2; exact q2.elim
theorem se_comp {elt : Expr} {ifs : List Expr} {scope : Scope} {own : List (Str × Nat)} (hi : SI C tg iter I) (ok : BlkOk C.N C.sc scope own) (hg : SGv (C.blk scope) (own.map (·.2)) tg G) (ht : STs (C.blk scope) ifs T) (he : SE (C.blk scope) elt A)
    (hs : ∀ env x, foldedSetIterable iter env x = pure x := by intro _ _; rfl) : SE C (.ListComp elt [⟨tg, iter, ifs, 0⟩] scope pos) (eComp I G T A (own.map (·.2))) := by
  obtain ⟨wi, pi, di⟩ := hi
  obtain ⟨g, pg, dg, fg⟩ := hg
  obtain ⟨tt, pt, dt⟩ := ht
  obtain ⟨te, pe, de⟩ := he
  exact ⟨_, fun X hX => pe_lc hX.calm (by rw [hX.N]; exact hX.nd) (pi X hX) (by rw [hX.N, hX.sc]; exact ok) (fun s H Ca cl fp => pg _ (hX.blk scope s H Ca cl fp)) (fun s H Ca cl fp => pt _ (hX.blk scope s H Ca cl fp))
    (fun s H Ca cl fp => pe _ (hX.blk scope s H Ca cl fp)) (hs X.env), sd_comp (scope := scope) di dg fg dt de⟩
end
end DL

end
section
set_option Elab.async false
set_option linter.all false
set_option maxRecDepth 100000
set_option maxHeartbeats 4000000
set_option autoImplicit false
/-! DL5: what is left behind a call (gc), defs, calls of defs. -/
namespace DL
open PySem PySem.Spec L2

/-! ### references below n -/
mutual
def DV.lo (n : Nat) : DV → Prop
  | .ref i => i < n
  | .tup ds => loAll n ds
  | _ => True
def loAll (n : Nat) : List DV → Prop
  | [] => True
  | d :: ds => d.lo n ∧ loAll n ds
end
theorem loAll_iff {n : Nat} : ∀ {ds : List DV}, loAll n ds ↔ ∀ d ∈ ds, d.lo n
  | [] => by simp [loAll]
  | d :: ds => by simp [loAll, loAll_iff (ds := ds)]
def MO.lo (n : Nat) : MO → Prop
  | .lst ds => loAll n ds
  | .rol ds => loAll n ds
  | .dic kvs => ∀ p ∈ kvs, p.2.lo n
  | .rod kvs => ∀ p ∈ kvs, p.2.lo n
  | .ins _ fs => loAll n (fs.map (·.2))
section
variable {K : PySem.W.Frag} {W : XK} {μ μ' : List Addr} {H H' : Hp} {m m' : Mem}
mutual
theorem RV.low {n : Nat} (k : ∀ i, i < n → μ'[i]? = μ[i]?) : ∀ (d : DV) (v : V), RV K μ' H d v → d.lo n → RV K μ H d v
  | .non, _, .non, _ => .non
  | .bl _, _, .bl b, _ => .bl b
  | .int _, _, .int i, _ => .int i
  | .str _, _, .str x, _ => .str x
  | .tup ds, _, .tup q r, h => .tup q (RVs.low k ds _ r (by simpa [DV.lo] using h))
  | .ref i, _, .ref e, h => .ref ((k i (by simpa [DV.lo] using h)).symm.trans e)
theorem RVs.low {n : Nat} (k : ∀ i, i < n → μ'[i]? = μ[i]?) : ∀ (ds : List DV) (vs : List V), RVs K μ' H ds vs → loAll n ds → RVs K μ H ds vs
  | [], _, .nil, _ => .nil
  | d :: ds, _, .cons a b, h => by
    simp only [loAll] at h
    exact .cons (RV.low k d _ a h.1) (RVs.low k ds _ b h.2)
end
mutual
theorem RV.bel : ∀ (d : DV) (v : V), RV K μ H d v → d.lo μ.length
  | .non, _, .non => by simp [DV.lo]
  | .bl _, _, .bl b => by simp [DV.lo]
  | .int _, _, .int i => by simp [DV.lo]
  | .str _, _, .str x => by simp [DV.lo]
  | .tup ds, _, .tup q r => by simpa [DV.lo] using RVs.bel ds _ r
  | .ref i, _, .ref e => by simpa [DV.lo] using (List.getElem?_eq_some_iff.mp e).1
theorem RVs.bel : ∀ (ds : List DV) (vs : List V), RVs K μ H ds vs → loAll μ.length ds
  | [], _, .nil => by simp [loAll]
  | d :: ds, _, .cons a b => by simpa [loAll] using ⟨RV.bel d _ a, RVs.bel ds _ b⟩
end
theorem RO.low {n : Nat} {a : Addr} {o : MO} (k : ∀ i, i < n → μ'[i]? = μ[i]?) (r : RO K μ' H a o) (h : o.lo n) : RO K μ H a o := by
  have dl : ∀ {kvs : List (Key × DV)} {kk : List (Key × V)}, RKV K μ' H kvs kk → (∀ p ∈ kvs, p.2.lo n) → RKV K μ H kvs kk := by
    intro kvs kk r
    induction r with
    | nil => intro _; exact .nil
    | cons p t ih => intro h; exact .cons ⟨p.1, RV.low k _ _ p.2 (h _ List.mem_cons_self)⟩ (ih fun q hq => h q (List.mem_cons_of_mem _ hq))
  cases o with
  | lst ds => obtain ⟨xs, h1, q⟩ := r; exact ⟨xs, h1, q.low k _ _ h⟩
  | rol ds => obtain ⟨xs, h1, q⟩ := r; exact ⟨xs, h1, q.low k _ _ h⟩
  | dic kvs => obtain ⟨kk, h1, q⟩ := r; exact ⟨kk, h1, dl q h⟩
  | rod kvs => obtain ⟨o, kk, h1, q⟩ := r; exact ⟨o, kk, h1, dl q h⟩
  | ins C fs => obtain ⟨dx, fv, h1, q1, q2⟩ := r; exact ⟨dx, fv, h1, q1, q2.low k _ _ h⟩
theorem RO.bel {a : Addr} {o : MO} (r : RO K μ H a o) : o.lo μ.length := by
  have dl : ∀ {kvs : List (Key × DV)} {kk : List (Key × V)}, RKV K μ H kvs kk → (∀ p ∈ kvs, p.2.lo μ.length) := by
    intro kvs kk r
    induction r with
    | nil => intro _ h; simp at h
    | cons p t ih =>
      intro q hq
      rcases List.mem_cons.mp hq with e | hq
      · subst e; exact RV.bel _ _ p.2
      · exact ih q hq
  cases o with
  | lst ds => obtain ⟨xs, h1, q⟩ := r; exact q.bel
  | rol ds => obtain ⟨xs, h1, q⟩ := r; exact q.bel
  | dic kvs => obtain ⟨kk, h1, q⟩ := r; exact dl q
  | rod kvs => obtain ⟨o, kk, h1, q⟩ := r; exact dl q
  | ins C fs => obtain ⟨dx, fv, h1, q1, q2⟩ := r; exact q2.bel
/-- what stood ahead stands, or has become what speaks of nothing new -/
def OldOk (m m' : Mem) : Prop := m.length ≤ m'.length ∧ ∀ i, i < m.length → m'[i]? = m[i]? ∨ ∃ o, m'[i]? = some o ∧ o.lo m.length
open Classical in
/-- what is new and not told is forgotten; a new list that is told stands first behind the old ones -/
noncomputable def gcO (m : Mem) (o : Out DV) : Out DV := match o with
  | .ok d m' => if OldOk m m' then (if d.lo m.length then .ok d (m'.take m.length) else match d with
      | .ref k => (match m'[k]? with
        | some ob => if m.length ≤ k ∧ ob.lo m.length then .ok (.ref m.length) (m'.take m.length ++ [ob]) else .ok d m'
        | none => .ok d m')
      | _ => .ok d m') else .ok d m'
  | o => o
theorem low_eq (R : Rel K m μ H) {H2 : Hp} {μ2 : List Addr} (e : Ext K μ H μ2 H2) : ∀ i, i < m.length → μ2[i]? = μ[i]? := fun i hi => by
  have hl : i < μ.length := by rw [R.len]; exact hi
  have : μ[i]? = some μ[i] := by simp [hl]
  rw [this]
  exact e.pre i _ this
theorem rel_take (R : Rel K m μ H) {H2 : Hp} {μ2 : List Addr} (e : Ext K μ H μ2 H2) (R2 : Rel K m' μ2 H2) (old : OldOk m m') : Rel K (m'.take m.length) μ H2 := by
  have lk := low_eq R e
  have look : ∀ {i : Nat} {o : MO}, (m'.take m.length)[i]? = some o → i < m.length ∧ m'[i]? = some o := fun {i o} h => by
    have hi := (List.getElem?_eq_some_iff.mp h).1
    rw [List.length_take] at hi
    have hi' : i < m.length := by omega
    rw [List.getElem?_take_of_lt hi'] at h
    exact ⟨hi', h⟩
  refine ⟨by rw [List.length_take, R.len]; have := old.1; omega, fun i a o h1 h2 => ?_, fun i j a o o' h1 h2 h3 h4 m1 m2 => ?_⟩
  · obtain ⟨hi, h3⟩ := look h2
    have r := R2.obj i a o (e.pre i a h1) h3
    refine r.low lk ?_
    rcases old.2 i hi with q | ⟨o', q, b⟩
    · rw [q] at h3
      have := (R.obj i a o h1 h3).bel
      rwa [R.len] at this
    · rw [q] at h3
      cases h3
      exact b
  · obtain ⟨hi, h3⟩ := look h3
    obtain ⟨hj, h4⟩ := look h4
    exact R2.inj i j a o o' (e.pre i a h1) (e.pre j a h2) h3 h4 m1 m2
theorem wp_gc {Q : V → Hp → Prop} {o : Out DV} (R : Rel K m μ H) (h : wp K W (RV K) μ H (gcO m o) Q) : wp K W (RV K) μ H o Q := by
  cases o with
  | exc x m' => exact h
  | bad => exact h
  | ok d m' =>
    unfold gcO at h
    dsimp only at h
    by_cases old : OldOk m m'
    · rw [if_pos old] at h
      by_cases hb : d.lo m.length
      · rw [if_pos hb] at h
        intro v μ2 H2 e2 R2 r2
        exact h v μ H2 ⟨⟨fun _ _ h => h, e2.tups⟩, e2.frz⟩ (rel_take R e2 R2 old) (r2.low (low_eq R e2) _ _ hb)
      · rw [if_neg hb] at h
        cases d with
        | ref k =>
          dsimp only at h
          cases g : m'[k]? with
          | none => rw [g] at h; exact h
          | some ob =>
            rw [g] at h
            dsimp only at h
            by_cases hc : m.length ≤ k ∧ ob.lo m.length
            · rw [if_pos hc] at h
              intro v μ2 H2 e2 R2 r2
              cases r2 with
              | @ref _ a ha =>
                have R3 := rel_take R e2 R2 old
                have ob2 := R2.obj k a ob ha g
                have ob3 : RO K μ H2 a ob := ob2.low (low_eq R e2) hc.2
                have ex : Ext K μ H (μ ++ [a]) H2 := ⟨⟨fun i b h => getElem?_snoc_old h, e2.tups⟩, e2.frz⟩
                refine h (.ref a) (μ ++ [a]) H2 ex ?_ (.ref (by rw [← R.len]; simp))
                have tl : (m'.take m.length).length = m.length := by rw [List.length_take]; have := old.1; omega
                refine ⟨by rw [List.length_append, List.length_append, R3.len, tl]; rfl, fun i b o h1 h2 => ?_, fun i j b o o' h1 h2 h3 h4 m1 m2 => ?_⟩
                · rcases getElem?_snoc h1 with h1 | ⟨e1, e3⟩
                  · rcases getElem?_snoc h2 with h2 | ⟨e4, e5⟩
                    · exact (R3.obj i b o h1 h2).mono (ext_snoc (K := K) (H := H2)).toExt0 rfl
                    · have := (List.getElem?_eq_some_iff.mp h1).1
                      rw [R.len] at this; omega
                  · rcases getElem?_snoc h2 with h2 | ⟨e4, e5⟩
                    · have := (List.getElem?_eq_some_iff.mp h2).1
                      rw [tl] at this; rw [R.len] at e1; omega
                    · subst e3 e5
                      exact ob3.mono (ext_snoc (K := K) (H := H2)).toExt0 rfl
                · -- places in the longer memory
                  have big : ∀ {i : Nat} {b : Addr} {o : MO}, (μ ++ [a])[i]? = some b → (m'.take m.length ++ [ob])[i]? = some o → ∃ x, μ2[x]? = some b ∧ m'[x]? = some o ∧ ((i < m.length ∧ x = i) ∨ (i = m.length ∧ x = k)) := by
                    intro i b o h1 h2
                    rcases getElem?_snoc h1 with h1 | ⟨e1, e3⟩
                    · rcases getElem?_snoc h2 with h2 | ⟨e4, e5⟩
                      · have hi := (List.getElem?_eq_some_iff.mp h1).1
                        rw [R.len] at hi
                        rw [List.getElem?_take_of_lt hi] at h2
                        exact ⟨i, e2.pre i b h1, h2, .inl ⟨hi, rfl⟩⟩
                      · have := (List.getElem?_eq_some_iff.mp h1).1
                        rw [R.len] at this; omega
                    · rcases getElem?_snoc h2 with h2 | ⟨e4, e5⟩
                      · have := (List.getElem?_eq_some_iff.mp h2).1
                        rw [tl] at this; rw [R.len] at e1; omega
                      · subst e3 e5
                        exact ⟨k, ha, g, .inr ⟨by rw [R.len] at e1; exact e1, rfl⟩⟩
                  obtain ⟨x, x1, x2, x3⟩ := big h1 h3
                  obtain ⟨y, y1, y2, y3⟩ := big h2 h4
                  have := R2.inj x y b o o' x1 y1 x2 y2 m1 m2
                  omega
            · rw [if_neg hc] at h; exact h
        | _ => exact h
    · rw [if_neg old] at h; exact h
end

/-- forgetting behind an expression -/
noncomputable def gc (A : DE) : DE := fun env m => gcO m (A env m)
theorem se_gc {C : Cn} {e : Expr} {A : DE} (h : SE C e A) : SE C e (gc A) := by
  obtain ⟨t, p, d⟩ := h
  exact ⟨t, p, ⟨fun env m μ σ H Q R E q => d.run env m μ σ H Q R E (wp_gc R q)⟩⟩

/-! ### defs -/
structure Sg where
  P : Program
  w : World
  K : PySem.W.Frag
  mg : Str → Option Value
  base : Heap
abbrev Sg.cn (G : Sg) (N : List Str) (sc : Scope) (k : Nat) (W : XK) : Cn := ⟨G.P, G.w, G.K, G.mg, G.base, N, sc, k, W, true⟩
def spD (K : PySem.W.Frag) (n : Nat) (F : DF) : Sp := fun vs H Q E => ∃ m μ ds, vs.length = n ∧ Rel K m μ H ∧ RVs K μ H ds vs ∧ wp K E (RV K) μ H (F ds m) Q
/-- a def that keeps D -/
structure Fn (G : Sg) (k : Nat) (x : Str) (n : Nat) (F : DF) : Prop where
  ex : ∃ f fd ps, ps.length = n ∧ FnOk G.P G.w G.K G.mg G.base (L2.CX G.P G.w) k f fd ps (spD G.K n F) ∧ G.mg x = some (.ref f) ∧ PySem.W.keepIn G.K (.ref f) = true ∧ Binds G.K fd ps []
theorem Fn.mono {G : Sg} {k j : Nat} {x : Str} {n : Nat} {F : DF} (h : Fn G j x n F) (hj : j ≤ k) : Fn G k x n F := by
  obtain ⟨f, fd, ps, h1, h2, h3⟩ := h.ex
  exact ⟨f, fd, ps, h1, h2.mono hj, h3⟩
/-- what is told of a def may be told in other words -/
def Fin (F F' : DF) : Prop := ∀ ds m, F ds m = .bad ∨ F ds m = F' ds m
theorem Fn.as {G : Sg} {k : Nat} {x : Str} {n : Nat} {F F' : DF} (h : Fn G k x n F') (hF : ∀ ds m, F ds m ≠ .bad → F' ds m = F ds m) : Fn G k x n F := by
  obtain ⟨f, fd, ps, h1, h2, h3⟩ := h.ex
  refine ⟨f, fd, ps, h1, h2.imp fun vs H Q E ⟨m, μ, ds, e1, R, r, q⟩ => ⟨m, μ, ds, e1, R, r, ?_⟩, h3⟩
  have : F ds m ≠ .bad := fun e => by rw [e] at q; exact q
  rw [hF ds m this]
  exact q
def envOf (N : Nat) (ds : List DV) : Env := ds.map some ++ List.replicate (N - ds.length) none
noncomputable def runD (N : Nat) (n : Nat) (S : DS) : DF := fun ds m => if ds.length = n then gcO m ((S (envOf N ds) m).bind fun fl m1 => match fl with
  | .rt d => .ok d m1
  | .nx _ => .ok .non m1
  | _ => .bad) else .bad
theorem re_start {K : PySem.W.Frag} {μ : List Addr} {H : Hp} {N : List Str} {ds : List DV} {vs : List V} (r : RVs K μ H ds vs) : RE K μ H (envOf N.length ds) (L2.start N vs) := by
  have hl := r.length
  refine ⟨by simp [envOf, L2.start, hl], fun i d h => ?_⟩
  unfold envOf at h
  by_cases hi : i < ds.length
  · rw [List.getElem?_append_left (by simpa using hi), List.getElem?_map] at h
    obtain ⟨d', h1, h2⟩ := Option.map_eq_some_iff.mp h
    cases h2
    obtain ⟨v, h3, h4⟩ := r.get h1
    refine ⟨v, ?_, h4⟩
    unfold L2.start
    rw [List.getElem?_append_left (by rw [List.length_map, ← hl]; exact hi), List.getElem?_map, h3]
    rfl
  · rw [List.getElem?_append_right (by simpa using hi)] at h
    have := List.mem_of_getElem? h
    rw [List.mem_replicate] at this
    cases this.2
theorem fn_ok {G : Sg} {x qual : Str} {params : Arguments} {body : List Stmt} {scope : Scope} {kws : List (Str × V)} {f : Addr} {fd : FuncData} {N ps : List Str} {k : Nat} {S : DS} (F : FunD G.K x qual params body scope [] kws f fd) (sc : FnScope N ps scope)
    (hb : ∀ W, SSs (G.cn N scope k W) body S) : FnOk G.P G.w G.K G.mg G.base (L2.CX G.P G.w) (k + 1) f fd ps (spD G.K ps.length (runD N.length ps.length S)) := by
  refine F.ok sc (fun vs H Q E h => ?_) (fun cdv A outer s H vs Q E hr h => ?_)
  · obtain ⟨m, μ, ds, e, _⟩ := h
    exact e
  · obtain ⟨m, μ, ds, e, R, r, q⟩ := h
    obtain ⟨t, p, d⟩ := hb E
    have I : (G.cn N scope k E).Is (cxOf (L2.CX G.P G.w) G.P G.w G.K G.mg G.base N qual scope f cdv A outer s H E) :=
      ⟨rfl, rfl, rfl, rfl, rfl, rfl, sc.nd, rfl, rfl, hr, passes_of rfl, passes_call (takes_of rfl rfl rfl rfl) fun _ _ _ _ h => h, fun _ _ => rfl⟩
    refine ⟨t, p _ I, d.run (envOf N.length ds) m μ _ H _ R (re_start r) ?_⟩
    unfold runD at q
    rw [if_pos (by rw [r.length]; exact e)] at q
    have q2 := wp_gc R q
    cases o : S (envOf N.length ds) m with
    | ok fl m1 =>
      rw [o] at q2
      intro μ2 H2 e2 R2
      cases fl with
      | nx env => exact fun σ' E' => q2 .non μ2 H2 e2 R2 .non
      | rt d => exact fun v rv => q2 v μ2 H2 e2 R2 rv
      | bk env => exact q2.elim
      | ct env => exact q2.elim
    | exc x m1 => rw [o] at q2; exact q2
    | bad => rw [o] at q2; exact q2
/-- a def of the module -/
theorem fn_mk {G : Sg} {x qual : Str} {params : Arguments} {body : List Stmt} {scope : Scope} {f : Addr} {fd : FuncData} {N ps : List Str} {k n : Nat} {S : DS} (F : FunD G.K x qual params body scope [] [] f fd) (sc : FnScope N ps scope) (hg : G.mg x = some (.ref f))
    (hb : ∀ W, SSs (G.cn N scope k W) body S)
    (hbi : ∀ (kV doc pm : Value) (an : Option Addr) (cdv ct : Value) (us : List Value), us.length = ps.length → bindArgs (PySem.W.fnOf x qual params body scope .none kV doc pm an cdv ct) ⟨us, []⟩ = pure (ps.zip us)) (hn : ps.length = n := by rfl) : Fn G (k + 1) x n (runD N.length n S) := by
  subst hn
  exact ⟨f, fd, ps, rfl, fn_ok F sc hb, hg, F.kp, F.bindsN hbi⟩

/-! ### calls of defs -/
def eCall (F : DF) (As : DA) : DE := fun env m => (As env m).bind F
section
variable {C : Cn} {e : Expr} {es : List Expr} {p pos : Pos} {As : DA} {F : DF} {n k : Nat} {x : Str}
abbrev Cn.sg (C : Cn) : Sg := ⟨C.P, C.w, C.K, C.mg, C.base⟩
theorem sd_call {K : PySem.W.Frag} {W : XK} {t : TA} (hl : ∀ env m ds m', As env m = .ok ds m' → ds.length = n) (d : SdA K W t As) : Sd K W (tCall (spD K n F) [] W t) (eCall F As) := by
  refine ⟨fun env m μ σ H Q R E q => ?_⟩
  have key : wp K W (RVs K) μ H (As env m) (fun vs H1 => spD K n F (vs ++ []) H1 Q W) := by
    cases o : As env m with
    | ok ds m1 =>
      have q' : wp K W (RV K) μ H (F ds m1) Q := by
        unfold eCall at q; rw [o] at q; exact q
      intro vs μ1 H1 e1 R1 r1
      refine ⟨m1, μ1, ds, ?_, R1, ?_, wp.later e1 q'⟩
      · rw [List.append_nil, ← r1.length]; exact hl env m ds m1 o
      · rw [List.append_nil]; exact r1
    | exc x m1 => unfold eCall at q; rw [o] at q; exact q
    | bad => unfold eCall at q; rw [o] at q; exact q
  exact d.run env m μ σ H _ R E key
theorem aCons_len {A : DE} {n : Nat} (hl : ∀ env m ds m', As env m = .ok ds m' → ds.length = n) : ∀ env m ds m', aCons A As env m = .ok ds m' → ds.length = n + 1 := by
  intro env m ds m' h
  unfold aCons at h
  cases o : A env m with
  | ok d m1 =>
    rw [o] at h
    simp only [Out.bind_ok] at h
    cases o2 : As env m1 with
    | ok ds2 m2 =>
      rw [o2] at h
      simp only [Out.bind_ok, Out.ok.injEq] at h
      rw [← h.1, List.length_cons, hl _ _ _ _ o2]
    | exc x m2 => rw [o2] at h; cases h
    | bad => rw [o2] at h; cases h
  | exc x m1 => rw [o] at h; cases h
  | bad => rw [o] at h; cases h
theorem aNil_len : ∀ (env : Env) (m : Mem) ds m', aNil env m = .ok ds m' → ds.length = 0 := by
  intro env m ds m' h
  cases h
  rfl
theorem se_call (h : Fn C.sg k x n F) (ha : SA C (e :: es) As) (hl : ∀ env m ds m', As env m = .ok ds m' → ds.length = n) (hk : k ≤ C.k) (hg : Gb C x := by rfl) (hdb : (x == ("__debug__" : Str)) = false := by decide)
    (he : ∀ env, starEach (e :: es) env = (false, eval e env) :: starEach es env := by intro _; rfl) (hpl : ∀ env, (backTo pos (starEach es env)).any (·.1) = false := by intro _; rfl) : SE C (.Call (.Name x p) (e :: es) [] pos) (eCall F As) := by
  obtain ⟨f, fd, ps, h1, h2, h3, h4, h5⟩ := h.ex
  obtain ⟨t, pa, da⟩ := ha
  refine ⟨tCall (spD C.K n F) [] C.W t, fun X hX => ?_, sd_call hl da⟩
  refine pe_call (CX := L2.CX X.prog X.w) (k := k) (f := f) (fd := fd) (ps := ps) (ds := []) (by rw [hX.P, hX.w, hX.K, hX.mg, hX.base]; exact h2) (hX.room.mono hk) (hg.gl hX) (by rw [hX.mg]; exact h3) (by rw [hX.K]; exact h4) (by rw [hX.K]; exact h5) .nil hX.px (pa X hX) hdb (he X.env) (hpl X.env)
theorem se_call0 (h : Fn C.sg k x 0 F) (hk : k ≤ C.k) (hg : Gb C x := by rfl) (hdb : (x == ("__debug__" : Str)) = false := by decide) : SE C (.Call (.Name x p) [] [] pos) (eCall F aNil) := by
  obtain ⟨f, fd, ps, h1, h2, h3, h4, h5⟩ := h.ex
  obtain ⟨t, pa, da⟩ := sa_nil (C := C)
  refine ⟨tCall (spD C.K 0 F) [] C.W tNil, fun X hX => ?_, sd_call aNil_len ⟨fun env m μ σ H Q R E q => wp.ok q R .nil⟩⟩
  exact pe_call0 (CX := L2.CX X.prog X.w) (k := k) (f := f) (fd := fd) (ps := ps) (ds := []) (by rw [hX.P, hX.w, hX.K, hX.mg, hX.base]; exact h2) (hX.room.mono hk) (hg.gl hX) (by rw [hX.mg]; exact h3) (by rw [hX.K]; exact h4) (by rw [hX.K]; exact h5) .nil hX.px hdb
end

/-! ### the end -/
theorem cx_none {P : Program} {w : World} {H : Hp} {s : Shared} {e : Value} {s' : Shared} (z : L2.CX P w [] H s (fun _ _ _ => False) e s') : False := by
  obtain ⟨_, _, _, _, _, _, _, _, _, _, _, _, q⟩ := z
  exact q
theorem rvs_ints {K : PySem.W.Frag} {μ : List Addr} {H : Hp} : ∀ ns : List Int, RVs K μ H (ns.map DV.int) (ns.map V.int)
  | [] => .nil
  | n :: ns => .cons (.int n) (rvs_ints ns)
theorem sp_law {K : PySem.W.Frag} {F : DF} {H : Hp} {a : Addr} {ns : List Int} (hO : Only H) (hS : SqL K H a (ns.map V.int)) (T : ∃ m, F [.ref 0] [.rol (ns.map DV.int)] = .ok (.bl true) m) : spD K 1 F [.ref a] H (fun v _ => v = .bl true) fun _ _ _ => False := by
  obtain ⟨m, T⟩ := T
  refine ⟨[.rol (ns.map DV.int)], [a], [.ref 0], rfl, ⟨rfl, fun i b o h1 h2 => ?_, fun i j b o o' h1 h2 h3 h4 m1 m2 => ?_⟩, .cons (.ref rfl) .nil, ?_⟩
  · cases i with
    | zero =>
      simp at h1 h2
      subst h1 h2
      refine ⟨ns.map V.int, ?_, rvs_ints ns⟩
      rcases hS with (h | ⟨o, h⟩) | h
      · rcases hO a with q | ⟨o, xs, q⟩
        · rw [q] at h; cases h
        · rw [q] at h; cases h
      · exact .inl ⟨o, h⟩
      · exact .inr (.inr h)
    | succ i => simp at h1
  · cases i with
    | zero => simp at h3; subst h3; exact m1.elim
    | succ i => simp at h1
  · rw [T]
    intro v μ' H' e R r
    cases r
    rfl

/-- from the law's def to the walk; what may leave hangs on the world -/
theorem walk_end {l : PySem.W.OpenLaw} {n k : Nat} {q : Program} {loose : List Str} {XP : (Str → Option Value) → Heap → Prop} {YP : World → Heap → Prop} {d : DefRec} {x : Str}
    (h1 : l.most = some n) (h2 : n ≤ sizeLine) (h3 : d.params.defaults = []) (h4 : Room k callerA)
    (F : ∀ (w : World) (mg : Str → Option Value) (fa : Addr) (h : Heap), YP w h → h.Ns mainGlobals mg → mg d.name = some (.ref fa) → ∃ (K : PySem.W.Frag) (fd : FuncData) (D : DF), K.In h ∧ (∀ (s : Shared) (u : Value), BindsTo s fd ⟨[u], []⟩ [(x, u)]) ∧
      (∀ ns : List Int, ns.length ≤ n → ∃ m, D [.ref 0] [.rol (ns.map DV.int)] = .ok (.bl true) m) ∧
      ∀ base : Heap, K.In base → base.Ns mainGlobals mg → FnOk l.prog w K mg base (L2.CX l.prog w) k fa fd [x] (spD K 1 D)) :
    PySem.W.WalkO q loose XP YP l.row.toRowW d [] (fun f vs => PySem.call f vs) := by
  refine Att.attach_call h1 h3 fun w s₀ s₁ mg mb fa o pm cd doc a vs ns G Y ho hd hcd hmg hobj hints hlen hg => ?_
  obtain ⟨K, fd, D, KX, hb, hsp, hF⟩ := F w mg fa _ Y G.T.g hmg
  exact law_call KX G.T.g G.T.b G.T.builtins G.T.nolimit hg hobj hints (Nat.le_trans hlen h2) h4 hF hb (fun H hO hS => sp_law hO hS (hsp ns hlen)) fun H e s' z => cx_none z
end DL

end
section
set_option Elab.async false
set_option linter.all false
set_option maxRecDepth 100000
set_option maxHeartbeats 4000000
set_option autoImplicit false
/-! DL6: what the operations are worth. -/
namespace DL
open PySem PySem.Spec L2

section
variable {C : Cn} {a b c e o tg iter : Expr} {es : List Expr} {p q p2 pos : Pos} {A B : DE} {As : DA} {T : DT} {x : Str}
variable {K : PySem.W.Frag} {W : XK} {μ μ' : List Addr} {H H' : Hp} {m : Mem}

/-! ### data -/
def optAll : List (Option PyData) → Option (List PyData)
  | [] => some []
  | none :: _ => none
  | some d :: r => (optAll r).map (d :: ·)
/-- what a value holds, all lists read -/
def pd (m : Mem) : Nat → DV → Option PyData
  | _, .non => some .none
  | _, .bl b => some (.bool b)
  | _, .int i => some (.int i)
  | _, .str x => some (.str x)
  | n + 1, .tup ds => (optAll (ds.map (pd m n))).map .tuple
  | n + 1, .ref i => (match m[i]? with
    | some (.lst ds) => (optAll (ds.map (pd m n))).map .list
    | some (.rol ds) => (optAll (ds.map (pd m n))).map .list
    | _ => none)
  | 0, _ => none
theorem dpAll_of {n : Nat} (ih : ∀ (d : DV) (v : V) (p : PyData), pd m n d = some p → RV K μ H d v → Dp K H v p) : ∀ {ds : List DV} {vs : List V} {ps : List PyData}, optAll (ds.map (pd m n)) = some ps → RVs K μ H ds vs → DpAll K H vs ps
  | [], _, ps, h, .nil => by simp [optAll] at h; subst h; exact .nil
  | d :: ds, _, ps, h, .cons r rs => by
    rw [List.map_cons] at h
    cases e : pd m n d with
    | none => rw [e] at h; simp [optAll] at h
    | some pp =>
      rw [e] at h
      simp only [optAll] at h
      obtain ⟨qs, h1, h2⟩ := Option.map_eq_some_iff.mp h
      subst h2
      exact .cons (ih d _ pp e r) (dpAll_of ih h1 rs)
theorem dp_of (R : Rel K m μ H) : ∀ (n : Nat) (d : DV) (v : V) (pp : PyData), pd m n d = some pp → RV K μ H d v → Dp K H v pp := by
  intro n
  induction n with
  | zero =>
    intro d v pp h r
    cases r <;> simp [pd] at h <;> subst h <;> constructor
  | succ n ih =>
    intro d v pp h r
    cases r with
    | tup s r =>
      simp only [pd] at h
      obtain ⟨qs, h1, h2⟩ := Option.map_eq_some_iff.mp h
      subst h2
      exact .tup s (dpAll_of ih h1 r)
    | @ref i a hi =>
      simp only [pd] at h
      cases g : m[i]? with
      | none => rw [g] at h; simp at h
      | some ob =>
        rw [g] at h
        cases ob with
        | lst ds =>
          obtain ⟨qs, h1, h2⟩ := Option.map_eq_some_iff.mp h
          subst h2
          obtain ⟨xs, s, r⟩ := ro_sq (ds := ds) (.inl rfl) (R.obj i a _ hi g)
          exact .lst s (dpAll_of ih h1 r)
        | rol ds =>
          obtain ⟨qs, h1, h2⟩ := Option.map_eq_some_iff.mp h
          subst h2
          obtain ⟨xs, s, r⟩ := ro_sq (ds := ds) (.inr rfl) (R.obj i a _ hi g)
          exact .lst s (dpAll_of ih h1 r)
        | _ => simp at h
    | _ => simp [pd] at h <;> subst h <;> constructor
/-- == -/
def eqD : D2 := fun x y m => match pd m 64 x, pd m 64 y with
  | some d, some e => if SeqAt.shaped d = true ∧ SeqAt.shaped e = true then .ok (.bl (PyData.eqv d e)) m else .bad
  | _, _ => .bad
def neD : D2 := fun x y m => match pd m 64 x, pd m 64 y with
  | some d, some e => if SeqAt.shaped d = true ∧ SeqAt.shaped e = true then .ok (.bl (!PyData.eqv d e)) m else .bad
  | _, _ => .bad
theorem bd_eq : BinD K W (rEqD K) eqD := by
  intro μ H m x y dx dy Q R r1 r2 q
  unfold eqD at q
  cases e1 : pd m 64 dx with
  | none => rw [e1] at q; exact q.elim
  | some d =>
    cases e2 : pd m 64 dy with
    | none => rw [e1, e2] at q; exact q.elim
    | some e =>
      rw [e1, e2] at q
      dsimp only at q
      by_cases h : SeqAt.shaped d = true ∧ SeqAt.shaped e = true
      · rw [if_pos h] at q
        exact ⟨d, e, dp_of R _ _ _ _ e1 r1, dp_of R _ _ _ _ e2 r2, h.1, h.2, wp.ok q R (.bl _)⟩
      · rw [if_neg h] at q; exact q.elim
theorem bd_ne : BinD K W (rNeD K) neD := by
  intro μ H m x y dx dy Q R r1 r2 q
  unfold neD at q
  cases e1 : pd m 64 dx with
  | none => rw [e1] at q; exact q.elim
  | some d =>
    cases e2 : pd m 64 dy with
    | none => rw [e1, e2] at q; exact q.elim
    | some e =>
      rw [e1, e2] at q
      dsimp only at q
      by_cases h : SeqAt.shaped d = true ∧ SeqAt.shaped e = true
      · rw [if_pos h] at q
        exact ⟨d, e, dp_of R _ _ _ _ e1 r1, dp_of R _ _ _ _ e2 r2, h.1, h.2, wp.ok q R (.bl _)⟩
      · rw [if_neg h] at q; exact q.elim
theorem room64 {X : Cx} (h : C.Is X) : X.A.units + 64 < cLine := by have := h.room.un; omega
theorem or_eq : ∀ X, C.Is X → OpR X (compareOp .Eq) (rEqD C.K) := fun X h => by rw [← h.K]; exact op_eqD (room64 h)
theorem or_ne : ∀ X, C.Is X → OpR X (compareOp .NotEq) (rNeD C.K) := fun X h => by rw [← h.K]; exact op_neD (room64 h)
theorem se_eq (ha : SE C a A) (hb : SE C b B) : SE C (.Compare a [.Eq] [b] pos) (eBin eqD A B) := se_cmp or_eq bd_eq ha hb (nomark _)
theorem se_ne (ha : SE C a A) (hb : SE C b B) : SE C (.Compare a [.NotEq] [b] pos) (eBin neD A B) := se_cmp or_ne bd_ne ha hb (nomark _)
theorem st_eq (ha : SE C a A) (hb : SE C b B) : ST C (.Compare a [.Eq] [b] pos) (tst (eBin eqD A B)) := st_cmp or_eq bd_eq ha hb (nomark _)
theorem st_ne (ha : SE C a A) (hb : SE C b B) : ST C (.Compare a [.NotEq] [b] pos) (tst (eBin neD A B)) := st_cmp or_ne bd_ne ha hb (nomark _)

/-! ### order of data -/
def rLtD (K : PySem.W.Frag) (f : PyData → PyData → Bool) : R2 := fun x y H Q => ∃ d e, Dp K H x d ∧ Dp K H y e ∧ PySem.W.alike d e = true ∧ d ≠ .none ∧ d.depth ≤ 64 ∧ Q (.bl (f d e)) H
theorem room_le {A : Around} {k : Nat} (h : Room k A) {d e : PyData} (hd : d.depth ≤ 64) : A.units + min d.depth e.depth < cLine := by
  have := h.un
  have : min d.depth e.depth ≤ d.depth := Nat.min_le_left _ _
  omega
theorem or_ltD : ∀ X, C.Is X → OpR X (compareOp .Lt) (rLtD C.K fun d e => PySem.W.dataLt d e) := fun X hX => by
  rw [← hX.K]
  intro pins s σ H x y v u Q I rx ry ⟨d, e, hd, he, al, nn, dp, q⟩
  obtain ⟨as, r1⟩ := Dp.reads I d x v hd rx
  obtain ⟨bs, r2⟩ := Dp.reads I e y u he ry
  exact PySem.W.lt_data r1 r2 al nn (room_le hX.room dp) ⟨.bl _, H, I, rfl, q⟩
theorem or_gtD : ∀ X, C.Is X → OpR X (compareOp .Gt) (rLtD C.K fun d e => PySem.W.dataLt e d) := fun X hX => by
  rw [← hX.K]
  intro pins s σ H x y v u Q I rx ry ⟨d, e, hd, he, al, nn, dp, q⟩
  obtain ⟨as, r1⟩ := Dp.reads I d x v hd rx
  obtain ⟨bs, r2⟩ := Dp.reads I e y u he ry
  exact PySem.W.gt_data r1 r2 al nn (room_le hX.room dp) ⟨.bl _, H, I, rfl, q⟩
theorem or_leD : ∀ X, C.Is X → OpR X (compareOp .LtE) (rLtD C.K fun d e => !PySem.W.dataLt e d) := fun X hX => by
  rw [← hX.K]
  intro pins s σ H x y v u Q I rx ry ⟨d, e, hd, he, al, nn, dp, q⟩
  obtain ⟨as, r1⟩ := Dp.reads I d x v hd rx
  obtain ⟨bs, r2⟩ := Dp.reads I e y u he ry
  exact PySem.W.le_data r1 r2 al nn (room_le hX.room dp) ⟨.bl _, H, I, rfl, q⟩
theorem or_geD : ∀ X, C.Is X → OpR X (compareOp .GtE) (rLtD C.K fun d e => !PySem.W.dataLt d e) := fun X hX => by
  rw [← hX.K]
  intro pins s σ H x y v u Q I rx ry ⟨d, e, hd, he, al, nn, dp, q⟩
  obtain ⟨as, r1⟩ := Dp.reads I d x v hd rx
  obtain ⟨bs, r2⟩ := Dp.reads I e y u he ry
  exact PySem.W.ge_data r1 r2 al nn (room_le hX.room dp) ⟨.bl _, H, I, rfl, q⟩
def pnone : PyData → Bool
  | .none => true
  | _ => false
theorem pnone_ne {d : PyData} (h : pnone d = false) : d ≠ .none := by rintro rfl; cases h
/-- an order: of ints at once, of other data by what they hold -/
def ordD (g : Int → Int → Bool) (f : PyData → PyData → Bool) : D2 := fun x y m => match x, y with
  | .int i, .int j => .ok (.bl (g i j)) m
  | _, _ => (match pd m 64 x, pd m 64 y with
    | some d, some e => if PySem.W.alike d e = true ∧ pnone d = false ∧ d.depth ≤ 64 then .ok (.bl (f d e)) m else .bad
    | _, _ => .bad)
theorem bd_ord {g : Int → Int → Bool} {f : PyData → PyData → Bool} (hg : ∀ i j, f (.int i) (.int j) = g i j) : BinD K W (rLtD K f) (ordD g f) := by
  intro μ H m x y dx dy Q R r1 r2 q
  by_cases hi : ∃ i j, dx = .int i ∧ dy = .int j
  · obtain ⟨i, j, rfl, rfl⟩ := hi
    cases r1
    cases r2
    exact ⟨.int i, .int j, .int i, .int j, rfl, (by simp), (by simp [PyData.depth]), by rw [hg]; exact wp.ok q R (.bl _)⟩
  · have e0 : ordD g f dx dy m = (match pd m 64 dx, pd m 64 dy with
        | some d, some e => if PySem.W.alike d e = true ∧ pnone d = false ∧ d.depth ≤ 64 then .ok (.bl (f d e)) m else .bad
        | _, _ => .bad) := by
      unfold ordD
      split
      · exact absurd ⟨_, _, rfl, rfl⟩ hi
      · rfl
    rw [e0] at q
    cases e1 : pd m 64 dx with
    | none => rw [e1] at q; exact q.elim
    | some d =>
      cases e2 : pd m 64 dy with
      | none => rw [e1, e2] at q; exact q.elim
      | some e =>
        rw [e1, e2] at q
        dsimp only at q
        by_cases h : PySem.W.alike d e = true ∧ pnone d = false ∧ d.depth ≤ 64
        · rw [if_pos h] at q
          exact ⟨d, e, dp_of R _ _ _ _ e1 r1, dp_of R _ _ _ _ e2 r2, h.1, pnone_ne h.2.1, h.2.2, wp.ok q R (.bl _)⟩
        · rw [if_neg h] at q; exact q.elim
abbrev ltD : D2 := ordD (fun i j => decide (i < j)) fun d e => PySem.W.dataLt d e
abbrev gtD : D2 := ordD (fun i j => decide (j < i)) fun d e => PySem.W.dataLt e d
abbrev leD : D2 := ordD (fun i j => decide (i ≤ j)) fun d e => !PySem.W.dataLt e d
abbrev geD : D2 := ordD (fun i j => decide (j ≤ i)) fun d e => !PySem.W.dataLt d e
theorem bd_ltD : BinD K W (rLtD K fun d e => PySem.W.dataLt d e) ltD := bd_ord PySem.W.dataLt_int
theorem bd_gtD : BinD K W (rLtD K fun d e => PySem.W.dataLt e d) gtD := bd_ord fun i j => PySem.W.dataLt_int j i
theorem bd_leD : BinD K W (rLtD K fun d e => !PySem.W.dataLt e d) leD := bd_ord fun i j => by rw [PySem.W.dataLt_int]; by_cases h : j < i <;> simp [h] <;> omega
theorem bd_geD : BinD K W (rLtD K fun d e => !PySem.W.dataLt d e) geD := bd_ord fun i j => by rw [PySem.W.dataLt_int]; by_cases h : i < j <;> simp [h] <;> omega
theorem se_lt (ha : SE C a A) (hb : SE C b B) : SE C (.Compare a [.Lt] [b] pos) (eBin ltD A B) := se_cmp or_ltD bd_ltD ha hb (nomark _)
theorem se_gt (ha : SE C a A) (hb : SE C b B) : SE C (.Compare a [.Gt] [b] pos) (eBin gtD A B) := se_cmp or_gtD bd_gtD ha hb (nomark _)
theorem se_le (ha : SE C a A) (hb : SE C b B) : SE C (.Compare a [.LtE] [b] pos) (eBin leD A B) := se_cmp or_leD bd_leD ha hb (nomark _)
theorem se_ge (ha : SE C a A) (hb : SE C b B) : SE C (.Compare a [.GtE] [b] pos) (eBin geD A B) := se_cmp or_geD bd_geD ha hb (nomark _)
theorem st_lt (ha : SE C a A) (hb : SE C b B) : ST C (.Compare a [.Lt] [b] pos) (tst (eBin ltD A B)) := st_cmp or_ltD bd_ltD ha hb (nomark _)
theorem st_gt (ha : SE C a A) (hb : SE C b B) : ST C (.Compare a [.Gt] [b] pos) (tst (eBin gtD A B)) := st_cmp or_gtD bd_gtD ha hb (nomark _)
theorem st_le (ha : SE C a A) (hb : SE C b B) : ST C (.Compare a [.LtE] [b] pos) (tst (eBin leD A B)) := st_cmp or_leD bd_leD ha hb (nomark _)
theorem st_ge (ha : SE C a A) (hb : SE C b B) : ST C (.Compare a [.GtE] [b] pos) (tst (eBin geD A B)) := st_cmp or_geD bd_geD ha hb (nomark _)
/-- a <= b <= c and the like -/
theorem sd_chain {ta tb tc : TE} {r r' : R2} {f g : D2} {D : DE} (hf : BinD K W r f) (hg : BinD K W r' g) (ha : Sd K W ta A) (hb : Sd K W tb B) (hc : Sd K W tc D) : Sd K W (tChain r r' ta tb tc) (eChain f g A B D) := by
  refine ⟨fun env m μ σ H Q R E h => ?_⟩
  refine ha.run env m μ σ H _ R E (wp.mono (wp.bind h) fun x H1 ⟨dx, m1, μ1, e1, R1, r1, h1⟩ => ?_)
  refine hb.run env m1 μ1 σ H1 _ R1 (E.mono e1) (wp.mono (wp.bind h1) fun y H2 ⟨dy, m2, μ2, e2, R2, r2, h2⟩ => ?_)
  refine hf μ2 H2 m2 x y dx dy _ R2 (r1.mono e2) r2 (wp.mono (wp.bind h2) fun z H3 ⟨dz, m3, μ3, e3, R3, r3, h3⟩ => ?_)
  cases r3 with
  | bl k =>
    refine ⟨k, rfl, ?_⟩
    cases k with
    | false => rw [if_neg Bool.false_ne_true]; exact wp.ok h3 R3 (.bl false)
    | true =>
      rw [if_pos rfl]
      refine hc.run env m3 μ3 σ H3 _ R3 (E.mono ((e1.trans e2).trans e3)) (wp.mono (wp.bind h3) fun w H4 ⟨dw, m4, μ4, e4, R4, r4, h4⟩ => ?_)
      exact hg μ4 H4 m4 y w dy dw Q R4 (r2.mono (e3.trans e4)) r4 h4
  | _ => exact h3.elim
theorem se_chain {op op' : CmpOp} {r r' : R2} {f g : D2} {D : DE} (ho : ∀ X, C.Is X → OpR X (compareOp op) r) (ho' : ∀ X, C.Is X → OpR X (compareOp op') r') (hf : BinD C.K C.W r f) (hg : BinD C.K C.W r' g) (ha : SE C a A) (hb : SE C b B) (hc : SE C c D)
    (hm : lastMarks [op, op'] [b, c] = false := by with_unfolding_all rfl) : SE C (.Compare a [op, op'] [b, c] pos) (eChain f g A B D) := by
  obtain ⟨ta, pa, da⟩ := ha
  obtain ⟨tb, pb, db⟩ := hb
  obtain ⟨tc, pc, dc⟩ := hc
  exact ⟨tChain r r' ta tb tc, fun X h => pe_chain (ho X h) (ho' X h) (pa X h) (pb X h) (pc X h) hm, sd_chain hf hg da db dc⟩
theorem st_chain {op op' : CmpOp} {r r' : R2} {f g : D2} {D : DE} (ho : ∀ X, C.Is X → OpR X (compareOp op) r) (ho' : ∀ X, C.Is X → OpR X (compareOp op') r') (hf : BinD C.K C.W r f) (hg : BinD C.K C.W r' g) (ha : SE C a A) (hb : SE C b B) (hc : SE C c D)
    (hm : lastMarks [op, op'] [b, c] = false := by with_unfolding_all rfl) : ST C (.Compare a [op, op'] [b, c] pos) (tst (eChain f g A B D)) := by
  obtain ⟨ta, pa, da⟩ := ha
  obtain ⟨tb, pb, db⟩ := hb
  obtain ⟨tc, pc, dc⟩ := hc
  exact ⟨tTest (tChain r r' ta tb tc), fun X h => pt_chain (ho X h) (ho' X h) (pa X h) (pb X h) (pc X h) hm, sd_tst (sd_chain hf hg da db dc)⟩

/-! ### is -/
def isN : D1 := fun x m => .ok (.bl (match x with | .non => true | _ => false)) m
def notN : D1 := fun x m => .ok (.bl (match x with | .non => false | _ => true)) m
theorem sd_un1 {r : R2} {v : V} {f : D1} {ta : TE} (hf : UnD K W (fun x H Q => r x v H Q) f) (ha : Sd K W ta A) : Sd K W (tOp r ta (tC v)) (eUn f A) := sd_un (r := fun x H Q => r x v H Q) hf ha
theorem und_isN : UnD K W (fun x H Q => (fun x y H Q => y = V.non ∧ Q (.bl (decide (x = V.non))) H : R2) x .non H Q) isN := by
  intro μ H m x dx Q R r1 q
  refine ⟨rfl, ?_⟩
  cases r1 <;> exact wp.ok q R (by simp <;> constructor)
theorem und_notN : UnD K W (fun x H Q => (fun x y H Q => y = V.non ∧ Q (.bl (!decide (x = V.non))) H : R2) x .non H Q) notN := by
  intro μ H m x dx Q R r1 q
  refine ⟨rfl, ?_⟩
  cases r1 <;> exact wp.ok q R (by simp <;> constructor)
theorem se_isN {j} (ha : SE C a A) : SE C (.Compare a [.Is] [.Constant .none j q] pos) (eUn isN A) := by
  obtain ⟨ta, pa, da⟩ := ha
  exact ⟨_, fun X h => pe_cmpR op_isN (pa X h) pe_non (nomark _), sd_un1 und_isN da⟩
theorem se_notN {j} (ha : SE C a A) : SE C (.Compare a [.IsNot] [.Constant .none j q] pos) (eUn notN A) := by
  obtain ⟨ta, pa, da⟩ := ha
  exact ⟨_, fun X h => pe_cmpR op_notN (pa X h) pe_non (nomark _), sd_un1 und_notN da⟩
theorem st_isN {j} (ha : SE C a A) : ST C (.Compare a [.Is] [.Constant .none j q] pos) (tst (eUn isN A)) := by
  obtain ⟨ta, pa, da⟩ := ha
  exact ⟨_, fun X h => pt_cmpR op_isN (pa X h) pe_non (nomark _), sd_tst (sd_un1 und_isN da)⟩
theorem st_notN {j} (ha : SE C a A) : ST C (.Compare a [.IsNot] [.Constant .none j q] pos) (tst (eUn notN A)) := by
  obtain ⟨ta, pa, da⟩ := ha
  exact ⟨_, fun X h => pt_cmpR op_notN (pa X h) pe_non (nomark _), sd_tst (sd_un1 und_notN da)⟩

/-! ### calls of built-ins -/
def CallD (K : PySem.W.Frag) (W : XK) (r : List V → Hp → VK → Prop) (f : DF) : Prop := ∀ μ H m vs ds Q, Rel K m μ H → RVs K μ H ds vs → wp K W (RV K) μ H (f ds m) Q → r vs H Q
theorem sd_cb {t : TA} {r : List V → Hp → VK → Prop} {f : DF} (hf : CallD K W r f) (d : SdA K W t As) : Sd K W (tCB r t) (eCall f As) := by
  refine ⟨fun env m μ σ H Q R E q => ?_⟩
  exact d.run env m μ σ H _ R E (wp.mono (wp.bind q) fun vs H1 ⟨ds, m1, μ1, e1, R1, r1, h1⟩ => hf μ1 H1 m1 vs ds Q R1 r1 h1)
theorem se_callB {id : String} {r : List V → Hp → VK → Prop} {f : DF} (hc : ∀ X, C.Is X → CallR X (.builtin id) r) (hf : CallD C.K C.W r f) (hm : C.mg x = none) (ha : SA C (e :: es) As) (hv : bootBuiltins x = some (.builtin id) := by decide +kernel) (hg : Gb C x := by rfl) (hn : x ≠ "__name__" := by decide)
    (hdb : (x == ("__debug__" : Str)) = false := by decide) (he : ∀ env, starEach (e :: es) env = (false, eval e env) :: starEach es env := by intro _; rfl) (hpl : ∀ env, (backTo pos (starEach es env)).any (·.1) = false := by intro _; rfl) :
    SE C (.Call (.Name x p) (e :: es) [] pos) (eCall f As) := by
  obtain ⟨t, pa, da⟩ := ha
  exact ⟨tCB r t, fun X hX => pe_callB (hc X hX) (hg.gl hX) (by rw [hX.mg]; exact hm) hv (pa X hX) hn hdb (he X.env) (hpl X.env), sd_cb hf da⟩
theorem se_callT {ty : String} {r : List V → Hp → VK → Prop} {f : DF} (hc : ∀ X, C.Is X → CallR X (.type ty) r) (hf : CallD C.K C.W r f) (hm : C.mg x = none) (ha : SA C (e :: es) As) (hv : bootBuiltins x = some (.type ty) := by decide +kernel) (hg : Gb C x := by rfl) (hn : x ≠ "__name__" := by decide)
    (hdb : (x == ("__debug__" : Str)) = false := by decide) (he : ∀ env, starEach (e :: es) env = (false, eval e env) :: starEach es env := by intro _; rfl) (hpl : ∀ env, (backTo pos (starEach es env)).any (·.1) = false := by intro _; rfl) :
    SE C (.Call (.Name x p) (e :: es) [] pos) (eCall f As) := by
  obtain ⟨t, pa, da⟩ := ha
  exact ⟨tCB r t, fun X hX => pe_callTy (hc X hX) (hg.gl hX) (by rw [hX.mg]; exact hm) hv (pa X hX) hn hdb (he X.env) (hpl X.env), sd_cb hf da⟩
/-- a list or a tuple, its items -/
def seqOf (m : Mem) : DV → Option (List DV)
  | .tup ds => some ds
  | .ref i => (match m[i]? with
    | some (.lst ds) => some ds
    | some (.rol ds) => some ds
    | _ => none)
  | _ => none
theorem seqOf_ok (R : Rel K m μ H) {d : DV} {v : V} {ds : List DV} (r : RV K μ H d v) (h : seqOf m d = some ds) : ∃ a xs, v = .ref a ∧ RVs K μ H ds xs ∧ (SqL K H a xs ∨ SqT K H a xs) := by
  cases r with
  | tup s r => simp only [seqOf, Option.some.injEq] at h; subst h; exact ⟨_, _, rfl, r, .inr s⟩
  | @ref i a hi =>
    simp only [seqOf] at h
    cases g : m[i]? with
    | none => rw [g] at h; cases h
    | some ob =>
      rw [g] at h
      cases ob with
      | lst ds' =>
        cases h
        obtain ⟨xs, s, r⟩ := ro_sq (ds := ds) (.inl rfl) (R.obj i a _ hi g)
        exact ⟨a, xs, rfl, r, .inl s⟩
      | rol ds' =>
        cases h
        obtain ⟨xs, s, r⟩ := ro_sq (ds := ds) (.inr rfl) (R.obj i a _ hi g)
        exact ⟨a, xs, rfl, r, .inl s⟩
      | _ => cases h
  | _ => cases h
/-- a list -/
def lstOf (m : Mem) : DV → Option (List DV)
  | .ref i => (match m[i]? with
    | some (.lst ds) => some ds
    | some (.rol ds) => some ds
    | _ => none)
  | _ => none
theorem lstOf_ok (R : Rel K m μ H) {d : DV} {v : V} {ds : List DV} (r : RV K μ H d v) (h : lstOf m d = some ds) : ∃ a xs, v = .ref a ∧ RVs K μ H ds xs ∧ SqL K H a xs := by
  cases r with
  | @ref i a hi =>
    simp only [lstOf] at h
    cases g : m[i]? with
    | none => rw [g] at h; cases h
    | some ob =>
      rw [g] at h
      cases ob with
      | lst ds' =>
        cases h
        obtain ⟨xs, s, r⟩ := ro_sq (ds := ds) (.inl rfl) (R.obj i a _ hi g)
        exact ⟨a, xs, rfl, r, s⟩
      | rol ds' =>
        cases h
        obtain ⟨xs, s, r⟩ := ro_sq (ds := ds) (.inr rfl) (R.obj i a _ hi g)
        exact ⟨a, xs, rfl, r, s⟩
      | _ => cases h
  | _ => cases h
def fLen : DF := fun ds m => match ds with
  | [.str z] => if z.length ≤ 16777216 then .ok (.int z.length) m else .bad
  | [d] => (match seqOf m d with
    | some xs => .ok (.int xs.length) m
    | none => .bad)
  | _ => .bad
theorem cd_len : CallD K W (fun xs H Q => ∃ x n, xs = [x] ∧ LenV K x H n ∧ Q (.int n) H) fLen := by
  intro μ H m vs ds Q R r q
  cases r with
  | nil => exact q.elim
  | @cons d v ds vs r1 r2 =>
    cases r2 with
    | cons _ _ => cases r1 <;> exact q.elim
    | nil =>
      have seq : ∀ xs, seqOf m d = some xs → wp K W (RV K) μ H (.ok (.int xs.length) m) Q → ∃ x n, [v] = [x] ∧ LenV K x H n ∧ Q (.int n) H := by
        intro xs hx q
        obtain ⟨a, ys, rfl, rr, s⟩ := seqOf_ok R r1 hx
        refine ⟨.ref a, ys.length, rfl, ?_, ?_⟩
        · rcases s with s | s
          · exact .inl ⟨ys, s, rfl⟩
          · exact .inr ⟨ys, s, rfl⟩
        · rw [← rr.length]; exact wp.ok q R (.int _)
      have gen : fLen [d] m = (match d with
        | .str z => if z.length ≤ 16777216 then .ok (.int z.length) m else .bad
        | d => (match seqOf m d with
          | some xs => .ok (.int xs.length) m
          | none => .bad)) := by cases d <;> rfl
      rw [gen] at q
      cases r1 with
      | str z =>
        dsimp only at q
        by_cases hz : z.length ≤ 16777216
        · rw [if_pos hz] at q
          exact ⟨.str z, z.length, rfl, ⟨by rw [line_eq]; exact hz, rfl⟩, wp.ok q R (.int _)⟩
        · rw [if_neg hz] at q; exact q.elim
      | tup s r =>
        dsimp only at q
        cases e : seqOf m (.tup _) with
        | none => rw [e] at q; exact q.elim
        | some xs => rw [e] at q; exact seq xs e q
      | ref hi =>
        dsimp only at q
        cases e : seqOf m (.ref _) with
        | none => rw [e] at q; exact q.elim
        | some xs => rw [e] at q; exact seq xs e q
      | _ => exact q.elim
theorem se_len (hm : C.mg "len" = none) (ha : SE C e A) (hg : Gb C "len" := by rfl) (hs : ∀ env, starEach [e] env = (false, eval e env) :: starEach [] env := by intro _; rfl) : SE C (.Call (.Name "len" p) [e] [] pos) (eCall fLen (aCons A aNil)) :=
  se_callB (fun X hX => by rw [← hX.K]; exact call_len) cd_len hm (sa_cons ha sa_nil hs) (hg := hg) (he := hs)

/-! ### isinstance -/
def tyD (m : Mem) : DV → Option String
  | .non => some "NoneType"
  | .bl _ => some "bool"
  | .int _ => some "int"
  | .str _ => some "str"
  | .tup _ => some "tuple"
  | .ref i => (match m[i]? with
    | some (.lst _) => some "list"
    | some (.rol _) => some "list"
    | some (.dic _) => some "dict"
    | some (.rod _) => some "dict"
    | _ => none)
def isTb (t n : String) : Bool := t == n || (t == "bool" && n == "int")
def isI (n : String) : D1 := fun x m => match tyD m x with
  | some t => .ok (.bl (isTb t n)) m
  | none => .bad
theorem tyX_of (R : Rel K m μ H) {d : DV} {v : V} {t : String} (r : RV K μ H d v) (h : tyD m d = some t) : TyX K H v (.type t) := by
  cases r with
  | non => cases h; exact .base .non
  | bl b => cases h; exact .base (.bl b)
  | int i => cases h; exact .base (.int i)
  | str z => cases h; exact .base (.str z)
  | tup s r =>
    cases h
    rcases s with (s | ⟨o, s⟩) | ⟨o, its, n, hk, hc, _⟩
    · exact .base (.tup s)
    · exact .fTuple s
    · exact .kTuple hk hc
  | @ref i a hi =>
    simp only [tyD] at h
    cases g : m[i]? with
    | none => rw [g] at h; cases h
    | some ob =>
      rw [g] at h
      have ro := R.obj i a _ hi g
      cases ob with
      | lst ds => cases h; obtain ⟨xs, s, _⟩ := ro; exact .base (.lst s)
      | rol ds =>
        cases h
        obtain ⟨xs, s, _⟩ := ro
        rcases s with ⟨o, s⟩ | s
        · exact .base (.frz s)
        · rcases s with (s | ⟨o, s⟩) | ⟨o, its, n, hk, hc, _⟩
          · cases s
          · cases s
          · exact .kList hk hc
      | dic kvs => cases h; obtain ⟨kk, s, _⟩ := ro; exact .base (.dK s)
      | rod kvs => cases h; obtain ⟨o, kk, s, _⟩ := ro; exact .fDict s
      | ins _ _ => cases h
theorem kit_is {t n : String} (ht : t ∈ ["NoneType", "bool", "int", "str", "tuple", "list", "dict"]) (hn : n ∈ ["int", "bool", "str", "tuple", "list", "dict"]) : PySem.W.kitOne K (.type t) (.type n) = some (isTb t n) := by
  have all : ∀ t ∈ ["NoneType", "bool", "int", "str", "tuple", "list", "dict"], ∀ n ∈ ["int", "bool", "str", "tuple", "list", "dict"], kitB t n = some (isTb t n) := by decide +kernel
  exact kit_ty (all t ht n hn)
theorem tyD_mem {d : DV} {t : String} (h : tyD m d = some t) : t ∈ ["NoneType", "bool", "int", "str", "tuple", "list", "dict"] := by
  cases d <;> simp only [tyD, Option.some.injEq] at h <;> try (subst h; simp)
  rename_i i
  cases g : m[i]? with
  | none => rw [g] at h; cases h
  | some ob => rw [g] at h; cases ob <;> simp at h <;> subst h <;> simp
/-- isinstance(e, n) -/
theorem se_isI (T : String) {n : Str} (hm : C.mg "isinstance" = none) (hmn : C.mg n = none) (ha : SE C e A) (hn : T ∈ ["int", "bool", "str", "tuple", "list", "dict"] := by decide) (hv : bootBuiltins n = some (.type T) := by decide +kernel) (hg : Gb C "isinstance" := by rfl) (hgn : Gb C n := by rfl)
    (hnn : n ≠ "__name__" := by decide) (hnd : (n == ("__debug__" : Str)) = false := by decide) (hs : ∀ env, starEach [e, .Name n p2] env = (false, eval e env) :: starEach [.Name n p2] env := by intro _; rfl) :
    SE C (.Call (.Name "isinstance" p) [e, .Name n p2] [] pos) (eUn (isI T) A) := by
  obtain ⟨ta, pa, da⟩ := ha
  refine ⟨tCB (rIsi C.K) (tCons ta (tCons (tC (.ty T)) tNil)), fun X hX => ?_, ⟨fun env m μ σ H Q R E q => ?_⟩⟩
  · rw [← hX.K]
    exact pe_callB call_isi (hg.gl hX) (by rw [hX.mg]; exact hm) (by decide +kernel) (pa_cons (pa X hX) (pa_cons (pe_bltn (hgn.gl hX) (by rw [hX.mg]; exact hmn) hv rfl hnn hnd) pa_nil) (hs X.env)) (by decide) (by decide) (hs X.env)
  · refine da.run env m μ σ H _ R E (wp.mono (wp.bind q) fun x H1 ⟨dx, m1, μ1, e1, R1, r1, h1⟩ => ?_)
    unfold isI at h1
    cases g : tyD m1 dx with
    | none => rw [g] at h1; exact h1.elim
    | some t =>
      rw [g] at h1
      exact ⟨x, _, _, _, _, rfl, .ty _, tyX_of R1 r1 g, kit_is (tyD_mem g) hn, wp.ok h1 R1 (.bl _)⟩
end
end DL

end
section
set_option Elab.async false
set_option linter.all false
set_option maxRecDepth 100000
set_option maxHeartbeats 4000000
set_option autoImplicit false
/-! DL7: subscripts, slices, sums of sequences, truth, built-ins over lists, methods of lists, stores. -/
namespace DL
open PySem PySem.Spec L2

section
variable {C : Cn} {a b c e o tg iter lo hi : Expr} {es : List Expr} {p q p2 pos apos cpos : Pos} {A B : DE} {As : DA} {T : DT} {x : Str} {S : DS}
variable {K : PySem.W.Frag} {W : XK} {μ μ' : List Addr} {H H' : Hp} {m : Mem}

/-! ### subscripts -/
def ixD : D2 := fun x y m => match y with
  | .int i => (match x with
    | .str z => if z.length ≤ 16777216 then (match atI z.cps.toList i with
      | some c => .ok (.str ⟨#[c]⟩) m
      | none => .bad) else .bad
    | x => (match seqOf m x with
      | some ds => (match atI ds i with
        | some d => .ok d m
        | none => .bad)
      | none => .bad))
  | _ => .bad
theorem atI_rv {ds : List DV} {xs : List V} {i : Int} {d : DV} (r : RVs K μ H ds xs) (h : atI ds i = some d) : ∃ v, atI xs i = some v ∧ RV K μ H d v := by
  unfold atI at h ⊢
  rw [← r.length]
  cases e : ixN ds.length i with
  | none => rw [e] at h; cases h
  | some j => rw [e] at h; exact r.get h
theorem bd_ix : BinD K W (rIx K) ixD := by
  intro μ H m x y dx dy Q R r1 r2 q
  cases r2 with
  | int i =>
    have seq : (match seqOf m dx with
      | some ds => (match atI ds i with
        | some d => Out.ok d m
        | none => .bad)
      | none => .bad) = ixD dx (.int i) m → rIx K x (.int i) H Q := by
      intro e
      rw [← e] at q
      cases g : seqOf m dx with
      | none => rw [g] at q; exact q.elim
      | some ds =>
        rw [g] at q
        dsimp only at q
        cases g2 : atI ds i with
        | none => rw [g2] at q; exact q.elim
        | some d =>
          rw [g2] at q
          obtain ⟨p, xs, rfl, rr, s⟩ := seqOf_ok R r1 g
          obtain ⟨v, h1, h2⟩ := atI_rv rr g2
          rcases s with s | s
          · exact .inl ⟨p, xs, i, v, rfl, rfl, s, h1, wp.ok q R h2⟩
          · exact .inr (.inl ⟨p, xs, i, v, rfl, rfl, s, h1, wp.ok q R h2⟩)
    cases r1 with
    | str z =>
      have q' : wp K W (RV K) μ H (if z.length ≤ 16777216 then (match atI z.cps.toList i with
        | some c => .ok (.str ⟨#[c]⟩) m
        | none => .bad) else .bad) Q := q
      by_cases hz : z.length ≤ 16777216
      · rw [if_pos hz] at q'
        cases g : atI z.cps.toList i with
        | none => rw [g] at q'; exact q'.elim
        | some c =>
          rw [g] at q'
          exact .inr (.inr ⟨z, i, c, rfl, rfl, by rw [line_eq]; exact hz, g, wp.ok q' R (.str _)⟩)
      · rw [if_neg hz] at q'; exact q'.elim
    | _ => exact seq rfl
  | _ => exact q.elim
theorem se_ix (ha : SE C a A) (hb : SE C b B) (hs : PlainIx b := by intro _ _; rfl) : SE C (.Subscript a b pos) (eBin ixD A B) := by
  obtain ⟨ta, pa, da⟩ := ha
  obtain ⟨tb, pb, db⟩ := hb
  exact ⟨tOp (rIx C.K) ta tb, fun X h => by rw [← h.K]; exact pe_ix ix_seq (pa X h) (pb X h) hs, sd_bin bd_ix da db⟩

/-! ### slices -/
def cutL (ds : List DV) (lo hi : Option Int) : List DV := (ds.drop (HT.sIx ds.length 0 lo)).take (HT.sIx ds.length ds.length hi - HT.sIx ds.length 0 lo)
abbrev DO := Env → Mem → Out (Option Int)
structure SdO (K : PySem.W.Frag) (W : XK) (t : TO) (D : DO) : Prop where
  run : ∀ env m μ σ H Q, Rel K m μ H → RE K μ H env σ → wp K W (fun _ _ a b => a = b) μ H (D env m) Q → t σ H Q
def SO (C : Cn) (e : Option Expr) (D : DO) : Prop := ∃ t, (∀ X, C.Is X → PO X e t) ∧ SdO C.K C.W t D
def oNone : DO := fun _ m => .ok none m
def oSome (A : DE) : DO := fun env m => (A env m).bind fun x m1 => match x with
  | .int i => .ok (some i) m1
  | _ => .bad
theorem so_none : SO C none oNone := ⟨tNoPart, fun X h => po_none, ⟨fun env m μ σ H Q R E q => wp.ok q R rfl⟩⟩
theorem so_some (ha : SE C a A) : SO C (some a) (oSome A) := by
  obtain ⟨ta, pa, da⟩ := ha
  refine ⟨tPart ta, fun X h => po_some (pa X h), ⟨fun env m μ σ H Q R E q => ?_⟩⟩
  refine da.run env m μ σ H _ R E (wp.mono (wp.bind q) fun x H1 ⟨dx, m1, μ1, e1, R1, r1, h1⟩ => ?_)
  cases r1 with
  | int i => exact ⟨i, rfl, wp.ok h1 R1 rfl⟩
  | _ => exact h1.elim
def slD (lo hi : Option Int) : D1 := fun x m => match x with
  | .tup ds => .ok (.tup (cutL ds lo hi)) m
  | .str z => if z.length ≤ 16777216 then .ok (.str (cutS z lo hi)) m else .bad
  | .ref i => (match lstOf m (.ref i) with
    | some ds => .ok (.ref m.length) (m ++ [.lst (cutL ds lo hi)])
    | none => .bad)
  | _ => .bad
def eSl (A : DE) (l h : DO) : DE := fun env m => (A env m).bind fun x m1 => (l env m1).bind fun lo m2 => (h env m2).bind fun hi m3 => slD lo hi x m3
def rSlAny (K : PySem.W.Frag) : V → Option Int → Option Int → Hp → VK → Prop := fun x lo hi H Q => (rSlA K x lo hi H Q ∨ rSlL K x lo hi H Q) ∨ rSlS x lo hi H Q
theorem cut_rv {ds : List DV} {xs : List V} (r : RVs K μ H ds xs) (lo hi : Option Int) : RVs K μ H (cutL ds lo hi) (cutV xs lo hi) := by
  unfold cutL cutV
  rw [r.length]
  exact (r.drop _).take _
theorem rSl_any {lo hi : Option Int} {dx : DV} {x : V} {Q : VK} (R : Rel K m μ H) (r : RV K μ H dx x) (q : wp K W (RV K) μ H (slD lo hi dx m) Q) : rSlAny K x lo hi H Q := by
  cases r with
  | @tup a xs ds s r =>
    refine .inl (.inl ⟨a, xs, rfl, s, fun hw => ?_, fun hw p hp => ?_⟩)
    · refine wp.ok (a := DV.tup (cutL ds lo hi)) q R (.tup s ?_)
      have e : cutV xs lo hi = xs := by
        unfold cutV
        rw [hw.1, hw.2]
        simp
      have := cut_rv r lo hi
      rwa [e] at this
    · have q' : wp K W (RV K) μ H (.ok (.tup (cutL ds lo hi)) m) Q := q
      exact q' _ μ _ (ext_fresh hp) (R.fresh hp) (.tup sqT_new ((cut_rv r lo hi).mono (ext_fresh hp)))
  | str z =>
    have q' : wp K W (RV K) μ H (if z.length ≤ 16777216 then .ok (.str (cutS z lo hi)) m else .bad) Q := q
    by_cases hz : z.length ≤ 16777216
    · rw [if_pos hz] at q'
      exact .inr ⟨z, rfl, by rw [line_eq]; exact hz, wp.ok q' R (.str _)⟩
    · rw [if_neg hz] at q'; exact q'.elim
  | @ref i a hi' =>
    have q' : wp K W (RV K) μ H (match lstOf m (.ref i) with
      | some ds => .ok (.ref m.length) (m ++ [.lst (cutL ds lo hi)])
      | none => .bad) Q := q
    cases g : lstOf m (.ref i) with
    | none => rw [g] at q'; exact q'.elim
    | some ds =>
      rw [g] at q'
      obtain ⟨a', xs, e, r, s⟩ := lstOf_ok R (.ref hi') g
      cases e
      refine .inl (.inr ⟨a, xs, rfl, s, fun p hp => ?_⟩)
      exact q' _ _ _ ((ext_fresh hp).trans ext_snoc) (rel_lst R hp (cut_rv r lo hi)) (rv_new R)
  | _ => exact q.elim
theorem se_slice {l h : DO} {lo hi : Option Expr} (ha : SE C a A) (hl : SO C lo l) (hh : SO C hi h) : SE C (.Subscript a (.Slice lo hi none p2) pos) (eSl A l h) := by
  obtain ⟨ta, pa, da⟩ := ha
  obtain ⟨tl, pl, dl⟩ := hl
  obtain ⟨th, ph, dh⟩ := hh
  refine ⟨tSl (rSlAny C.K) ta tl th, fun X hX => by rw [← hX.K]; exact pe_slice ((sl_tupA.or sl_list).or sl_str) (pa X hX) (pl X hX) (ph X hX), ⟨fun env m μ σ H Q R E q => ?_⟩⟩
  refine da.run env m μ σ H _ R E (wp.mono (wp.bind q) fun x H1 ⟨dx, m1, μ1, e1, R1, r1, h1⟩ => ?_)
  refine dl.run env m1 μ1 σ H1 _ R1 (E.mono e1) (wp.mono (wp.bind h1) fun lo' H2 ⟨dlo, m2, μ2, e2, R2, r2, h2⟩ => ?_)
  refine dh.run env m2 μ2 σ H2 _ R2 (E.mono (e1.trans e2)) (wp.mono (wp.bind h2) fun hi' H3 ⟨dhi, m3, μ3, e3, R3, r3, h3⟩ => ?_)
  subst r2 r3
  exact rSl_any R3 (r1.mono (e2.trans e3)) h3

/-! ### + -/
def addD : D2 := fun x y m => match x, y with
  | .int i, .int j => .ok (.int (i + j)) m
  | .str a, .str b => if a.length + b.length ≤ 16777216 then .ok (.str (a ++ b)) m else .bad
  | .tup ds, .tup es => if ds.length + es.length ≤ 16777216 then .ok (.tup (ds ++ es)) m else .bad
  | .ref i, .ref j => (match m[i]?, m[j]? with
    | some (.lst ds), some (.lst es) => if ds.length + es.length ≤ 16777216 then .ok (.ref m.length) (m ++ [.lst (ds ++ es)]) else .bad
    | _, _ => .bad)
  | _, _ => .bad
def rAddAny (K : PySem.W.Frag) : R2 := fun x y H Q => (((rI0 fun i j => .int (i + j)) : R2) x y H Q ∨ ((fun x y H Q => ∃ i j, x = .str i ∧ y = .str j ∧ i.length + j.length ≤ sizeLine ∧ Q (.str (i ++ j)) H) : R2) x y H Q) ∨ (rCatA K x y H Q ∨ rCat x y H Q)
theorem or_add : ∀ X, C.Is X → OpR X (binaryOp .Add) (rAddAny C.K) := fun X h => by rw [← h.K]; exact ((op_add).or op_add_str).or (op_catA.or op_cat)
theorem bd_add : BinD K W (rAddAny K) addD := by
  intro μ H m x y dx dy Q R r1 r2 q
  cases r1 with
  | int i =>
    cases r2 with
    | int j => exact .inl (.inl ⟨i, j, rfl, rfl, wp.ok q R (.int _)⟩)
    | _ => exact q.elim
  | str z =>
    cases r2 with
    | str w =>
      have q' : wp K W (RV K) μ H (if z.length + w.length ≤ 16777216 then .ok (.str (z ++ w)) m else .bad) Q := q
      by_cases hz : z.length + w.length ≤ 16777216
      · rw [if_pos hz] at q'
        exact .inl (.inr ⟨z, w, rfl, rfl, by rw [line_eq]; exact hz, wp.ok q' R (.str _)⟩)
      · rw [if_neg hz] at q'; exact q'.elim
    | _ => exact q.elim
  | @tup a xs ds s r =>
    cases r2 with
    | @tup b ys es s2 r2 =>
      have q' : wp K W (RV K) μ H (if ds.length + es.length ≤ 16777216 then .ok (.tup (ds ++ es)) m else .bad) Q := q
      by_cases hz : ds.length + es.length ≤ 16777216
      · rw [if_pos hz] at q'
        refine .inr (.inl ⟨a, b, xs, ys, rfl, rfl, s, s2, by rw [← r.length, ← r2.length, line_eq]; exact hz, fun e => ?_, fun n e => ?_, fun n n2 p hp => ?_⟩)
        · subst e
          have : ds = [] := List.length_eq_zero_iff.mp (by rw [r.length]; rfl)
          subst this
          exact wp.ok (a := DV.tup ([] ++ es)) q' R (.tup s2 r2)
        · subst e
          have : es = [] := List.length_eq_zero_iff.mp (by rw [r2.length]; rfl)
          subst this
          exact wp.ok (a := DV.tup (ds ++ [])) q' R (by rw [List.append_nil]; exact .tup s r)
        · exact q' _ μ _ (ext_fresh hp) (R.fresh hp) (.tup sqT_new ((r.append r2).mono (ext_fresh hp)))
      · rw [if_neg hz] at q'; exact q'.elim
    | _ => exact q.elim
  | @ref i a hi =>
    cases r2 with
    | @ref j b hj =>
      have q' : wp K W (RV K) μ H (match m[i]?, m[j]? with
        | some (.lst ds), some (.lst es) => if ds.length + es.length ≤ 16777216 then .ok (.ref m.length) (m ++ [.lst (ds ++ es)]) else .bad
        | _, _ => .bad) Q := q
      cases g1 : m[i]? with
      | none => rw [g1] at q'; exact q'.elim
      | some o1 =>
        cases o1 with
        | lst ds =>
          cases g2 : m[j]? with
          | none => rw [g1, g2] at q'; exact q'.elim
          | some o2 =>
            cases o2 with
            | lst es =>
              rw [g1, g2] at q'
              dsimp only at q'
              by_cases hz : ds.length + es.length ≤ 16777216
              · rw [if_pos hz] at q'
                obtain ⟨xs, h1, r1⟩ := R.obj i a _ hi g1
                obtain ⟨ys, h2, r2⟩ := R.obj j b _ hj g2
                refine .inr (.inr ⟨a, b, xs, ys, rfl, rfl, h1, h2, by rw [← r1.length, ← r2.length, line_eq]; exact hz, fun p hp => ?_⟩)
                exact q' _ _ _ ((ext_fresh hp).trans ext_snoc) (rel_lst R hp (r1.append r2)) (rv_new R)
              · rw [if_neg hz] at q'; exact q'.elim
            | _ => rw [g1, g2] at q'; exact q'.elim
        | _ => rw [g1] at q'; exact q'.elim
    | _ => exact q.elim
  | _ => cases r2 <;> exact q.elim
theorem se_plus (ha : SE C a A) (hb : SE C b B) : SE C (.BinOp a .Add b pos) (eBin addD A B) := se_bin or_add bd_add ha hb

/-! ### truth -/
def truD : DV → Mem → Out Bool := fun x m => match x with
  | .non => .ok false m
  | .bl b => .ok b m
  | .int i => .ok (i != 0) m
  | .str z => if z.length ≤ 16777216 then .ok ((z.length : Int) != 0) m else .bad
  | .tup ds => .ok (!ds.isEmpty) m
  | .ref i => (match m[i]? with
    | some (.lst ds) => .ok (!ds.isEmpty) m
    | some (.rol ds) => .ok (!ds.isEmpty) m
    | some (.dic kvs) => .ok (!kvs.isEmpty) m
    | _ => .bad)
def tru (A : DE) : DT := fun env m => (A env m).bind truD
theorem rvs_emp {ds : List DV} {xs : List V} (r : RVs K μ H ds xs) : (!ds.isEmpty) = !xs.isEmpty := by cases r <;> rfl
theorem st_tru (ha : SE C a A) (he : ∀ env whole, isTrue a env whole = (do let v ← whole; standAt a.pos; holding [v] (truthy v)) := by intro _ _; rfl) : ST C a (tru A) := by
  obtain ⟨ta, pa, da⟩ := ha
  refine ⟨_, fun X hX => by have := pt_truth (pa X hX) (he X.env); rw [hX.K] at this; exact this, ⟨fun env m μ σ H Q R E q => ?_⟩⟩
  refine da.run env m μ σ H _ R E (wp.mono (wp.bind q) fun x H1 ⟨dx, m1, μ1, e1, R1, r1, h1⟩ => ?_)
  cases r1 with
  | non => exact ⟨false, rfl, wp.ok h1 R1 rfl⟩
  | bl b => exact ⟨b, rfl, wp.ok h1 R1 rfl⟩
  | int i => exact ⟨_, rfl, wp.ok h1 R1 rfl⟩
  | str z =>
    have q' : wp C.K C.W (fun _ _ a b => a = b) μ1 H1 (if z.length ≤ 16777216 then .ok ((z.length : Int) != 0) m1 else .bad) Q := h1
    by_cases hz : z.length ≤ 16777216
    · rw [if_pos hz] at q'
      exact ⟨_, ⟨by rw [line_eq]; exact hz, rfl⟩, wp.ok q' R1 rfl⟩
    · rw [if_neg hz] at q'; exact q'.elim
  | tup s r => exact ⟨_, .inr (.inl ⟨_, s, rfl⟩), wp.ok h1 R1 (rvs_emp r)⟩
  | @ref i a hi =>
    have q' : wp C.K C.W (fun _ _ a b => a = b) μ1 H1 (match m1[i]? with
      | some (.lst ds) => .ok (!ds.isEmpty) m1
      | some (.rol ds) => .ok (!ds.isEmpty) m1
      | some (.dic kvs) => .ok (!kvs.isEmpty) m1
      | _ => .bad) Q := h1
    cases g : m1[i]? with
    | none => rw [g] at q'; exact q'.elim
    | some ob =>
      rw [g] at q'
      cases ob with
      | lst ds =>
        obtain ⟨xs, s, r⟩ := ro_sq (ds := ds) (.inl rfl) (R1.obj i a _ hi g)
        exact ⟨_, .inl ⟨xs, s, rfl⟩, wp.ok q' R1 (rvs_emp r)⟩
      | rol ds =>
        obtain ⟨xs, s, r⟩ := ro_sq (ds := ds) (.inr rfl) (R1.obj i a _ hi g)
        exact ⟨_, .inl ⟨xs, s, rfl⟩, wp.ok q' R1 (rvs_emp r)⟩
      | dic kvs =>
        obtain ⟨kk, s, r⟩ := R1.obj i a _ hi g
        exact ⟨_, .inr (.inr ⟨kk, s, rfl⟩), wp.ok q' R1 (by cases r <;> rfl)⟩
      | _ => exact q'.elim

/-! ### built-ins over one list or tuple -/
theorem cd1 {r : List V → Hp → VK → Prop} {f : D1} (h : ∀ μ H m v d Q, Rel K m μ H → RV K μ H d v → wp K W (RV K) μ H (f d m) Q → r [v] H Q) : CallD K W r (fun ds m => match ds with | [d] => f d m | _ => .bad) := by
  intro μ H m vs ds Q R r q
  cases r with
  | nil => exact q.elim
  | cons r1 r2 =>
    cases r2 with
    | nil => exact h μ H m _ _ Q R r1 q
    | cons _ _ => exact q.elim
def f1 (f : D1) : DF := fun ds m => match ds with | [d] => f d m | _ => .bad
def f2 (f : D2) : DF := fun ds m => match ds with | [d, e] => f d e m | _ => .bad
theorem cd2 {r : List V → Hp → VK → Prop} {f : D2} (h : ∀ μ H m v w d e Q, Rel K m μ H → RV K μ H d v → RV K μ H e w → wp K W (RV K) μ H (f d e m) Q → r [v, w] H Q) : CallD K W r (f2 f) := by
  intro μ H m vs ds Q R r q
  cases r with
  | nil => exact q.elim
  | cons r1 r2 =>
    cases r2 with
    | nil => exact q.elim
    | cons r2 r3 =>
      cases r3 with
      | nil => exact h μ H m _ _ _ _ Q R r1 r2 q
      | cons _ _ => exact q.elim
def tupD : D1 := fun x m => match seqOf m x with
  | some ds => .ok (.tup ds) m
  | none => .bad
def listD : D1 := fun x m => match seqOf m x with
  | some ds => .ok (.ref m.length) (m ++ [.lst ds])
  | none => .bad
theorem cd_tuple : CallD K W (fun xs H Q => ∃ p ys, xs = [.ref p] ∧ ((SqL K H p ys ∧ ∀ l, H l = none → Q (.ref l) (upd H l (.tup ys))) ∨ (SqT K H p ys ∧ Q (.ref p) H))) (f1 tupD) := cd1 fun μ H m v d Q R r q => by
  unfold tupD at q
  cases g : seqOf m d with
  | none => rw [g] at q; exact q.elim
  | some ds =>
    rw [g] at q
    obtain ⟨a, xs, rfl, rr, s⟩ := seqOf_ok R r g
    rcases s with s | s
    · exact ⟨a, xs, rfl, .inl ⟨s, fun l hl => q _ μ _ (ext_fresh hl) (R.fresh hl) (.tup sqT_new (rr.mono (ext_fresh hl)))⟩⟩
    · exact ⟨a, xs, rfl, .inr ⟨s, wp.ok q R (.tup s rr)⟩⟩
theorem cd_list : CallD K W (fun xs H Q => ∃ p ys, xs = [.ref p] ∧ (SqL K H p ys ∨ SqT K H p ys) ∧ ∀ l, H l = none → Q (.ref l) (upd H l (.lst ys))) (f1 listD) := cd1 fun μ H m v d Q R r q => by
  unfold listD at q
  cases g : seqOf m d with
  | none => rw [g] at q; exact q.elim
  | some ds =>
    rw [g] at q
    obtain ⟨a, xs, rfl, rr, s⟩ := seqOf_ok R r g
    exact ⟨a, xs, rfl, s, fun l hl => q _ _ _ ((ext_fresh hl).trans ext_snoc) (rel_lst R hl rr) (rv_new R)⟩
theorem se_tuple (hm : C.mg "tuple" = none) (ha : SE C e A) (hg : Gb C "tuple" := by rfl) (hs : ∀ env, starEach [e] env = (false, eval e env) :: starEach [] env := by intro _; rfl) : SE C (.Call (.Name "tuple" p) [e] [] pos) (eCall (f1 tupD) (aCons A aNil)) :=
  se_callT (fun X hX => by rw [← hX.K]; exact call_tuple_of) cd_tuple hm (sa_cons ha sa_nil hs) (hg := hg) (he := hs)
theorem se_list (hm : C.mg "list" = none) (ha : SE C e A) (hg : Gb C "list" := by rfl) (hs : ∀ env, starEach [e] env = (false, eval e env) :: starEach [] env := by intro _; rfl) : SE C (.Call (.Name "list" p) [e] [] pos) (eCall (f1 listD) (aCons A aNil)) :=
  se_callT (fun X hX => by rw [← hX.K]; exact call_list_of) cd_list hm (sa_cons ha sa_nil hs) (hg := hg) (he := hs)
/-- all are bools -/
def blsOf : List DV → Option (List Bool)
  | [] => some []
  | .bl b :: r => (blsOf r).map (b :: ·)
  | _ => none
def intsOf' : List DV → Option (List Int)
  | [] => some []
  | .int b :: r => (intsOf' r).map (b :: ·)
  | _ => none
theorem blsOf_ok : ∀ {ds : List DV} {xs : List V} {bs : List Bool}, RVs K μ H ds xs → blsOf ds = some bs → xs = bs.map V.bl
  | [], _, bs, .nil, h => by cases h; rfl
  | d :: ds, _, bs, .cons r rs, h => by
    cases r with
    | bl b =>
      simp only [blsOf] at h
      obtain ⟨cs, h1, h2⟩ := Option.map_eq_some_iff.mp h
      subst h2
      rw [List.map_cons, blsOf_ok rs h1]
    | _ => cases h
theorem intsOf_ok : ∀ {ds : List DV} {xs : List V} {bs : List Int}, RVs K μ H ds xs → intsOf' ds = some bs → xs = bs.map V.int
  | [], _, bs, .nil, h => by cases h; rfl
  | d :: ds, _, bs, .cons r rs, h => by
    cases r with
    | int b =>
      simp only [intsOf'] at h
      obtain ⟨cs, h1, h2⟩ := Option.map_eq_some_iff.mp h
      subst h2
      rw [List.map_cons, intsOf_ok rs h1]
    | _ => cases h
def allD : D1 := fun x m => match (lstOf m x).bind blsOf with
  | some bs => .ok (.bl (bs.all id)) m
  | none => .bad
def anyD : D1 := fun x m => match (lstOf m x).bind blsOf with
  | some bs => .ok (.bl (bs.any id)) m
  | none => .bad
def sumD : D1 := fun x m => match (seqOf m x).bind intsOf' with
  | some bs => .ok (.int bs.sum) m
  | none => .bad
open PyProof.Rows in
theorem tsum_raw {prog : Program} {w : World} {A : Around} {E : Value → Shared → Prop} {s : Shared} {l : Addr} {its : List Value} {ns : List Int} {Q : Value → Shared → Prop} (hh : A.handled = none) (hl : s.heap.IsTuple l its.toArray) (hi : IntsAre its ns)
    (h : ∀ h' tk t', (∀ b o, s.heap.get? b = some o → h'.get? b = some o) → Q (.int ns.sum t') { s with heap := h', toks := tk }) : wpAny (model prog w) A (call (.builtin "sum") [.ref l]) Q E s := by
  obtain ⟨xs, e⟩ := hi.allInts.items
  have hn : numsOf (intItems xs).toList = ns := by rw [← e]; exact hi.numsOf
  rw [nums_intItems] at hn
  rw [e] at hl
  refine PySem.W.ktm_sumG hh hl fun h' tk t' hk => ?_
  have := h h' tk t' hk
  rw [preSum_eq, List.take_of_length_le (by simp), hn]; exact this
def rSumT (K : PySem.W.Frag) : List V → Hp → VK → Prop := fun vs H Q => ∃ (a : Addr) (ns : List Int), vs = [V.ref a] ∧ (SqL K H a (ns.map V.int) ∨ SqT K H a (ns.map V.int)) ∧ Q (.int ns.sum) H
open PyProof.Rows in
theorem cr_sumT {X : Cx} (hc : X.calm = true) : CallR X (.builtin "sum") (rSumT X.K) := by
  intro pins s σ H vs us Q I r h
  obtain ⟨a, ns, rfl, hs, q⟩ := h
  rcases hs with hs | hs
  · exact cr_sum hc pins s σ H [V.ref a] us Q I r ⟨a, ns, rfl, hs, q⟩
  · obtain ⟨its, rv, hl, _⟩ := I.tuple hs
    rw [Vals.ref1 r]
    exact tsum_raw (I.ok.hd hc) hl rv.ints fun h' tk t' hk => ⟨.int _, H, I.kept hk, ⟨_, rfl⟩, q⟩
theorem lst_bls (R : Rel K m μ H) {d : DV} {v : V} {bs : List Bool} (r : RV K μ H d v) (h : (lstOf m d).bind blsOf = some bs) : ∃ a, v = .ref a ∧ SqL K H a (bs.map V.bl) := by
  obtain ⟨ds, h1, h2⟩ := Option.bind_eq_some_iff.mp h
  obtain ⟨a, xs, rfl, rr, s⟩ := lstOf_ok R r h1
  rw [blsOf_ok rr h2] at s
  exact ⟨a, rfl, s⟩
theorem lst_ints (R : Rel K m μ H) {d : DV} {v : V} {bs : List Int} (r : RV K μ H d v) (h : (lstOf m d).bind intsOf' = some bs) : ∃ a, v = .ref a ∧ SqL K H a (bs.map V.int) := by
  obtain ⟨ds, h1, h2⟩ := Option.bind_eq_some_iff.mp h
  obtain ⟨a, xs, rfl, rr, s⟩ := lstOf_ok R r h1
  rw [intsOf_ok rr h2] at s
  exact ⟨a, rfl, s⟩
theorem cd_all : CallD K W (rAll K) (f1 allD) := cd1 fun μ H m v d Q R r q => by
  unfold allD at q
  cases g : (lstOf m d).bind blsOf with
  | none => rw [g] at q; exact q.elim
  | some bs =>
    rw [g] at q
    obtain ⟨a, rfl, s⟩ := lst_bls R r g
    exact ⟨a, bs, rfl, s, wp.ok q R (.bl _)⟩
theorem cd_any : CallD K W (rAny K) (f1 anyD) := cd1 fun μ H m v d Q R r q => by
  unfold anyD at q
  cases g : (lstOf m d).bind blsOf with
  | none => rw [g] at q; exact q.elim
  | some bs =>
    rw [g] at q
    obtain ⟨a, rfl, s⟩ := lst_bls R r g
    exact ⟨a, bs, rfl, s, wp.ok q R (.bl _)⟩
theorem seq_ints (R : Rel K m μ H) {d : DV} {v : V} {bs : List Int} (r : RV K μ H d v) (h : (seqOf m d).bind intsOf' = some bs) : ∃ a, v = .ref a ∧ (SqL K H a (bs.map V.int) ∨ SqT K H a (bs.map V.int)) := by
  obtain ⟨ds, h1, h2⟩ := Option.bind_eq_some_iff.mp h
  obtain ⟨a, xs, rfl, rr, s⟩ := seqOf_ok R r h1
  rw [intsOf_ok rr h2] at s
  exact ⟨a, rfl, s⟩
theorem cd_sum : CallD K W (rSumT K) (f1 sumD) := cd1 fun μ H m v d Q R r q => by
  unfold sumD at q
  cases g : (seqOf m d).bind intsOf' with
  | none => rw [g] at q; exact q.elim
  | some bs =>
    rw [g] at q
    obtain ⟨a, rfl, s⟩ := seq_ints R r g
    exact ⟨a, bs, rfl, s, wp.ok q R (.int _)⟩
theorem se_all (hm : C.mg "all" = none) (ha : SE C e A) (hg : Gb C "all" := by rfl) (hs : ∀ env, starEach [e] env = (false, eval e env) :: starEach [] env := by intro _; rfl) : SE C (.Call (.Name "all" p) [e] [] pos) (eCall (f1 allD) (aCons A aNil)) :=
  se_callB (fun X hX => by rw [← hX.K]; exact cr_all hX.calm) cd_all hm (sa_cons ha sa_nil hs) (hg := hg) (he := hs)
theorem se_any (hm : C.mg "any" = none) (ha : SE C e A) (hg : Gb C "any" := by rfl) (hs : ∀ env, starEach [e] env = (false, eval e env) :: starEach [] env := by intro _; rfl) : SE C (.Call (.Name "any" p) [e] [] pos) (eCall (f1 anyD) (aCons A aNil)) :=
  se_callB (fun X hX => by rw [← hX.K]; exact cr_any hX.calm) cd_any hm (sa_cons ha sa_nil hs) (hg := hg) (he := hs)
theorem se_sum (hm : C.mg "sum" = none) (ha : SE C e A) (hg : Gb C "sum" := by rfl) (hs : ∀ env, starEach [e] env = (false, eval e env) :: starEach [] env := by intro _; rfl) : SE C (.Call (.Name "sum" p) [e] [] pos) (eCall (f1 sumD) (aCons A aNil)) :=
  se_callB (fun X hX => by rw [← hX.K]; exact cr_sumT hX.calm) cd_sum hm (sa_cons ha sa_nil hs) (hg := hg) (he := hs)
/-- int(x): of an int, of a bool -/
def intD : D1 := fun x m => match x with
  | .int i => .ok (.int i) m
  | .bl b => .ok (.int (if b then 1 else 0)) m
  | _ => .bad
theorem cd_int : CallD K W (fun xs H Q => (∃ i, xs = [V.int i] ∧ Q (.int i) H) ∨ ∃ k, xs = [V.bl k] ∧ Q (.int (if k then 1 else 0)) H) (f1 intD) := cd1 fun μ H m v d Q R r q => by
  cases r with
  | int i => exact .inl ⟨i, rfl, wp.ok q R (.int _)⟩
  | bl b => exact .inr ⟨b, rfl, wp.ok q R (.int _)⟩
  | _ => exact q.elim
theorem se_intOf (hm : C.mg "int" = none) (ha : SE C e A) (hg : Gb C "int" := by rfl) (hs : ∀ env, starEach [e] env = (false, eval e env) :: starEach [] env := by intro _; rfl) : SE C (.Call (.Name "int" p) [e] [] pos) (eCall (f1 intD) (aCons A aNil)) :=
  se_callT (fun X hX => call_int1) cd_int hm (sa_cons ha sa_nil hs) (hg := hg) (he := hs)
/-- max(x, y), min(x, y) of ints -/
def max2D : D2 := fun x y m => match x, y with
  | .int i, .int j => .ok (.int (max i j)) m
  | _, _ => .bad
def min2D : D2 := fun x y m => match x, y with
  | .int i, .int j => .ok (.int (min i j)) m
  | _, _ => .bad
theorem se_max2 {e2 : Expr} (hm : C.mg "max" = none) (ha : SE C e A) (hb : SE C e2 B) (hg : Gb C "max" := by rfl) (hs : ∀ env, starEach [e, e2] env = (false, eval e env) :: starEach [e2] env := by intro _; rfl) (hs2 : ∀ env, starEach [e2] env = (false, eval e2 env) :: starEach [] env := by intro _; rfl)
    (hpl : ∀ env, (backTo pos (starEach [e2] env)).any (·.1) = false := by intro _; rfl) : SE C (.Call (.Name "max" p) [e, e2] [] pos) (eCall (f2 max2D) (aCons A (aCons B aNil))) :=
  se_callB (r := fun xs H Q => ∃ i j, xs = [.int i, .int j] ∧ Q (.int (if j > i then j else i)) H) (fun X hX => call_max2 hX.calm) (cd2 fun μ H m v w d e Q R r1 r2 q => by
    cases r1 with
    | int i =>
      cases r2 with
      | int j =>
        refine ⟨i, j, rfl, ?_⟩
        have : (if j > i then j else i) = max i j := by split <;> omega
        rw [this]
        exact wp.ok q R (.int _)
      | _ => exact q.elim
    | _ => cases r2 <;> exact q.elim) hm (sa_cons ha (sa_cons hb sa_nil hs2) hs) (hg := hg) (he := hs) (hpl := hpl)
theorem se_min2 {e2 : Expr} (hm : C.mg "min" = none) (ha : SE C e A) (hb : SE C e2 B) (hg : Gb C "min" := by rfl) (hs : ∀ env, starEach [e, e2] env = (false, eval e env) :: starEach [e2] env := by intro _; rfl) (hs2 : ∀ env, starEach [e2] env = (false, eval e2 env) :: starEach [] env := by intro _; rfl)
    (hpl : ∀ env, (backTo pos (starEach [e2] env)).any (·.1) = false := by intro _; rfl) : SE C (.Call (.Name "min" p) [e, e2] [] pos) (eCall (f2 min2D) (aCons A (aCons B aNil))) :=
  se_callB (r := fun xs H Q => ∃ i j, xs = [.int i, .int j] ∧ Q (.int (if j < i then j else i)) H) (fun X hX => call_min2 hX.calm) (cd2 fun μ H m v w d e Q R r1 r2 q => by
    cases r1 with
    | int i =>
      cases r2 with
      | int j =>
        refine ⟨i, j, rfl, ?_⟩
        have : (if j < i then j else i) = min i j := by split <;> omega
        rw [this]
        exact wp.ok q R (.int _)
      | _ => exact q.elim
    | _ => cases r2 <;> exact q.elim) hm (sa_cons ha (sa_cons hb sa_nil hs2) hs) (hg := hg) (he := hs) (hpl := hpl)

/-! ### methods of lists, stores -/
def apD : D2 := fun x y m => match x with
  | .ref i => (match m[i]? with
    | some (.lst ds) => if ds.length < 16777216 then .ok .non (m.set i (.lst (ds ++ [y]))) else .bad
    | _ => .bad)
  | _ => .bad
def eAppend (A B : DE) : DE := fun env m => (A env m).bind fun x m1 => match lstOf m1 x with
  | some _ => (B env m1).bind fun y m2 => apD x y m2
  | none => .bad
theorem ty_list (R : Rel K m μ H) {d : DV} {v : V} {ds : List DV} (r : RV K μ H d v) (h : lstOf m d = some ds) : tyV K "list" v H := by
  obtain ⟨a, xs, rfl, _, s⟩ := lstOf_ok R r h
  exact .inl ⟨rfl, xs, s⟩
theorem r_append (R : Rel K m μ H) {dx dy : DV} {x y : V} {Q : VK} (r1 : RV K μ H dx x) (r2 : RV K μ H dy y) (q : wp K W (RV K) μ H (apD dx dy m) Q) : rAppend x [y] H Q := by
  cases r1 with
  | @ref i a hi =>
    have q' : wp K W (RV K) μ H (match m[i]? with
      | some (.lst ds) => if ds.length < 16777216 then .ok .non (m.set i (.lst (ds ++ [dy]))) else .bad
      | _ => .bad) Q := q
    cases g : m[i]? with
    | none => rw [g] at q'; exact q'.elim
    | some ob =>
      rw [g] at q'
      cases ob with
      | lst ds =>
        dsimp only at q'
        by_cases hz : ds.length < 16777216
        · rw [if_pos hz] at q'
          obtain ⟨xs, s, r⟩ := R.obj i a _ hi g
          have ew : Ext K μ H μ (upd H a (.lst (xs ++ [y]))) := ext_write s ⟨(by simp), (by simp), (by simp)⟩ (by simp)
          refine ⟨a, xs, y, rfl, rfl, s, by rw [← r.length, line_eq]; exact hz, ?_⟩
          exact q' .non μ _ ew (R.write hi g trivial ⟨_, upd_same, (r.mono ew).append (.cons (r2.mono ew) .nil)⟩ trivial) .non
        · rw [if_neg hz] at q'; exact q'.elim
      | _ => exact q'.elim
  | _ => exact q.elim
theorem se_append (ha : SE C o A) (hb : SE C e B) (hbase : ∀ env, attributeBase o "append" env (eval o env) = eval o env := by intro _; rfl)
    (hfew : ∀ env, ((backTo cpos (starEach [e] env)).all (fun x => !x.1) && (backToKw cpos (keywordEach [] env)).all (fun x => x.1.isSome) && decide (([e] : List Expr).length + ([] : List Keyword).length + (if ([] : List Keyword).isEmpty then 0 else 1) < 30)) = true := by intro _; rfl)
    (hline : (apos.endLine == cpos.line) = true := by rfl) (hs : ∀ env, starEach [e] env = (false, eval e env) :: starEach [] env := by intro _; rfl) : SE C (.Call (.Attribute o "append" apos) [e] [] cpos) (eAppend A B) := by
  obtain ⟨ta, pa, da⟩ := ha
  obtain ⟨tb, pb, db⟩ := hb
  refine ⟨tBM C.K "list" rAppend ta (tCons tb tNil), fun X hX => by rw [← hX.K]; exact pe_bm PySem.F.plainAttrs_list PySem.F.slot_list_append PySem.F.type_list_append mt_append (pa X hX) (pa_cons (pb X hX) pa_nil (hs X.env)) (hbase X.env) (hfew X.env) hline (hs X.env) rfl, ⟨fun env m μ σ H Q R E q => ?_⟩⟩
  refine da.run env m μ σ H _ R E (wp.mono (wp.bind q) fun x H1 ⟨dx, m1, μ1, e1, R1, r1, h1⟩ => ?_)
  dsimp only at h1
  cases g : lstOf m1 dx with
  | none => rw [g] at h1; exact h1.elim
  | some ds =>
    rw [g] at h1
    refine ⟨ty_list R1 r1 g, ?_⟩
    refine db.run env m1 μ1 σ H1 _ R1 (E.mono e1) (wp.mono (wp.bind h1) fun y H2 ⟨dy, m2, μ2, e2, R2, r2, h2⟩ => ?_)
    exact r_append R2 (r1.mono e2) r2 h2
/-- o[i] = v of a list -/
def setL : DV → DV → DV → Mem → Out Unit := fun o i v m => match o, i with
  | .ref k, .int j => (match m[k]? with
    | some (.lst ds) => (match ixN ds.length j with
      | some n => .ok () (m.set k (.lst (ds.set n v)))
      | none => .bad)
    | _ => .bad)
  | _, _ => .bad
def gSetL (A B : DE) : DG := fun v env m => (A env m).bind fun o m1 => (B env m1).bind fun i m2 => (setL o i v m2).bind fun _ m3 => .ok env m3
theorem sg_setL {i : Expr} (ha : SE C o A) (hb : SE C i B) (hh : ∀ env v, assign (.Subscript o i pos) env v = (do
      let ov ← holding [v] (eval o env)
      let iv ← holding [v, ov] (eval i env)
      standAt pos
      holding [v, ov, iv] (setItem ov iv v)
      release [v, ov, iv] []) := by intro _ _; rfl) : SG C (.Subscript o i pos) (gSetL A B) := by
  obtain ⟨ta, pa, da⟩ := ha
  obtain ⟨tb, pb, db⟩ := hb
  refine ⟨gSub ta tb rSetL, fun X hX => pg_sub (pa X hX) (pb X hX) set_list (hh X.env), ⟨fun d v env m μ σ H Q R E r q => ?_⟩⟩
  refine da.run env m μ σ H _ R E (wp.mono (wp.bind q) fun x H1 ⟨dx, m1, μ1, e1, R1, r1, h1⟩ => ?_)
  refine db.run env m1 μ1 σ H1 _ R1 (E.mono e1) (wp.mono (wp.bind h1) fun y H2 ⟨dy, m2, μ2, e2, R2, r2, h2⟩ => ?_)
  have rx := r1.mono e2
  have rd := r.mono (e1.trans e2)
  cases rx with
  | @ref k a hk =>
    cases r2 with
    | int j =>
      have q' : wp C.K C.W (fun μ H => RE C.K μ H) μ2 H2 ((match m2[k]? with
        | some (.lst ds) => (match ixN ds.length j with
          | some n => .ok () (m2.set k (.lst (ds.set n d)))
          | none => .bad)
        | _ => .bad : Out Unit).bind fun _ m3 => .ok env m3) Q := h2
      cases g : m2[k]? with
      | none => rw [g] at q'; exact q'.elim
      | some ob =>
        rw [g] at q'
        cases ob with
        | lst ds =>
          dsimp only at q'
          cases g2 : ixN ds.length j with
          | none => rw [g2] at q'; exact q'.elim
          | some n =>
            rw [g2] at q'
            obtain ⟨xs, s, r⟩ := R2.obj k a _ hk g
            have ew : Ext C.K μ2 H2 μ2 (upd H2 a (.lst (xs.set n v))) := ext_write s ⟨(by simp), (by simp), (by simp)⟩ (by simp)
            refine ⟨a, xs, j, n, rfl, rfl, s, by rw [← r.length]; exact g2, ?_⟩
            exact q' σ μ2 _ ew (R2.write hk g trivial ⟨_, upd_same, RVs.set (rd.mono ew) n (r.mono ew)⟩ trivial) (E.mono ((e1.trans e2).trans ew))
        | _ => exact q'.elim
    | _ => exact h2.elim
  | _ => cases r2 <;> exact h2.elim
end
end DL

end
section
set_option Elab.async false
set_option linter.all false
set_option maxRecDepth 100000
set_option maxHeartbeats 4000000
set_option autoImplicit false
/-! DL8: enumerate over a tuple, min and max of data, tuple(reversed(x)), stores of comprehensions, pops. -/
namespace DL
open PySem PySem.Spec L2

/-! ### enumerate(t), t a tuple or a list -/
theorem newEnum_any {v : Value} {o : Obj} {J : Heap → Prop} (B : PySem.Begins v o J) : Meets (Builtin.«enumerate.__new__» ⟨[.type "enumerate", v], []⟩) (fun _ R s => J s.heap ∧
      R (.ok (.ret (.ref (s.heap.push o).objs.size))) { s with heap := (s.heap.push o).push { cls := .type "enumerate", data := .fields #[.none, .bool false, .ref s.heap.objs.size, rawInt 0, .none, .none] } }) :=
  .of_wp fun prog w A R s h => by
    obtain ⟨hp, g, d, tk, os⟩ := s
    obtain ⟨h1, h⟩ := h
    have sub := sub_enumerate
    have it1 : ∀ {A' : Around} {E : Value → Shared → Prop} {Q : Value → Shared → Prop}, Q (.ref hp.objs.size) ⟨hp.push o, g, d, tk, os⟩ → wpAny (model prog w) A' (pyIter v) Q E ⟨hp, g, d, tk, os⟩ := fun z => B.iter prog w _ _ ⟨hp, g, d, tk, os⟩ _ h1 z
    wp_walk using it1
    refine wpAny_stack_any fun st => wpAny_pure ?_
    split
    · rename_i c _ _ _ _ _
      cases (c == Value.type "enumerate") <;> (wp_walk using it1; exact ⟨_, rfl, h⟩)
    · wp_walk using it1
      exact ⟨_, rfl, h⟩
theorem call_enum_any {prog : Program} {w : World} {A : Around} {E : Value → Shared → Prop} {s : Shared} {v : Value} {o : Obj} {J : Heap → Prop} {Q : Value → Shared → Prop} (B : PySem.Begins v o J) (h1 : J s.heap)
    (h : ∀ h', IsEnum h' (s.heap.objs.size + 1) s.heap.objs.size 0 .none → h'.get? s.heap.objs.size = some o → (∀ b o, s.heap.get? b = some o → h'.get? b = some o) → Q (.ref (s.heap.objs.size + 1)) { s with heap := h' }) :
    wpAny (model prog w) A (call (.type "enumerate") [v]) Q E s := by
  refine callType_new F.called_enumerate (by decide) (F.typeCall_enumerate_1 _) (F.newCall_enumerate_1 _) (fun obj => F.args_object_init_2 obj _) F.entry_enumerate_new (newEnum_any B) ⟨h1, ?_⟩
  have hz : (s.heap.push o).objs.size = s.heap.objs.size + 1 := Heap.size_push ..
  show _ ∧ _
  rw [hz]
  have he : IsEnum ((s.heap.push o).push { cls := .type "enumerate", data := .fields #[.none, .bool false, .ref s.heap.objs.size, rawInt 0, .none, .none] }) (s.heap.objs.size + 1) s.heap.objs.size 0 .none := by
    have z := Heap.get?_push_size (s.heap.push o) (o := { cls := .type "enumerate", data := .fields #[.none, .bool false, .ref s.heap.objs.size, rawInt 0, .none, .none] }) rfl
    rw [hz] at z
    exact z
  exact ⟨⟨_, he, rfl⟩, h _ he (Heap.get?_push_of_some _ (Heap.get?_push_size _ B.free)) fun b o x => Heap.get?_push_of_some _ (Heap.get?_push_of_some _ x)⟩
/-- the tuple at a, its items in new pairs with their places -/
def ItET (K : PySem.W.Frag) (a : Addr) : It :=
  ⟨fun i H => ∃ (xs : List V) (x : V), SqT K H a xs ∧ xs[i]? = some x, fun i H v H' => ∃ T x, v = .ref T ∧ H T = none ∧ H' = upd H T (.tup [.int (i : Nat), x]) ∧ ∀ xs, SqT K H a xs → xs[i]? = some x, fun i H => ∃ xs : List V, SqT K H a xs ∧ xs.length = i⟩
theorem turn_enumT {P : Program} {w : World} {K : PySem.W.Frag} {elts : List Expr} {kk : Nat} {tpos : Pos} (a e it : Addr) :
    Turn P w K (.Tuple elts kk tpos) (ItET K a) [e, it] e (fun i h => (∃ old, IsEnum h e it ((i : Nat) : Int) old) ∧ h.IsTupleIter it a i ∧ e ≠ it ∧ a ≠ it ∧ e ≠ a) where
  mem := List.mem_cons_self
  obj := fun i h st b hb => by
    obtain ⟨⟨old, he⟩, ⟨o, ho, hc, hd⟩, _⟩ := st
    rcases List.mem_cons.mp hb with z | hb
    · rw [z]; exact ⟨_, he, fun v q => nomatch q⟩
    · rw [List.mem_singleton.mp hb]; exact ⟨o, ho, fun v q => by rw [hd] at q; cases q⟩
  keep := fun i h h' st k => let ⟨⟨old, he⟩, hi, hne⟩ := st; ⟨⟨old, k e (by simp) _ he⟩, hi.at fun o q => k it (by simp) o q, hne⟩
  item := by
    intro X hP hw hK hc i pins s σ H E I hf st hg
    subst hP hw hK
    obtain ⟨⟨old, he⟩, hit, hne, hai, hea⟩ := st
    obtain ⟨xs, x, hq, hx⟩ := hg
    obtain ⟨its, rv, p, hz⟩ := I.tuple hq
    obtain ⟨u, hu, ru⟩ := rv.get hx
    have hel : e < s.heap.objs.size := Heap.lt_size he
    have hil : it < s.heap.objs.size := by obtain ⟨_, q, _⟩ := hit; exact Heap.lt_size q
    have hlt : i < its.toArray.size := by
      have := (List.getElem?_eq_some_iff.mp hu).1
      simpa using this
    refine wpAny_pyNext_enum_itemD (n := its.toArray.size) (i := i) (Draws.tuple (A := X.A.in1) (I.ok.hd hc) it a hai its.toArray) he ⟨hit, p⟩ hlt hne (by simp [hne, hea]) fun y h' tk hP ho hst hT hsz hk => ?_
    obtain rfl : u = y := by
      have e1 : its.toArray[i]? = some y := hP
      have e2 : its.toArray[i]? = some u := by simpa using hu
      exact Option.some.inj (e2.symm.trans e1)
    refine ⟨_, rfl, wpAny_letOwnedTupleGo_enum (s := { s with heap := h', toks := tk + 1 }) ho fun h'' he' sb => ?_⟩
    have hT2 : h''.get? s.heap.objs.size = some { cls := .type "tuple", data := .seq #[.int i tk, u] } := (sb.2 _ (Nat.ne_of_gt hel)).trans hT
    have new : ObjOk X.prog X.w (upd H s.heap.objs.size (.tup [.int (i : Nat), x])) h'' s.heap.objs.size (.tup [.int (i : Nat), x]) :=
      ⟨by show 2 ≤ sizeLine; decide, [.int i tk, u], .cons ⟨_, rfl⟩ (.cons ru .nil), ⟨_, hT2, rfl, _, rfl⟩⟩
    have I1 : Inv X pins σ (upd H s.heap.objs.size (.tup [.int (i : Nat), x])) { s with heap := h'', toks := tk + 1 } :=
      I.turnedNew (ch := [e, it]) (fun b ob hb q => (sb.2 b (fun z => hb (by simp [z]))).trans (hk b ob (fun z => hb (by simp [z])) (fun z => hb (by simp [z])) q)) hf (Nat.le_refl _) new
    refine ⟨.ref s.heap.objs.size, _, I1, rfl, ⟨_, x, rfl, I.hok.fresh (Nat.le_refl _), rfl, fun ys hy => by rw [I.tuple_inj hy hq]; exact hx⟩, ⟨⟨u, ?_⟩, hst.1.at fun o q => (sb.2 it (Ne.symm hne)).trans q, hne, hai, hea⟩, fun b hb => ?_⟩
    · rw [show ((i + 1 : Nat) : Int) = (i : Int) + 1 by omega]
      exact he'
    · have hb' : b < s.heap.objs.size := by
        rcases List.mem_cons.mp hb with z | z
        · rw [z]; exact hel
        · rw [List.mem_singleton.mp z]; exact hil
      rw [upd_ne (Nat.ne_of_lt hb')]
      exact (hf b hb).1
  done := by
    intro X hP hw hK hc i pins s σ H E I hf st hg
    subst hP hw hK
    obtain ⟨⟨old, he⟩, hit, hne, hai, hea⟩ := st
    obtain ⟨xs, hq, hx⟩ := hg
    obtain ⟨its, rv, p, hz⟩ := I.tuple hq
    obtain ⟨f0, f1, f2, f3, f4, f5⟩ := hf it (by simp)
    have hl := rv.length
    have D := Draws.tuple (A := X.A.in1) (prog := X.prog) (w := X.w) (I.ok.hd hc) it a hai its.toArray
    have hn : its.toArray.size = i := by simp; omega
    refine wpAny_pyNext_enum_endD D he ⟨by rw [hn]; exact hit, p⟩ fun h' eb => ⟨rfl, I.turned (t' := s.toks) (fun b o hb q => eb b o hb q) f0 f1 f3 f4 f5⟩
  self := fun A i s Q E st h => let ⟨⟨_, he⟩, _⟩ := st; wpAny_pyIter_enum he h

/-- enumerate of a list or a tuple -/
def iEnA (K : PySem.W.Frag) (ta : TA) : TI := fun σ H R => ta σ H fun vs H1 => ∃ a xs, vs = [.ref a] ∧ ((SqL K H1 a xs ∧ R (Ite K a) H1) ∨ (SqT K H1 a xs ∧ R (ItET K a) H1))
theorem pi_enA {X : Cx} {e : Expr} {ta : TA} {p pos tpos : Pos} {elts : List Expr} {kk : Nat} (hg : Gl X "enumerate") (hm : X.mg "enumerate" = none) (ha : PA X [e] ta) (hs : starEach [e] X.env = [(false, eval e X.env)]) :
    PI X (.Tuple elts kk tpos) (.Call (.Name "enumerate" p) [e] [] pos) (iEnA X.K ta) := by
  refine ⟨fun pins s σ H R I h => ?_⟩
  refine PyProof.Rows.Call_ (ld_blt I hg hm PyProof.Rows.boot_enumerate (PyProof.Rows.callWith_type1 (thn (ha.run pos pins s σ H _ I h) fun us s1 ⟨vs, H1, I1, r1, q1⟩ => ?_) hs rfl))
  obtain ⟨a, xs, ex, q⟩ := q1
  subst ex
  obtain ⟨u, rfl, ru⟩ := Vals.one r1
  cases ru
  have fresh : ∀ b, s1.heap.objs.size ≤ b → FpOk X pins H1 b := fun b hle => I1.fpOk hle (I1.hok.fresh hle)
  rcases q with ⟨hq, q⟩ | ⟨hq, q⟩
  · obtain ⟨its, rv, p', hz⟩ := I1.list hq
    refine call_enum_any (PySem.begins_list a its.toArray) p'.isList fun h' he hit hk => wpAny_pyIter_enum he ?_
    have I2 : Inv X pins σ H1 { s1 with heap := h' } := I1.kept (t' := s1.toks) hk
    refine ⟨s1.heap.objs.size + 1, [s1.heap.objs.size + 1, s1.heap.objs.size], _, _, H1, rfl, I2, turn_enum a (s1.heap.objs.size + 1) s1.heap.objs.size, ⟨⟨.none, he⟩, ⟨_, hit, rfl, rfl⟩, Nat.succ_ne_self _⟩, fun b hb => fresh b ?_, q⟩
    rcases List.mem_cons.mp hb with z | z
    · rw [z]; exact Nat.le_add_right _ _
    · rw [List.mem_singleton.mp z]; exact Nat.le_refl _
  · obtain ⟨its, rv, p', hz⟩ := I1.tuple hq
    refine call_enum_any (PySem.begins_tuple a its.toArray) p' fun h' he hit hk => wpAny_pyIter_enum he ?_
    have I2 : Inv X pins σ H1 { s1 with heap := h' } := I1.kept (t' := s1.toks) hk
    have la : a < s1.heap.objs.size := by obtain ⟨o, ho, _⟩ := p'; exact Heap.lt_size ho
    refine ⟨s1.heap.objs.size + 1, [s1.heap.objs.size + 1, s1.heap.objs.size], _, _, H1, rfl, I2, turn_enumT a (s1.heap.objs.size + 1) s1.heap.objs.size, ⟨⟨.none, he⟩, ⟨_, hit, rfl, rfl⟩, Nat.succ_ne_self _, Nat.ne_of_lt la, Nat.ne_of_gt (Nat.lt_succ_of_lt la)⟩, fun b hb => fresh b ?_, q⟩
    rcases List.mem_cons.mp hb with z | z
    · rw [z]; exact Nat.le_add_right _ _
    · rw [List.mem_singleton.mp z]; exact Nat.le_refl _

section
variable {C : Cn} {a b c e o tg iter lo hi : Expr} {es : List Expr} {p q p2 pos pos2 apos cpos : Pos} {A B : DE} {As : DA} {T : DT} {x : Str} {S : DS} {I : DI} {G : DG}
variable {K : PySem.W.Frag} {W : XK} {μ μ' : List Addr} {H H' : Hp} {m : Mem}
/-- the items in pairs with their places -/
def enm (ds : List DV) : Nat → List DV
  | k => match ds with
    | [] => []
    | d :: r => .tup [.int (k : Int), d] :: enm r (k + 1)
theorem enm_get : ∀ {ds : List DV} {k j : Nat} {d : DV}, (enm ds k)[j]? = some d → ∃ x, ds[j]? = some x ∧ d = .tup [.int ((k + j : Nat) : Int), x]
  | [], _, _, _, h => by simp [enm] at h
  | x :: r, k, 0, d, h => by simp [enm] at h; exact ⟨x, rfl, h.symm⟩
  | x :: r, k, j + 1, d, h => by
    have h' : (enm r (k + 1))[j]? = some d := by simpa [enm] using h
    obtain ⟨y, h1, h2⟩ := enm_get h'
    exact ⟨y, by simpa using h1, by rw [h2]; congr 3; omega⟩
theorem enm_len : ∀ (ds : List DV) (k : Nat), (enm ds k).length = ds.length
  | [], _ => rfl
  | _ :: r, k => by simp [enm, enm_len r]
def iEnumD (A : DE) : DI := fun env m => (A env m).bind fun x m1 => match x with
  | .ref i => (match m1[i]? with
    | some (.lst ds) => .ok ⟨enm ds 0, [(i, .lst ds)]⟩ m1
    | some (.rol ds) => .ok ⟨enm ds 0, [(i, .rol ds)]⟩ m1
    | _ => .bad)
  | .tup ds => .ok ⟨enm ds 0, []⟩ m1
  | _ => .bad
theorem rv_pair {H : Hp} {T : Addr} {j : Nat} {d : DV} {v : V} (hT : H T = none) (r : RV K μ H d v) : RV K μ (upd H T (.tup [.int (j : Int), v])) (.tup [.int (j : Int), d]) (.ref T) :=
  .tup sqT_new (.cons (.int _) (.cons (r.mono (ext_fresh hT)) .nil))
theorem ri_enL {i : Nat} {a : Addr} {ds : List DV} {o : MO} (ho : o = .lst ds ∨ o = .rol ds) (hi : μ[i]? = some a) : RI K (Ite K a) ⟨enm ds 0, [(i, o)]⟩ μ H := by
  intro m1 μ1 H1 e R g j
  obtain ⟨xs, s, r⟩ := ro_sq ho (R.obj i a o (e.pre i a hi) (guard1 g))
  refine ⟨fun d hd => ?_, fun hl => ⟨xs, s, by
    have hl' : (enm ds 0).length = j := hl
    rw [enm_len, r.length] at hl'
    omega⟩⟩
  obtain ⟨y, h1, rfl⟩ := enm_get hd
  obtain ⟨v, h2, h3⟩ := r.get h1
  refine ⟨⟨xs, v, s, h2⟩, fun x H' ⟨T, w, e1, e2, e3, e4⟩ => ?_⟩
  subst e1 e3
  have := e4 xs s
  rw [h2] at this
  cases this
  rw [Nat.zero_add]
  exact ⟨ext_fresh e2, R.fresh e2, rv_pair e2 h3⟩
theorem ri_enT {a : Addr} {ds : List DV} {xs : List V} (s : SqT K H a xs) (r : RVs K μ H ds xs) : RI K (ItET K a) ⟨enm ds 0, []⟩ μ H := by
  intro m1 μ1 H1 e R g j
  have s1 := e.tups _ _ s
  have r1 := r.mono e
  refine ⟨fun d hd => ?_, fun hl => ⟨xs, s1, by
    have hl' : (enm ds 0).length = j := hl
    rw [enm_len, r.length] at hl'
    omega⟩⟩
  obtain ⟨y, h1, rfl⟩ := enm_get hd
  obtain ⟨v, h2, h3⟩ := r1.get h1
  refine ⟨⟨xs, v, s1, h2⟩, fun x H' ⟨T, w, e1, e2, e3, e4⟩ => ?_⟩
  subst e1 e3
  have := e4 xs s1
  rw [h2] at this
  cases this
  rw [Nat.zero_add]
  exact ⟨ext_fresh e2, R.fresh e2, rv_pair e2 h3⟩
theorem si_enum {elts : List Expr} {kk : Nat} {tpos : Pos} (hm : C.mg "enumerate" = none) (h : SE C e A) (hg : Gb C "enumerate" := by rfl) (hs : ∀ env, starEach [e] env = [(false, eval e env)] := by intro _; rfl) : SI C (.Tuple elts kk tpos) (.Call (.Name "enumerate" p) [e] [] pos) (iEnumD A) := by
  obtain ⟨t, pp, d⟩ := h
  refine ⟨iEnA C.K (tCons t tNil), fun X hX => by rw [← hX.K]; exact pi_enA (hg.gl hX) (by rw [hX.mg]; exact hm) (pa_cons (pp X hX) pa_nil (by rw [hs]; rfl)) (hs X.env), ⟨fun env m μ σ H R Rl E q => ?_⟩⟩
  refine d.run env m μ σ H _ Rl E (wp.mono (wp.bind q) fun x H1 ⟨dx, m1, μ1, e1, R1, r1, h1⟩ => ?_)
  cases r1 with
  | @ref i a hi =>
    have h1' : wp C.K C.W (fun μ H it J => RI C.K J it μ H) μ1 H1 (match m1[i]? with
      | some (.lst ds) => .ok ⟨enm ds 0, [(i, .lst ds)]⟩ m1
      | some (.rol ds) => .ok ⟨enm ds 0, [(i, .rol ds)]⟩ m1
      | _ => .bad) R := h1
    cases g : m1[i]? with
    | none => rw [g] at h1'; exact h1'.elim
    | some ob =>
      rw [g] at h1'
      cases ob with
      | lst ds =>
        obtain ⟨xs, s, r⟩ := ro_sq (ds := ds) (.inl rfl) (R1.obj i a _ hi g)
        exact ⟨a, xs, rfl, .inl ⟨s, wp.ok h1' R1 (ri_enL (.inl rfl) hi)⟩⟩
      | rol ds =>
        obtain ⟨xs, s, r⟩ := ro_sq (ds := ds) (.inr rfl) (R1.obj i a _ hi g)
        exact ⟨a, xs, rfl, .inl ⟨s, wp.ok h1' R1 (ri_enL (.inr rfl) hi)⟩⟩
      | _ => exact h1'.elim
  | tup s r => exact ⟨_, _, rfl, .inr ⟨s, wp.ok h1 R1 (ri_enT s r)⟩⟩
  | _ => exact h1.elim

/-! ### min, max of a list of data -/
mutual
def ofD : PyData → DV
  | .none => .non
  | .bool b => .bl b
  | .int i => .int i
  | .str x => .str x
  | .tuple ds => .tup (ofDs ds)
  | _ => .non
def ofDs : List PyData → List DV
  | [] => []
  | d :: ds => ofD d :: ofDs ds
end
theorem ofDs_of {n : Nat} (ih : ∀ (d : DV) (pp : PyData), d.lo 0 → pd m n d = some pp → ofD pp = d) : ∀ {ds : List DV} {ps : List PyData}, loAll 0 ds → optAll (ds.map (pd m n)) = some ps → ofDs ps = ds
  | [], ps, _, h => by simp [optAll] at h; subst h; simp [ofDs]
  | d :: ds, ps, hl, h => by
    simp only [loAll] at hl
    rw [List.map_cons] at h
    cases e : pd m n d with
    | none => rw [e] at h; simp [optAll] at h
    | some pp =>
      rw [e] at h
      simp only [optAll] at h
      obtain ⟨qs, h1, h2⟩ := Option.map_eq_some_iff.mp h
      subst h2
      simp only [ofDs]
      rw [ih d pp hl.1 e, ofDs_of ih hl.2 h1]
theorem ofD_of : ∀ (n : Nat) (d : DV) (pp : PyData), d.lo 0 → pd m n d = some pp → ofD pp = d := by
  intro n
  induction n with
  | zero => intro d pp hl h; cases d <;> simp [pd] at h <;> subst h <;> simp [ofD]
  | succ n ih =>
    intro d pp hl h
    cases d with
    | tup ds =>
      simp only [pd] at h
      obtain ⟨qs, h1, h2⟩ := Option.map_eq_some_iff.mp h
      subst h2
      simp only [DV.lo] at hl
      simp only [ofD]
      rw [ofDs_of ih hl h1]
    | ref i => simp [DV.lo] at hl
    | _ => simp [pd] at h <;> subst h <;> simp [ofD]
theorem optAll_get : ∀ {os : List (Option PyData)} {ps : List PyData} {i : Nat} {pp : PyData}, optAll os = some ps → ps[i]? = some pp → os[i]? = some (some pp)
  | [], ps, i, pp, h, g => by simp [optAll] at h; subst h; simp at g
  | none :: _, ps, i, pp, h, g => by simp [optAll] at h
  | some d :: r, ps, i, pp, h, g => by
    simp only [optAll] at h
    obtain ⟨qs, h1, h2⟩ := Option.map_eq_some_iff.mp h
    subst h2
    cases i with
    | zero => simpa using g
    | succ i => simpa using optAll_get h1 (by simpa using g)
theorem minD_mem (f : PyData → PyData → Bool) (x : PyData) : ∀ xs : List PyData, xs.foldl (fun a y => if f a y = true then y else a) x ∈ x :: xs
  | [] => by simp
  | y :: ys => by
    rw [List.foldl_cons]
    have := minD_mem f (if f x y = true then y else x) ys
    rcases List.mem_cons.mp this with h | h
    · rw [h]
      split <;> simp
    · exact List.mem_cons_of_mem _ (List.mem_cons_of_mem _ h)
theorem readsAll_ix {h : Heap} : ∀ {vs : List Value} {xs : List PyData} {as : List Addr}, ReadsAll h vs xs as → ∀ (i : Nat) (v : Value), vs[i]? = some v → ∃ d bs, xs[i]? = some d ∧ Reads h v d bs := by
  intro vs xs as hr i v hv
  have h1 : (vs.toArray)[i]? = some v := by simpa using hv
  obtain ⟨bs, r, hl, _, _⟩ := PySem.W.readsAll_at (vs := vs) hr i v hv
  refine ⟨xs.getD i .none, bs, ?_, r⟩
  rw [List.getD_eq_getElem?_getD]
  rw [List.getElem?_eq_getElem hl]
  rfl
def rBest (K : PySem.W.Frag) (g : PyData → List PyData → PyData) : List V → Hp → VK → Prop := fun vs H Q => ∃ a xs pp ps, vs = [.ref a] ∧ SqL K H a xs ∧ DpAll K H xs (pp :: ps) ∧ PySem.W.AlikeAll (pp :: ps) ∧ PyData.depthAll (pp :: ps) ≤ 50 ∧
  ∀ (i : Nat) v, xs[i]? = some v → (pp :: ps)[i]? = some (g pp ps) → Q v H
theorem cr_minD {X : Cx} (hc : X.calm = true) (hu : X.A.units + 64 < cLine) : CallR X (.builtin "min") (rBest X.K PySem.W.minD) := by
  intro pins s σ H vs us Q I r ⟨a, xs, pp, ps, e, hs, dp, al, hd, q⟩
  subst e
  obtain ⟨u, rfl, ru⟩ := Vals.one r
  cases ru
  obtain ⟨its, rv, pl, hz⟩ := I.list hs
  obtain ⟨as, hr⟩ := Dp.readsAll I _ _ _ dp rv
  refine PySem.W.min_list_data (vs := its.toArray) (I.ok.hd hc) pl.isList (by simpa using hr) al (by omega) fun i v h' tk bs hi rd hk => ?_
  have hi' : its[i]? = some v := by simpa using hi
  have hl : i < xs.length := by rw [rv.length]; exact (List.getElem?_eq_some_iff.mp hi').1
  obtain ⟨w, hw, rw'⟩ := rv.get (i := i) (x := xs[i]) (by simp [hl])
  rw [hi'] at hw
  cases hw
  obtain ⟨d, bs2, hd2, rd2⟩ := readsAll_ix hr i v hi'
  have rd3 := PyProof.Rows.Reads.keeps hk rd2
  have e2 : d = PySem.W.minD pp ps := PySem.W.alike_unique d _ v _ _ (al.1 d (List.mem_of_getElem? hd2) _ (by unfold PySem.W.minD; exact minD_mem (fun a y => PySem.W.dataLt y a) pp ps)) rd3 rd
  exact ⟨xs[i], H, I.kept (t' := tk) hk, rw', q i _ (by simp [hl]) (by rw [← e2]; exact hd2)⟩
theorem cr_maxD {X : Cx} (hc : X.calm = true) (hu : X.A.units + 64 < cLine) : CallR X (.builtin "max") (rBest X.K PySem.W.maxD) := by
  intro pins s σ H vs us Q I r ⟨a, xs, pp, ps, e, hs, dp, al, hd, q⟩
  subst e
  obtain ⟨u, rfl, ru⟩ := Vals.one r
  cases ru
  obtain ⟨its, rv, pl, hz⟩ := I.list hs
  obtain ⟨as, hr⟩ := Dp.readsAll I _ _ _ dp rv
  refine PySem.W.max_list_data (vs := its.toArray) (I.ok.hd hc) pl.isList (by simpa using hr) al (by omega) fun i v h' tk bs hi rd hk => ?_
  have hi' : its[i]? = some v := by simpa using hi
  have hl : i < xs.length := by rw [rv.length]; exact (List.getElem?_eq_some_iff.mp hi').1
  obtain ⟨w, hw, rw'⟩ := rv.get (i := i) (x := xs[i]) (by simp [hl])
  rw [hi'] at hw
  cases hw
  obtain ⟨d, bs2, hd2, rd2⟩ := readsAll_ix hr i v hi'
  have rd3 := PyProof.Rows.Reads.keeps hk rd2
  have e2 : d = PySem.W.maxD pp ps := PySem.W.alike_unique d _ v _ _ (al.1 d (List.mem_of_getElem? hd2) _ (by unfold PySem.W.maxD; exact minD_mem (fun a y => PySem.W.dataLt a y) pp ps)) rd3 rd
  exact ⟨xs[i], H, I.kept (t' := tk) hk, rw', q i _ (by simp [hl]) (by rw [← e2]; exact hd2)⟩
open Classical in
noncomputable def bestD (g : PyData → List PyData → PyData) : D1 := fun x m => match lstOf m x with
  | some ds => (match optAll (ds.map (pd m 50)) with
    | some (pp :: ps) => if loAll 0 ds ∧ PySem.W.AlikeAll (pp :: ps) ∧ PyData.depthAll (pp :: ps) ≤ 50 then .ok (ofD (g pp ps)) m else .bad
    | _ => .bad)
  | none => .bad
theorem cd_best (g : PyData → List PyData → PyData) : CallD K W (rBest K g) (f1 (bestD g)) := cd1 fun μ H m v d Q R r q => by
  unfold bestD at q
  cases e1 : lstOf m d with
  | none => rw [e1] at q; exact q.elim
  | some ds =>
    rw [e1] at q
    dsimp only at q
    obtain ⟨a, xs, rfl, rr, s⟩ := lstOf_ok R r e1
    cases e2 : optAll (ds.map (pd m 50)) with
    | none => rw [e2] at q; exact q.elim
    | some l =>
      rw [e2] at q
      cases l with
      | nil => exact q.elim
      | cons pp ps =>
        dsimp only at q
        by_cases hc : loAll 0 ds ∧ PySem.W.AlikeAll (pp :: ps) ∧ PyData.depthAll (pp :: ps) ≤ 50
        · rw [if_pos hc] at q
          refine ⟨a, xs, pp, ps, rfl, s, dpAll_of (dp_of R 50) e2 rr, hc.2.1, hc.2.2, fun i v hv hg => ?_⟩
          obtain ⟨dd, h1, h2⟩ := rr.get' hv
          have h3 := optAll_get e2 hg
          rw [List.getElem?_map, h1] at h3
          have h4 : pd m 50 dd = some (g pp ps) := by simpa using h3
          have h5 : ofD (g pp ps) = dd := ofD_of 50 dd _ (loAll_iff.mp hc.1 dd (List.mem_of_getElem? h1)) h4
          rw [h5] at q
          exact wp.ok q R h2
        · rw [if_neg hc] at q; exact q.elim
theorem se_minL (hm : C.mg "min" = none) (ha : SE C e A) (hg : Gb C "min" := by rfl) (hs : ∀ env, starEach [e] env = (false, eval e env) :: starEach [] env := by intro _; rfl) : SE C (.Call (.Name "min" p) [e] [] pos) (eCall (f1 (bestD PySem.W.minD)) (aCons A aNil)) :=
  se_callB (fun X hX => by rw [← hX.K]; exact cr_minD hX.calm (room64 hX)) (cd_best _) hm (sa_cons ha sa_nil hs) (hg := hg) (he := hs)
theorem se_maxL (hm : C.mg "max" = none) (ha : SE C e A) (hg : Gb C "max" := by rfl) (hs : ∀ env, starEach [e] env = (false, eval e env) :: starEach [] env := by intro _; rfl) : SE C (.Call (.Name "max" p) [e] [] pos) (eCall (f1 (bestD PySem.W.maxD)) (aCons A aNil)) :=
  se_callB (fun X hX => by rw [← hX.K]; exact cr_maxD hX.calm (room64 hX)) (cd_best _) hm (sa_cons ha sa_nil hs) (hg := hg) (he := hs)

/-! ### tuple(reversed(l)) -/
def revD : D1 := fun x m => match lstOf m x with
  | some ds => .ok (.tup ds.reverse) m
  | none => .bad
theorem se_tupRev {p2 : Pos} (hm : C.mg "tuple" = none) (hm2 : C.mg "reversed" = none) (ha : SE C e A) (hg : Gb C "tuple" := by rfl) (hg2 : Gb C "reversed" := by rfl)
    (hs : ∀ env, starEach [e] env = (false, eval e env) :: starEach [] env := by intro _; rfl)
    (hs2 : ∀ env, starEach [.Call (.Name "reversed" p2) [e] [] pos2] env = (false, eval (.Call (.Name "reversed" p2) [e] [] pos2) env) :: starEach [] env := by intro _; rfl) :
    SE C (.Call (.Name "tuple" p) [.Call (.Name "reversed" p2) [e] [] pos2] [] pos) (eUn revD A) := by
  obtain ⟨ta, pa, da⟩ := ha
  refine ⟨RT.tTupRev C.K ta, fun X hX => by rw [← hX.K]; exact RT.pe_tupRev hX.calm (hg.gl hX) (by rw [hX.mg]; exact hm) (hg2.gl hX) (by rw [hX.mg]; exact hm2) (pa X hX) (hs X.env) (hs2 X.env), ⟨fun env m μ σ H Q R E q => ?_⟩⟩
  refine da.run env m μ σ H _ R E (wp.mono (wp.bind q) fun x H1 ⟨dx, m1, μ1, e1, R1, r1, h1⟩ => ?_)
  unfold revD at h1
  cases g : lstOf m1 dx with
  | none => rw [g] at h1; exact h1.elim
  | some ds =>
    rw [g] at h1
    obtain ⟨a, xs, rfl, rr, s⟩ := lstOf_ok R1 r1 g
    exact ⟨a, xs, rfl, s, fun l hl => h1 _ μ1 _ (ext_fresh hl) (R1.fresh hl) (.tup sqT_new (rr.reverse.mono (ext_fresh hl)))⟩

/-! ### y = [..], y a plain local -/
theorem ss_setLc (i : Nat) {y : Str} {py spos : Pos} {elt : Expr} {ifs : List Expr} {scope : Scope} {own : List (Str × Nat)} (hi : SI C tg iter I) (ok : BlkOk C.N C.sc scope own) (hg : SGv (C.blk scope) (own.map (·.2)) tg G) (ht : STs (C.blk scope) ifs T) (he : SE (C.blk scope) elt A)
    (hy : C.N[i]? = some y := by rfl) (hyl : C.sc.names.lookup y = some .local := by rfl) (hsw : ∀ env : PySem.Env, env.scope = C.sc → swapsWith (.ListComp elt [⟨tg, iter, ifs, 0⟩] scope pos) (some (.Name y py)) spos.line env = pure true)
    (hs : ∀ env x, foldedSetIterable iter env x = pure x := by intro _ _; rfl) : SS C (.Assign [.Name y py] (.ListComp elt [⟨tg, iter, ifs, 0⟩] scope pos) spos) (sSet i (eComp I G T A (own.map (·.2)))) := by
  obtain ⟨wi, pi, di⟩ := hi
  obtain ⟨g, pg, dg, fg⟩ := hg
  obtain ⟨tt, pt, dt⟩ := ht
  obtain ⟨te, pe, de⟩ := he
  have d := sd_comp (scope := scope) di dg fg dt de
  refine ⟨_, fun X hX => ps_setLc hX.calm (by rw [hX.N]; exact hX.nd) (by rw [hX.N]; exact hy) (by rw [hX.sc]; exact hyl) (hsw X.env hX.sc) (pi X hX) (by rw [hX.N, hX.sc]; exact ok) (fun s H Ca cl fp => pg _ (hX.blk scope s H Ca cl fp)) (fun s H Ca cl fp => pt _ (hX.blk scope s H Ca cl fp))
    (fun s H Ca cl fp => pe _ (hX.blk scope s H Ca cl fp)) (hs X.env), ⟨fun env m μ σ H Dn R E q => ?_⟩⟩
  exact d.run env m μ σ H _ R E (wp.mono (wpS.bind q) fun x H1 ⟨dx, m1, μ1, e1, R1, r1, h1⟩ => h1.nx R1 ((E.mono e1).set i r1))
theorem sw_yes {elt : Expr} {gs : List Comprehension} {scope sc : Scope} {pos py : Pos} {y : Str} {l : Nat} (hk : sc.kind = .function := by rfl) (hy : sc.names.lookup y = some .local := by rfl) (hl : (py.line == pos.line) = true := by rfl)
    (ha : (scope.names.any fun (n, k) => n == y && (k == .local || k == .cell)) = false := by decide +kernel) : ∀ env : PySem.Env, env.scope = sc → swapsWith (.ListComp elt gs scope pos) (some (.Name y py)) l env = pure true := fun env h => sw_true (by rw [h]; exact hk) (by rw [h]; exact hy) hl ha
/-- a, b, c = x, y, z (plain locals) -/
def sPar3 (i j l : Nat) (As : DA) : DS := fun env m => (As env m).bind fun ds m1 => match ds with
  | [d, d', d''] => .ok (.nx (((env.set i (some d)).set j (some d')).set l (some d''))) m1
  | _ => .bad
theorem pip_add : ∀ X, C.Is X → PIp X .Add (rI0 fun i j => .int (i + j)) := fun X h pins s σ H x y v u Q I rx ry q => iop_add pins s σ H x y v u Q I rx ry q
theorem pip_sub : ∀ X, C.Is X → PIp X .Sub (rI0 fun i j => .int (i - j)) := fun X h pins s σ H x y v u Q I rx ry q => iop_sub pins s σ H x y v u Q I rx ry q
theorem bd_iadd : BinD K W (rI0 fun i j => .int (i + j)) iAdd := bd_int0 fun _ _ _ _ => .int _
theorem bd_isub : BinD K W (rI0 fun i j => .int (i - j)) iSub := bd_int0 fun _ _ _ _ => .int _
theorem sw_no {v : Expr} {sc : Scope} {py : Pos} {y : Str} {l : Nat} (hy : sc.names.lookup y = some .cell := by rfl) (hk : sc.kind = .function := by rfl) (hc : ∀ env, swapsWith v (some (.Name y py)) l env = (do
    let some scope := (match v with
      | .ListComp _ _ s _ | .SetComp _ _ s _ | .DictComp _ _ _ s _ => some s
      | _ => none) | return false
    return env.blockKind == .function && env.kindOf y == some .local && py.line == v.pos.line && !(scope.names.any fun (n, k) => n == y && (k == .local || k == .cell))) := by intro _; rfl) :
    ∀ env : PySem.Env, env.scope = sc → swapsWith v (some (.Name y py)) l env = pure false := fun env h => by
  have ky : env.kindOf y = some .cell := by show env.scope.names.lookup y = _; rw [h]; exact hy
  have hb : env.blockKind = .function := by unfold PySem.Env.blockKind; rw [h, hk]; rfl
  rw [hc]
  cases v <;> first
    | rfl
    | (simp only [hb, ky]; rfl)
/-! forgetting behind a test -/
open Classical in
noncomputable def gcT (T : DT) : DT := fun env m => match T env m with
  | .ok b m' => if OldOk m m' then .ok b (m'.take m.length) else .ok b m'
  | o => o
theorem st_gc (h : ST C e T) : ST C e (gcT T) := by
  obtain ⟨t, pt, d⟩ := h
  refine ⟨t, pt, ⟨fun env m μ σ H Q R E q => d.run env m μ σ H Q R E ?_⟩⟩
  unfold gcT at q
  cases o : T env m with
  | ok b m' =>
    rw [o] at q
    dsimp only at q
    by_cases old : OldOk m m'
    · rw [if_pos old] at q
      intro b' μ2 H2 e2 R2 r2
      exact q b' μ H2 ⟨⟨fun _ _ h => h, e2.tups⟩, e2.frz⟩ (rel_take R e2 R2 old) r2
    · rw [if_neg old] at q; exact q
  | exc x m' => rw [o] at q; exact q
  | bad => rw [o] at q; exact q
end
end DL

end
section
set_option Elab.async false
set_option linter.all false
set_option maxRecDepth 100000
set_option maxHeartbeats 4000000
set_option autoImplicit false
/-! DL9: zip, is True, in and not in over data, three targets, minus. -/
namespace DL
open PySem PySem.Spec L2
section
variable {C : Cn} {a b c e e2 o tg iter lo hi : Expr} {es : List Expr} {p q p2 pos pos2 apos cpos : Pos} {A B : DE} {As : DA} {T : DT} {x : Str} {S : DS} {I : DI} {G : DG}
variable {K : PySem.W.Frag} {W : XK} {μ μ' : List Addr} {H H' : Hp} {m : Mem}

/-! ### zip of two lists, of two tuples -/
def zp : List DV → List DV → List DV
  | x :: xs, y :: ys => .tup [x, y] :: zp xs ys
  | _, _ => []
theorem zp_get : ∀ {xs ys : List DV} {j : Nat} {d : DV}, (zp xs ys)[j]? = some d → ∃ x y, xs[j]? = some x ∧ ys[j]? = some y ∧ d = .tup [x, y]
  | [], _, _, _, h => by simp [zp] at h
  | _ :: _, [], _, _, h => by simp [zp] at h
  | x :: xs, y :: ys, 0, d, h => by simp [zp] at h; exact ⟨x, y, rfl, rfl, h.symm⟩
  | x :: xs, y :: ys, j + 1, d, h => by
    obtain ⟨u, v, h1, h2, h3⟩ := zp_get (xs := xs) (ys := ys) (j := j) (by simpa [zp] using h)
    exact ⟨u, v, by simpa using h1, by simpa using h2, h3⟩
theorem zp_len : ∀ xs ys : List DV, (zp xs ys).length = min xs.length ys.length
  | [], _ => by simp [zp]
  | _ :: _, [] => by simp [zp]
  | _ :: xs, _ :: ys => by simp [zp, zp_len xs ys]
def iZipD (A B : DE) : DI := fun env m => (A env m).bind fun x m1 => (B env m1).bind fun y m2 => match x, y with
  | .tup xs, .tup ys => .ok ⟨zp xs ys, []⟩ m2
  | .ref i, .ref j => (match m2[i]?, m2[j]? with
    | some (.lst xs), some (.lst ys) => .ok ⟨zp xs ys, [(i, .lst xs), (j, .lst ys)]⟩ m2
    | _, _ => .bad)
  | _, _ => .bad
theorem ri_zipL {i j : Nat} {a b : Addr} {xs ys : List DV} (hi : μ[i]? = some a) (hj : μ[j]? = some b) : RI K (Itz K a b) ⟨zp xs ys, [(i, .lst xs), (j, .lst ys)]⟩ μ H := by
  intro m1 μ1 H1 e R g k
  obtain ⟨us, s, r⟩ := ro_sq (ds := xs) (.inl rfl) (R.obj i a _ (e.pre i a hi) (g (i, .lst xs) (by simp)))
  obtain ⟨vs, s2, r2⟩ := ro_sq (ds := ys) (.inl rfl) (R.obj j b _ (e.pre j b hj) (g (j, .lst ys) (by simp)))
  refine ⟨fun d hd => ?_, fun hl => ⟨us, vs, s, s2, ?_⟩⟩
  · obtain ⟨x, y, h1, h2, rfl⟩ := zp_get hd
    obtain ⟨v, h3, h4⟩ := r.get h1
    obtain ⟨w, h5, h6⟩ := r2.get h2
    refine ⟨⟨us, vs, v, w, s, s2, h3, h5⟩, fun z H' ⟨T, u', w', e1, e2, e3, e4, e5⟩ => ?_⟩
    subst e1 e3
    have q1 := e4 us s
    have q2 := e5 vs s2
    rw [h3] at q1
    rw [h5] at q2
    cases q1
    cases q2
    exact ⟨ext_fresh e2, R.fresh e2, .tup sqT_new (.cons (h4.mono (ext_fresh e2)) (.cons (h6.mono (ext_fresh e2)) .nil))⟩
  · have hl' : (zp xs ys).length = k := hl
    rw [zp_len, r.length, r2.length] at hl'
    omega
theorem ri_zipT {a b : Addr} {xs ys : List DV} {us vs : List V} (s : SqT K H a us) (r : RVs K μ H xs us) (s2 : SqT K H b vs) (r2 : RVs K μ H ys vs) : RI K (RZ.ItzT K a b) ⟨zp xs ys, []⟩ μ H := by
  intro m1 μ1 H1 e R g k
  have s' := e.tups _ _ s
  have s2' := e.tups _ _ s2
  have r' := r.mono e
  have r2' := r2.mono e
  refine ⟨fun d hd => ?_, fun hl => ⟨us, vs, s', s2', ?_⟩⟩
  · obtain ⟨x, y, h1, h2, rfl⟩ := zp_get hd
    obtain ⟨v, h3, h4⟩ := r'.get h1
    obtain ⟨w, h5, h6⟩ := r2'.get h2
    refine ⟨⟨us, vs, v, w, s', s2', h3, h5⟩, fun z H' ⟨T, u', w', e1, e2, e3, e4, e5⟩ => ?_⟩
    subst e1 e3
    have q1 := e4 us s'
    have q2 := e5 vs s2'
    rw [h3] at q1
    rw [h5] at q2
    cases q1
    cases q2
    exact ⟨ext_fresh e2, R.fresh e2, .tup sqT_new (.cons (h4.mono (ext_fresh e2)) (.cons (h6.mono (ext_fresh e2)) .nil))⟩
  · have hl' : (zp xs ys).length = k := hl
    rw [zp_len, r'.length, r2'.length] at hl'
    omega
theorem si_zip {elts : List Expr} {kk : Nat} {tpos : Pos} (hm : C.mg "zip" = none) (h : SE C e A) (h' : SE C e2 B) (hg : Gb C "zip" := by rfl) (hs : ∀ env, starEach [e, e2] env = (false, eval e env) :: starEach [e2] env := by intro _; rfl) (hs2 : ∀ env, starEach [e2] env = (false, eval e2 env) :: starEach [] env := by intro _; rfl)
    (hpl : ∀ env, (backTo pos (starEach [e2] env)).any (·.1) = false := by intro _; rfl) : SI C (.Tuple elts kk tpos) (.Call (.Name "zip" p) [e, e2] [] pos) (iZipD A B) := by
  obtain ⟨t, pp, d⟩ := h
  obtain ⟨t', pp', d'⟩ := h'
  refine ⟨RZ.iZipA C.K (tCons t (tCons t' tNil)), fun X hX => by rw [← hX.K]; exact RZ.pi_zipA (hg.gl hX) (by rw [hX.mg]; exact hm) (pa_cons (pp X hX) (pa_cons (pp' X hX) pa_nil (hs2 X.env)) (hs X.env)) (hs X.env) (hpl X.env), ⟨fun env m μ σ H R Rl E q => ?_⟩⟩
  refine d.run env m μ σ H _ Rl E (wp.mono (wp.bind q) fun x H1 ⟨dx, m1, μ1, e1, R1, r1, h1⟩ => ?_)
  refine d'.run env m1 μ1 σ H1 _ R1 (E.mono e1) (wp.mono (wp.bind h1) fun y H2 ⟨dy, m2, μ2, e2, R2, r2, h2⟩ => ?_)
  have r1' := r1.mono e2
  cases r1' with
  | tup s r =>
    cases r2 with
    | tup s2 r2 => exact ⟨_, _, _, _, rfl, .inr ⟨s, s2, wp.ok h2 R2 (ri_zipT s r s2 r2)⟩⟩
    | _ => exact h2.elim
  | @ref i a hi =>
    cases r2 with
    | @ref j b hj =>
      have q' : wp C.K C.W (fun μ H it J => RI C.K J it μ H) μ2 H2 (match m2[i]?, m2[j]? with
        | some (.lst xs), some (.lst ys) => .ok ⟨zp xs ys, [(i, .lst xs), (j, .lst ys)]⟩ m2
        | _, _ => .bad) R := h2
      cases g1 : m2[i]? with
      | none => rw [g1] at q'; exact q'.elim
      | some o1 =>
        cases o1 with
        | lst xs =>
          cases g2 : m2[j]? with
          | none => rw [g1, g2] at q'; exact q'.elim
          | some o2 =>
            cases o2 with
            | lst ys =>
              rw [g1, g2] at q'
              obtain ⟨us, s, r⟩ := ro_sq (ds := xs) (.inl rfl) (R2.obj i a _ hi g1)
              obtain ⟨vs, s2, r2⟩ := ro_sq (ds := ys) (.inl rfl) (R2.obj j b _ hj g2)
              exact ⟨a, b, us, vs, rfl, .inl ⟨s, s2, wp.ok q' R2 (ri_zipL hi hj)⟩⟩
            | _ => rw [g1, g2] at q'; exact q'.elim
        | _ => rw [g1] at q'; exact q'.elim
    | _ => exact h2.elim
  | _ => cases r2 <;> exact h2.elim

/-! ### is True, is False -/
def isBD (k : Bool) : D1 := fun x m => .ok (.bl (match x with
  | .bl b => decide (b = k)
  | _ => false)) m
theorem or_isAny {X : Cx} (k : Bool) : OpR X (compareOp .Is) (fun x y H Q => y = V.bl k ∧ Q (.bl (decide (x = V.bl k))) H) := by
  intro pins s σ H x y v u Q I rx ry ⟨ey, h⟩
  subst ey
  cases (show u = Value.bool k from ry)
  by_cases e : x = V.bl k
  · subst e
    cases (show v = Value.bool k from rx)
    exact wpAny_is_self rfl ⟨.bl true, H, I, rfl, by simpa using h⟩
  · refine wpAny_is_other ?_ (fun z => e ?_) ⟨.bl false, H, I, rfl, by simpa [e] using h⟩
    · cases x <;> first
        | (cases rx; rfl)
        | (obtain ⟨t, rfl⟩ := rx; rfl)
    · subst z
      cases x <;> first
        | (cases rx; rfl)
        | exact absurd rx (by rintro ⟨t, ⟨⟩⟩)
theorem und_isB {k : Bool} : UnD K W (fun x H Q => (fun x y H Q => y = V.bl k ∧ Q (.bl (decide (x = V.bl k))) H : R2) x (.bl k) H Q) (isBD k) := by
  intro μ H m x dx Q R r1 q
  refine ⟨rfl, ?_⟩
  cases r1 <;> exact wp.ok q R (by first | exact .bl _ | (simp; constructor))
theorem se_isB {j} {k : Bool} (ha : SE C a A) : SE C (.Compare a [.Is] [.Constant (.bool k) j q] pos) (eUn (isBD k) A) := by
  obtain ⟨ta, pa, da⟩ := ha
  exact ⟨_, fun X h => pe_cmpR (or_isAny k) (pa X h) pe_bl (nomark _), sd_un1 und_isB da⟩
theorem st_isB {j} {k : Bool} (ha : SE C a A) : ST C (.Compare a [.Is] [.Constant (.bool k) j q] pos) (tst (eUn (isBD k) A)) := by
  obtain ⟨ta, pa, da⟩ := ha
  exact ⟨_, fun X h => pt_cmpR (or_isAny k) (pa X h) pe_bl (nomark _), sd_tst (sd_un1 und_isB da)⟩

/-! ### three targets -/
theorem ss_par3 (i j l : Nat) {x y z : Str} {px py pz pt : Pos} {kt k2 pt2} (h : SA C [a, b, c] As) (hi : C.N[i]? = some x := by rfl) (hj : C.N[j]? = some y := by rfl) (hl : C.N[l]? = some z := by rfl) (hij : i ≠ j := by decide) (hil : i ≠ l := by decide) (hjl : j ≠ l := by decide)
    (hx : C.sc.names.lookup x = some .local := by rfl) (hy : C.sc.names.lookup y = some .local := by rfl) (hz : C.sc.names.lookup z = some .local := by rfl)
    (hw : ∀ env : PySem.Env, env.scope = C.sc → swappedStores [.Tuple [.Name x px, .Name y py, .Name z pz] kt pt] (.Tuple [a, b, c] k2 pt2) env = pure (some [x, y, z]))
    (hs : ∀ env, swapsWithSole [.Tuple [.Name x px, .Name y py, .Name z pz] kt pt] (.Tuple [a, b, c] k2 pt2) pos.line env = pure false := by intro _; rfl) :
    SS C (.Assign [.Tuple [.Name x px, .Name y py, .Name z pz] kt pt] (.Tuple [a, b, c] k2 pt2) pos) (sPar3 i j l As) := by
  obtain ⟨t, p, d⟩ := h
  refine ⟨tPar3 i j l t, fun X hX => ps_par3 hX.calm (by rw [hX.N]; exact hX.nd) (by rw [hX.N]; exact hi) (by rw [hX.N]; exact hj) (by rw [hX.N]; exact hl) hij hil hjl (by rw [hX.sc]; exact hx) (by rw [hX.sc]; exact hy) (by rw [hX.sc]; exact hz) (p X hX) (hw _ hX.sc) (hs X.env), ⟨fun env m μ σ H Dn R E q => ?_⟩⟩
  refine d.run env m μ σ H _ R E (wp.mono (wpS.bind q) fun xs H1 ⟨ds, m1, μ1, e1, R1, r1, h1⟩ => ?_)
  cases r1 with
  | nil => exact h1.elim
  | @cons d1 v1 ds vs r1 r2 =>
    cases r2 with
    | nil => exact h1.elim
    | @cons d2 v2 ds vs r2 r3 =>
      cases r3 with
      | nil => exact h1.elim
      | @cons d3 v3 ds vs r3 r4 =>
        cases r4 with
        | nil => exact ⟨v1, v2, v3, rfl, h1.nx R1 ((((E.mono e1).set i r1).set j r2).set l r3)⟩
        | cons _ _ => exact h1.elim

/-! ### in, not in: over a list or tuple of data -/
def inB (neg : Bool) : D2 := fun x y m => match pd m 60 x, lstOf m y, pd m 60 y with
  | some d, some _, some (.list ds) => if SeqAt.shaped d = true ∧ SeqAt.shaped (.list ds) = true then .ok (.bl (if neg then !ds.any fun z => PyData.eqv z d else ds.any fun z => PyData.eqv z d)) m else .bad
  | _, _, _ => .bad
abbrev inD : D2 := inB false
abbrev notInD : D2 := inB true
theorem bd_in : BinD K W (rInD K) inD := by
  intro μ H m x y dx dy Q R r1 r2 q
  unfold inD inB at q
  cases e1 : pd m 60 dx with
  | none => rw [e1] at q; exact q.elim
  | some d =>
    cases e2 : lstOf m dy with
    | none => rw [e1, e2] at q; exact q.elim
    | some xs =>
      cases e3 : pd m 60 dy with
      | none => rw [e1, e2, e3] at q; exact q.elim
      | some l =>
        rw [e1, e2, e3] at q
        cases l with
        | list ds =>
          dsimp only at q
          by_cases h : SeqAt.shaped d = true ∧ SeqAt.shaped (.list ds) = true
          · rw [if_pos h] at q
            exact ⟨d, ds, dp_of R _ _ _ _ e1 r1, dp_of R _ _ _ _ e3 r2, h.1, h.2, wp.ok q R (.bl _)⟩
          · rw [if_neg h] at q; exact q.elim
        | _ => exact q.elim
theorem bd_notIn : BinD K W (rNotInD K) notInD := by
  intro μ H m x y dx dy Q R r1 r2 q
  unfold notInD inB at q
  cases e1 : pd m 60 dx with
  | none => rw [e1] at q; exact q.elim
  | some d =>
    cases e2 : lstOf m dy with
    | none => rw [e1, e2] at q; exact q.elim
    | some xs =>
      cases e3 : pd m 60 dy with
      | none => rw [e1, e2, e3] at q; exact q.elim
      | some l =>
        rw [e1, e2, e3] at q
        cases l with
        | list ds =>
          dsimp only at q
          by_cases h : SeqAt.shaped d = true ∧ SeqAt.shaped (.list ds) = true
          · rw [if_pos h] at q
            exact ⟨d, ds, dp_of R _ _ _ _ e1 r1, dp_of R _ _ _ _ e3 r2, h.1, h.2, wp.ok q R (.bl _)⟩
          · rw [if_neg h] at q; exact q.elim
        | _ => exact q.elim
/-- minus -/
def negD : D1 := fun x m => match x with
  | .int i => .ok (.int (-i)) m
  | _ => .bad
theorem se_neg (ha : SE C a A) : SE C (.UnaryOp .USub a pos) (eUn negD A) := by
  obtain ⟨ta, pa, da⟩ := ha
  refine ⟨_, fun X h => pe_un un_neg (pa X h), sd_un (r := rU fun i => V.int (-i)) (fun μ H m x dx Q R r q => ?_) da⟩
  cases r with
  | int i => exact ⟨i, rfl, wp.ok q R (.int _)⟩
  | _ => exact q.elim
end
end DL

end
section
set_option Elab.async false
set_option linter.all false
set_option maxRecDepth 100000
set_option maxHeartbeats 4000000
set_option autoImplicit false
/-! DL10: names of the module that hold ints and texts, is not True, defs that call themselves, lists of ranges. -/
namespace DL
open PySem PySem.Spec L2
section
variable {C : Cn} {a b c e o tg iter lo hi : Expr} {es : List Expr} {p q p2 pos apos cpos : Pos} {A B : DE} {As : DA} {T : DT} {x : Str} {S : DS}
variable {K : PySem.W.Frag} {W : XK} {μ μ' : List Addr} {H H' : Hp} {m : Mem}
/-! ### ints and texts of the module -/
theorem sd_C {v : V} {d : DV} (h : ∀ μ H, RV K μ H d v) : Sd K W (tC v) (eC d) := ⟨fun env m μ σ H Q R E q => wp.ok q R (h μ H)⟩
theorem se_gInt {i : Int} (hm : ∃ t, C.mg x = some (.int i t)) (hg : Gb C x := by rfl) (hd : (x == ("__debug__" : Str)) = false := by decide) : SE C (.Name x pos) (eC (.int i)) := by
  obtain ⟨t, hm⟩ := hm
  exact ⟨_, fun X hX => pe_glob (v := .int i) (hg.gl hX) (by rw [hX.mg]; exact hm) ⟨t, rfl⟩ hd, sd_C fun _ _ => .int i⟩
theorem se_gStr {z : Str} (hm : ∃ t, C.mg x = some (.str z t)) (hg : Gb C x := by rfl) (hd : (x == ("__debug__" : Str)) = false := by decide) : SE C (.Name x pos) (eC (.str z)) := by
  obtain ⟨t, hm⟩ := hm
  exact ⟨_, fun X hX => pe_glob (v := .str z) (hg.gl hX) (by rw [hX.mg]; exact hm) ⟨t, rfl⟩ hd, sd_C fun _ _ => .str z⟩
/-! ### is not True -/
def notBD (k : Bool) : D1 := fun x m => .ok (.bl (match x with
  | .bl b => !decide (b = k)
  | _ => true)) m
theorem or_isNotAny {X : Cx} (k : Bool) : OpR X (compareOp .IsNot) (fun x y H Q => y = V.bl k ∧ Q (.bl (!decide (x = V.bl k))) H) := by
  intro pins s σ H x y v u Q I rx ry ⟨ey, h⟩
  subst ey
  cases (show u = Value.bool k from ry)
  by_cases e : x = V.bl k
  · subst e
    cases (show v = Value.bool k from rx)
    exact PySem.wpAny_isNot_self rfl ⟨.bl false, H, I, rfl, by simpa using h⟩
  · refine PySem.wpAny_isNot_other ?_ (fun z => e ?_) ⟨.bl true, H, I, rfl, by simpa [e] using h⟩
    · cases x <;> first
        | (cases rx; rfl)
        | (obtain ⟨t, rfl⟩ := rx; rfl)
    · subst z
      cases x <;> first
        | (cases rx; rfl)
        | exact absurd rx (by rintro ⟨t, ⟨⟩⟩)
theorem und_notB {k : Bool} : UnD K W (fun x H Q => (fun x y H Q => y = V.bl k ∧ Q (.bl (!decide (x = V.bl k))) H : R2) x (.bl k) H Q) (notBD k) := by
  intro μ H m x dx Q R r1 q
  refine ⟨rfl, ?_⟩
  cases r1 <;> exact wp.ok q R (by first | (simp; constructor) | (simp only [V.bl.injEq]; exact .bl _))
theorem se_notB {j} {k : Bool} (ha : SE C a A) : SE C (.Compare a [.IsNot] [.Constant (.bool k) j q] pos) (eUn (notBD k) A) := by
  obtain ⟨ta, pa, da⟩ := ha
  exact ⟨_, fun X h => pe_cmpR (or_isNotAny k) (pa X h) pe_bl (nomark _), sd_un1 und_notB da⟩
theorem st_notB {j} {k : Bool} (ha : SE C a A) : ST C (.Compare a [.IsNot] [.Constant (.bool k) j q] pos) (tst (eUn (notBD k) A)) := by
  obtain ⟨ta, pa, da⟩ := ha
  exact ⟨_, fun X h => pt_cmpR (or_isNotAny k) (pa X h) pe_bl (nomark _), sd_tst (sd_un1 und_notB da)⟩
/-! ### a def that calls itself: nothing is said of a depth of 0 -/
def dBad : DF := fun _ _ => .bad
theorem fn_zero {G : Sg} {x qual : Str} {params : Arguments} {body : List Stmt} {scope : Scope} {f : Addr} {fd : FuncData} {ps : List Str} {k n : Nat} (F : FunD G.K x qual params body scope [] [] f fd) (hg : G.mg x = some (.ref f))
    (hbi : ∀ (kV doc pm : Value) (an : Option Addr) (cdv ct : Value) (us : List Value), us.length = ps.length → bindArgs (PySem.W.fnOf x qual params body scope .none kV doc pm an cdv ct) ⟨us, []⟩ = pure (ps.zip us)) (hn : ps.length = n := by rfl) : Fn G k x n dBad :=
  ⟨f, fd, ps, hn, ⟨fun vs H Q E ⟨m, μ, ds, e, _⟩ => by rw [hn]; exact e, fun A outer s H args us vs Q E _ _ _ _ ⟨_, _, _, _, _, _, q⟩ => q.elim⟩, hg, F.kp, F.bindsN hbi⟩
/-! ### list(range(..)), tuple(range(..)) -/
abbrev DR := Env → Mem → Out (Int × Int)
structure SdRg (K : PySem.W.Frag) (W : XK) (t : St → Hp → (Int → Int → Hp → Prop) → Prop) (D : DR) : Prop where
  run : ∀ env m μ σ H Q, Rel K m μ H → RE K μ H env σ → wp K W (fun _ _ (a b : Int × Int) => a = b) μ H (D env m) (fun b H' => Q b.1 b.2 H') → t σ H Q
def SRg (C : Cn) (e : Expr) (D : DR) : Prop := ∃ t, (∀ X, C.Is X → PRg X e t) ∧ SdRg C.K C.W t D
def dRg1 (A : DE) : DR := fun env m => (A env m).bind fun x m1 => match x with
  | .int n => .ok (0, n) m1
  | _ => .bad
def dRg2 (A B : DE) : DR := fun env m => (A env m).bind fun x m1 => (B env m1).bind fun y m2 => match x, y with
  | .int i, .int j => .ok (i, j) m2
  | _, _ => .bad
theorem srg_1 (h : SE C a A) (hm : C.mg "range" = none) (hg : Gb C "range" := by rfl) (hs : ∀ env, starEach [a] env = (false, eval a env) :: starEach [] env := by intro _; rfl) : SRg C (.Call (.Name "range" p) [a] [] pos) (dRg1 A) := by
  obtain ⟨ta, pa, da⟩ := h
  refine ⟨tRg1 ta, fun X hX => prg_1 (hg.gl hX) (by rw [hX.mg]; exact hm) (pa X hX) (hs X.env), ⟨fun env m μ σ H Q R E q => ?_⟩⟩
  refine da.run env m μ σ H _ R E (wp.mono (wp.bind q) fun x H1 ⟨dx, m1, μ1, e1, R1, r1, h1⟩ => ?_)
  cases r1 with
  | int n => exact ⟨n, rfl, wp.ok (b := ((0 : Int), n)) h1 R1 rfl⟩
  | _ => exact h1.elim
theorem srg_2 (h : SE C a A) (h' : SE C b B) (hm : C.mg "range" = none) (hg : Gb C "range" := by rfl) (hs : ∀ env, starEach [a, b] env = (false, eval a env) :: starEach [b] env := by intro _; rfl)
    (hs2 : ∀ env, starEach [b] env = (false, eval b env) :: starEach [] env := by intro _; rfl) (hp : ∀ env, (backTo pos (starEach [b] env)).any (·.1) = false := by intro _; rfl) : SRg C (.Call (.Name "range" p) [a, b] [] pos) (dRg2 A B) := by
  obtain ⟨ta, pa, da⟩ := h
  obtain ⟨tb, pb, db⟩ := h'
  refine ⟨tRg2 ta tb, fun X hX => prg_2 (hg.gl hX) (by rw [hX.mg]; exact hm) (pa X hX) (pb X hX) (hs X.env) (hs2 X.env) (hp X.env), ⟨fun env m μ σ H Q R E q => ?_⟩⟩
  refine da.run env m μ σ H _ R E (wp.mono (wp.bind q) fun x H1 ⟨dx, m1, μ1, e1, R1, r1, h1⟩ => ?_)
  refine db.run env m1 μ1 σ H1 _ R1 (E.mono e1) (wp.mono (wp.bind h1) fun y H2 ⟨dy, m2, μ2, e2, R2, r2, h2⟩ => ?_)
  cases r1 with
  | int i =>
    cases r2 with
    | int j => exact ⟨i, j, rfl, rfl, wp.ok (b := (i, j)) h2 R2 rfl⟩
    | _ => exact h2.elim
  | _ => cases r2 <;> exact h2.elim
noncomputable instance (a b : Int) : Decidable (RgOk a b) := Classical.propDecidable _
noncomputable def eLstRg (D : DR) : DE := fun env m => (D env m).bind fun ab m1 => if RgOk ab.1 ab.2 then .ok (.ref m1.length) (m1 ++ [.lst (rng ab.1 (ab.2 - ab.1).toNat)]) else .bad
theorem rng_rv (lo hi : Int) : RVs K μ H (rng lo (hi - lo).toNat) (rgV lo hi) := by
  have : ∀ ns : List Nat, RVs K μ H (ns.map fun (i : Nat) => DV.int (lo + (i : Int))) (ns.map fun (i : Nat) => V.int (lo + (i : Int))) := by
    intro ns
    induction ns with
    | nil => exact .nil
    | cons n ns ih => exact .cons (.int _) ih
  exact this _
theorem se_listRg {D : DR} (hm : C.mg "list" = none) (h : SRg C e D) (hg : Gb C "list" := by rfl) (hs : ∀ env, starEach [e] env = (false, eval e env) :: starEach [] env := by intro _; rfl) : SE C (.Call (.Name "list" p) [e] [] pos) (eLstRg D) := by
  obtain ⟨t, pr, dr⟩ := h
  refine ⟨tLstRg t, fun X hX => pe_listRg hX.calm (hg.gl hX) (by rw [hX.mg]; exact hm) (pr X hX) (hs X.env), ⟨fun env m μ σ H Q R E q => ?_⟩⟩
  refine dr.run env m μ σ H _ R E (wp.mono (wp.bind q) fun ab H1 ⟨ab', m1, μ1, e1, R1, r1, h1⟩ => ?_)
  subst r1
  dsimp only at h1
  by_cases hk : RgOk ab'.1 ab'.2
  · rw [if_pos hk] at h1
    refine ⟨hk, fun l hl => ?_⟩
    exact (wp.later ((ext_fresh hl).trans ext_snoc) h1).ok (rel_lst R1 hl (rng_rv _ _)) (.ref (by rw [← R1.len]; simp))
  · rw [if_neg hk] at h1; exact h1.elim
/-! ### sep.join(texts) -/
def strsOf : List DV → Option (List Str)
  | [] => some []
  | .str b :: r => (strsOf r).map (b :: ·)
  | _ => none
theorem strsOf_ok : ∀ {ds : List DV} {xs : List V} {bs : List Str}, RVs K μ H ds xs → strsOf ds = some bs → xs = bs.map V.str
  | [], _, bs, .nil, h => by cases h; rfl
  | d :: ds, _, bs, .cons r rs, h => by
    cases r with
    | str b =>
      simp only [strsOf] at h
      obtain ⟨cs, h1, h2⟩ := Option.map_eq_some_iff.mp h
      subst h2
      rw [List.map_cons, strsOf_ok rs h1]
    | _ => cases h
def joinD (a : Str) : D1 := fun y m => match (seqOf m y).bind strsOf with
  | some ys => if (ys.map (·.length)).sum + ys.length * a.length ≤ 16777216 then .ok (.str (Txt.join a ys)) m else .bad
  | none => .bad
def eJoin (A B : DE) : DE := fun env m => (A env m).bind fun x m1 => match x with
  | .str a => (B env m1).bind (joinD a)
  | _ => .bad
theorem se_join (ha : SE C o A) (hb : SE C e B) (hs : ∀ env, starEach [e] env = [(false, eval e env)] := by intro _; rfl) (hbase : ∀ env, attributeBase o "join" env (eval o env) = eval o env := by intro _; rfl) (hline : (apos.endLine == pos.line) = true := by rfl) :
    SE C (.Call (.Attribute o "join" apos) [e] [] pos) (eJoin A B) := by
  obtain ⟨ta, pa, da⟩ := ha
  obtain ⟨tb, pb, db⟩ := hb
  refine ⟨_, fun X hX => by have := L2.pe_join (apos := apos) (pos := pos) (pa X hX) (pb X hX) (hs X.env) (hbase X.env) hline; rw [hX.K] at this; exact this, ⟨fun env m μ σ H Q R E q => ?_⟩⟩
  refine da.run env m μ σ H _ R E (wp.mono (wp.bind q) fun x H1 ⟨dx, m1, μ1, e1, R1, r1, h1⟩ => ?_)
  cases r1 with
  | str a =>
    refine ⟨⟨a, rfl⟩, ?_⟩
    refine db.run env m1 μ1 σ H1 _ R1 (E.mono e1) (wp.mono (wp.bind h1) fun y H2 ⟨dy, m2, μ2, e2, R2, r2, h2⟩ => ?_)
    unfold joinD at h2
    cases g : (seqOf m2 dy).bind strsOf with
    | none => rw [g] at h2; exact h2.elim
    | some ys =>
      rw [g] at h2
      dsimp only at h2
      obtain ⟨ds, g1, g2⟩ := Option.bind_eq_some_iff.mp g
      obtain ⟨p, xs, rfl, rr, s⟩ := seqOf_ok R2 r2 g1
      rw [strsOf_ok rr g2] at s
      by_cases hz : (ys.map (·.length)).sum + ys.length * a.length ≤ 16777216
      · rw [if_pos hz] at h2
        exact ⟨a, p, ys, rfl, rfl, s, hz, wp.ok h2 R2 (.str _)⟩
      · rw [if_neg hz] at h2; exact h2.elim
  | _ => exact h1.elim
end
end DL

end
section
set_option Elab.async false
set_option linter.all false
set_option maxRecDepth 100000
set_option maxHeartbeats 4000000
set_option autoImplicit false

/-! Plain laws over D-terms: running them. -/
namespace DL
open PySem PySem.Spec L2

section sat
variable {α β : Type} {o : Out α} {m : Mem}
def Out.sat (o : Out α) (P : α → Mem → Prop) : Prop := match o with
  | .ok a m => P a m
  | _ => False
@[simp] theorem sat_ok (a : α) (m : Mem) (P : α → Mem → Prop) : (Out.ok a m).sat P = P a m := id rfl
@[simp] theorem sat_bad (P : α → Mem → Prop) : (Out.bad : Out α).sat P = False := id rfl
@[simp] theorem sat_bind (o : Out α) (f : α → Mem → Out β) (P : β → Mem → Prop) : (o.bind f).sat P = o.sat fun a m => (f a m).sat P := by cases o <;> rfl
@[simp] theorem sat_nox (o : Out α) (P : α → Mem → Prop) : o.nox.sat P = o.sat P := by cases o <;> rfl
@[simp] theorem sat_ite (c : Prop) [Decidable c] (o o' : Out α) (P : α → Mem → Prop) : (if c then o else o').sat P = if c then o.sat P else o'.sat P := by split <;> rfl
theorem Out.sat.mono {P Q : α → Mem → Prop} (h : o.sat P) (k : ∀ a m, P a m → Q a m) : o.sat Q := by
  cases o with
  | ok a m => exact k a m h
  | _ => exact h
theorem Out.sat.ex {P : α → Mem → Prop} (h : o.sat P) : ∃ a m, o = .ok a m ∧ P a m := by
  cases o with
  | ok a m => exact ⟨a, m, rfl, h⟩
  | _ => exact h.elim
theorem Out.sat.eq {a : α} {m : Mem} (h : o.sat fun b m' => b = a ∧ m' = m) : o = .ok a m := by
  obtain ⟨b, m', e, rfl, rfl⟩ := h.ex
  exact e
end sat

/-- short enough for one sequence -/
def szOk (n : Nat) : Bool := decide (n ≤ 16777216)
theorem szOk_iff (n : Nat) : szOk n = true ↔ n ≤ 16777216 := by unfold szOk; exact decide_eq_true_iff
theorem szOk_of {n : Nat} (h : n ≤ 1000000) : szOk n = true := (szOk_iff n).mpr (Nat.le_trans h (by omega))
@[simp] theorem szOk_0 : szOk 0 = true := szOk_of (by omega)
@[simp] theorem szOk_1 : szOk 1 = true := szOk_of (by omega)
@[simp] theorem szOk_2 : szOk 2 = true := szOk_of (by omega)
@[simp] theorem szOk_3 : szOk 3 = true := szOk_of (by omega)
@[simp] theorem szOk_4 : szOk 4 = true := szOk_of (by omega)
@[simp] theorem szOk_5 : szOk 5 = true := szOk_of (by omega)
@[simp] theorem szOk_6 : szOk 6 = true := szOk_of (by omega)
@[simp] theorem szOk_7 : szOk 7 = true := szOk_of (by omega)
@[simp] theorem szOk_8 : szOk 8 = true := szOk_of (by omega)
@[simp] theorem szOk_9 : szOk 9 = true := szOk_of (by omega)
@[simp] theorem szOk_10 : szOk 10 = true := szOk_of (by omega)
@[simp] theorem szOk_11 : szOk 11 = true := szOk_of (by omega)
@[simp] theorem szOk_12 : szOk 12 = true := szOk_of (by omega)
@[simp] theorem szOk_13 : szOk 13 = true := szOk_of (by omega)
@[simp] theorem szOk_14 : szOk 14 = true := szOk_of (by omega)
@[simp] theorem szOk_15 : szOk 15 = true := szOk_of (by omega)
@[simp] theorem szOk_16 : szOk 16 = true := szOk_of (by omega)
@[simp] theorem szOk_17 : szOk 17 = true := szOk_of (by omega)
@[simp] theorem szOk_18 : szOk 18 = true := szOk_of (by omega)
@[simp] theorem szOk_19 : szOk 19 = true := szOk_of (by omega)
@[simp] theorem szOk_20 : szOk 20 = true := szOk_of (by omega)
@[simp] theorem szOk_21 : szOk 21 = true := szOk_of (by omega)
@[simp] theorem szOk_22 : szOk 22 = true := szOk_of (by omega)
@[simp] theorem szOk_23 : szOk 23 = true := szOk_of (by omega)
@[simp] theorem szOk_24 : szOk 24 = true := szOk_of (by omega)
section run
variable {A B D : DE} {As : DA} {S S' : DS} {T U : DT} {env : Env} {m : Mem}
@[simp] theorem eVar_eq (i : Nat) : eVar i env m = match env[i]? with | some (some d) => .ok d m | _ => .bad := id rfl
@[simp] theorem eC_eq (d : DV) : eC d env m = .ok d m := id rfl
@[simp] theorem eBin_eq (f : D2) : eBin f A B env m = (A env m).bind fun x m1 => (B env m1).bind fun y m2 => f x y m2 := id rfl
@[simp] theorem eUn_eq (f : D1) : eUn f A env m = (A env m).bind f := id rfl
@[simp] theorem tst_bl {c : Bool} (h : A env m = .ok (.bl c) m) : tst A env m = .ok c m := by unfold tst; rw [h]; rfl
@[simp] theorem tst_sat (P : Bool → Mem → Prop) : (tst A env m).sat P = (A env m).sat fun x m1 => match x with | .bl c => P c m1 | _ => False := by
  unfold tst; rw [sat_bind]; congr; funext x m1; cases x <;> rfl
@[simp] theorem iOp_eq (h : Int → Int → DV) (i j : Int) : iOp h (.int i) (.int j) m = .ok (h i j) m := id rfl
@[simp] theorem iOpC_eq (c : Int → Int → Prop) [∀ i j, Decidable (c i j)] (h : Int → Int → DV) (i j : Int) : iOpC c h (.int i) (.int j) m = if c i j then .ok (h i j) m else .bad := id rfl
@[simp] theorem tAnd_eq : tAnd' T U env m = (T env m).bind fun x m1 => if x then U env m1 else .ok false m1 := id rfl
@[simp] theorem tOr_eq : tOr' T U env m = (T env m).bind fun x m1 => if x then .ok true m1 else U env m1 := id rfl
@[simp] theorem tNot_eq : tNot' T env m = (T env m).bind fun x m1 => .ok (!x) m1 := id rfl
@[simp] theorem eAndV_sat (P : DV → Mem → Prop) : (eAndV A B env m).sat P = (A env m).sat fun x m1 => match x with | .bl true => (B env m1).sat P | .bl false => P (.bl false) m1 | _ => False := by
  unfold eAndV; rw [sat_bind]; congr; funext x m1; rcases x with _ | (_ | _) | _ | _ | _ | _ <;> rfl
@[simp] theorem eOrV_sat (P : DV → Mem → Prop) : (eOrV A B env m).sat P = (A env m).sat fun x m1 => match x with | .bl true => P (.bl true) m1 | .bl false => (B env m1).sat P | _ => False := by
  unfold eOrV; rw [sat_bind]; congr; funext x m1; rcases x with _ | (_ | _) | _ | _ | _ | _ <;> rfl
@[simp] theorem eNotV_sat (P : DV → Mem → Prop) : (eNotV A env m).sat P = (A env m).sat fun x m1 => match x with | .bl c => P (.bl (!c)) m1 | _ => False := by
  unfold eNotV; rw [sat_bind]; congr; funext x m1; cases x <;> rfl
@[simp] theorem eIf_eq : eIf T A B env m = (T env m).bind fun c m1 => if c then A env m1 else B env m1 := id rfl
@[simp] theorem aNil_eq : aNil env m = .ok [] m := id rfl
@[simp] theorem aCons_eq : aCons A As env m = (A env m).bind fun x m1 => (As env m1).bind fun xs m2 => .ok (x :: xs) m2 := id rfl
@[simp] theorem eTup_eq : eTup As env m = (As env m).bind fun ds m1 => if szOk ds.length then .ok (.tup ds) m1 else .bad := by
  unfold eTup; simp only [szOk_iff]
@[simp] theorem eLst_eq : eLst As env m = (As env m).bind fun ds m1 => if szOk ds.length then .ok (.ref m1.length) (m1 ++ [.lst ds]) else .bad := by
  unfold eLst; simp only [szOk_iff]
@[simp] theorem eCall_eq (F : DF) : eCall F As env m = (As env m).bind F := id rfl
@[simp] theorem f1_eq (f : D1) (d : DV) : f1 f [d] m = f d m := id rfl
@[simp] theorem f2_eq (f : D2) (d e : DV) : f2 f [d, e] m = f d e m := id rfl
@[simp] theorem eChain_sat (f g : D2) (P : DV → Mem → Prop) : (eChain f g A B D env m).sat P = (A env m).sat fun x m1 => (B env m1).sat fun y m2 => (f x y m2).sat fun z m3 => match z with | .bl true => (D env m3).sat fun w m4 => (g y w m4).sat P | .bl false => P (.bl false) m3 | _ => False := by
  unfold eChain; simp only [sat_bind]; congr; funext x m1; congr; funext y m2; congr; funext z m3; rcases z with _ | (_ | _) | _ | _ | _ | _ <;> (try rfl) <;> simp only [sat_bind]
@[simp] theorem ordD_int (g : Int → Int → Bool) (f : PyData → PyData → Bool) (i j : Int) : ordD g f (.int i) (.int j) m = .ok (.bl (g i j)) m := id rfl
@[simp] theorem isN_eq (d : DV) : isN d m = .ok (.bl (match d with | .non => true | _ => false)) m := id rfl
@[simp] theorem notN_eq (d : DV) : notN d m = .ok (.bl (match d with | .non => false | _ => true)) m := id rfl
@[simp] theorem addD_int (i j : Int) : addD (.int i) (.int j) m = .ok (.int (i + j)) m := id rfl
@[simp] theorem negD_int (i : Int) : negD (.int i) m = .ok (.int (-i)) m := id rfl
@[simp] theorem intD_int (i : Int) : intD (.int i) m = .ok (.int i) m := id rfl
@[simp] theorem max2_int (i j : Int) : max2D (.int i) (.int j) m = .ok (.int (max i j)) m := id rfl
@[simp] theorem min2_int (i j : Int) : min2D (.int i) (.int j) m = .ok (.int (min i j)) m := id rfl
@[simp] theorem eqD_int (i j : Int) : eqD (.int i) (.int j) m = .ok (.bl (decide (i = j))) m := by
  show (if SeqAt.shaped (.int i) = true ∧ SeqAt.shaped (.int j) = true then Out.ok (DV.bl (PyData.eqv (.int i) (.int j))) m else .bad) = _
  rw [if_pos ⟨rfl, rfl⟩]; rfl
@[simp] theorem neD_int (i j : Int) : neD (.int i) (.int j) m = .ok (.bl (!decide (i = j))) m := by
  show (if SeqAt.shaped (.int i) = true ∧ SeqAt.shaped (.int j) = true then Out.ok (DV.bl (!PyData.eqv (.int i) (.int j))) m else .bad) = _
  rw [if_pos ⟨rfl, rfl⟩]; rfl
theorem atI_nat {α : Type} (xs : List α) (k : Nat) : atI xs (k : Int) = xs[k]? := by
  unfold atI ixN
  by_cases h : k < xs.length
  · rw [if_pos (by omega), if_pos (by omega)]; simp
  · rw [if_pos (by omega), if_neg (by omega)]; simp [List.getElem?_eq_none (Nat.le_of_not_lt h)]
@[simp] theorem atI_0 {α : Type} (x : α) (xs : List α) : atI (x :: xs) 0 = some x := by have := atI_nat (x :: xs) 0; simpa using this
@[simp] theorem atI_1 {α : Type} (x y : α) (xs : List α) : atI (x :: y :: xs) 1 = some y := by have := atI_nat (x :: y :: xs) 1; simpa using this
@[simp] theorem atI_2 {α : Type} (x y z : α) (xs : List α) : atI (x :: y :: z :: xs) 2 = some z := by have := atI_nat (x :: y :: z :: xs) 2; simpa using this
@[simp] theorem atI_3 {α : Type} (x y z w : α) (xs : List α) : atI (x :: y :: z :: w :: xs) 3 = some w := by have := atI_nat (x :: y :: z :: w :: xs) 3; simpa using this
theorem atI_last {α : Type} (xs : List α) : atI xs (-1) = xs.getLast? := by
  unfold atI ixN
  cases xs with
  | nil => simp
  | cons x xs =>
    rw [if_neg (by omega), if_pos (by simp only [List.length_cons]; omega), List.getLast?_eq_getElem?]
    simp only [Option.bind_some]
    congr 1
    simp only [List.length_cons]
    omega
@[simp] theorem ixD_tup (xs : List DV) (i : Int) : ixD (.tup xs) (.int i) m = match atI xs i with | some d => .ok d m | none => .bad := id rfl
theorem ixD_ref {k : Nat} {xs : List DV} (h : m[k]? = some (.lst xs)) (i : Int) : ixD (.ref k) (.int i) m = match atI xs i with | some d => .ok d m | none => .bad := by
  simp only [ixD, seqOf, h] <;> cases atI xs i <;> rfl
theorem ixD_rol {k : Nat} {xs : List DV} (h : m[k]? = some (.rol xs)) (i : Int) : ixD (.ref k) (.int i) m = match atI xs i with | some d => .ok d m | none => .bad := by
  simp only [ixD, seqOf, h] <;> cases atI xs i <;> rfl
@[simp] theorem fLen_tup (xs : List DV) : fLen [.tup xs] m = .ok (.int xs.length) m := id rfl
theorem fLen_ref {k : Nat} {xs : List DV} (h : m[k]? = some (.lst xs)) : fLen [.ref k] m = .ok (.int xs.length) m := by simp only [fLen, seqOf, h]
theorem fLen_rol {k : Nat} {xs : List DV} (h : m[k]? = some (.rol xs)) : fLen [.ref k] m = .ok (.int xs.length) m := by simp only [fLen, seqOf, h]
@[simp] theorem wipe_nil : wipeD [] env = env := id rfl
@[simp] theorem wipe_cons (v : Nat) (vs : List Nat) : wipeD (v :: vs) env = (wipeD vs env).set v none := id rfl
@[simp] theorem tYes_eq : tYesD env m = .ok true m := id rfl
@[simp] theorem gVar_eq (i : Nat) (d : DV) : gVar i d env m = .ok (env.set i (some d)) m := id rfl
@[simp] theorem gsNil_eq : gsNil [] env m = .ok env m := id rfl
@[simp] theorem gsCons_eq (G : DG) (Gs : DGs) (d : DV) (ds : List DV) : gsCons G Gs (d :: ds) env m = (G d env m).bind fun env1 m1 => Gs ds env1 m1 := id rfl
@[simp] theorem gTup_eq (n : Nat) (Gs : DGs) (ds : List DV) : gTupD n Gs (.tup ds) env m = if ds.length = n then Gs ds env m else .bad := id rfl
@[simp] theorem isI_int_int (i : Int) : isI "int" (.int i) m = .ok (.bl true) m := id rfl
@[simp] theorem isI_bool_int (i : Int) : isI "bool" (.int i) m = .ok (.bl false) m := by show Out.ok (DV.bl (isTb "int" "bool")) m = _; congr 2
@[simp] theorem isI_tuple_tup (ds : List DV) : isI "tuple" (.tup ds) m = .ok (.bl true) m := by show Out.ok (DV.bl (isTb "tuple" "tuple")) m = _; congr 2
@[simp] theorem tru_eq : tru A env m = (A env m).bind truD := id rfl
@[simp] theorem truD_bl (b : Bool) : truD (.bl b) m = .ok b m := id rfl

/-! ### statements -/
@[simp] theorem sSkip_eq : sSkip env m = .ok (.nx env) m := id rfl
@[simp] theorem sBreak_eq : sBreak env m = .ok (.bk env) m := id rfl
@[simp] theorem sCont_eq : sCont env m = .ok (.ct env) m := id rfl
@[simp] theorem sSeq_sat (P : Fl → Mem → Prop) : (sSeq S S' env m).sat P = (S env m).sat fun fl m1 => match fl with | .nx env1 => (S' env1 m1).sat P | fl => P fl m1 := by
  unfold sSeq; rw [sat_bind]; congr; funext fl m1; cases fl <;> rfl
@[simp] theorem sExpr_eq : sExpr A env m = (A env m).bind fun _ m1 => .ok (.nx env) m1 := id rfl
@[simp] theorem sRet_eq : sRet A env m = (A env m).bind fun d m1 => .ok (.rt d) m1 := id rfl
@[simp] theorem sRetN_eq : sRetN env m = .ok (.rt .non) m := id rfl
@[simp] theorem sIf_eq : sIf T S S' env m = (T env m).bind fun c m1 => if c then S env m1 else S' env m1 := id rfl
@[simp] theorem sSet_eq (i : Nat) : sSet i A env m = (A env m).bind fun d m1 => .ok (.nx (env.set i (some d))) m1 := id rfl
@[simp] theorem sAsg_eq (G : DG) : sAsg A G env m = (A env m).bind fun d m1 => (G d env m1).bind fun env1 m2 => .ok (.nx env1) m2 := id rfl
@[simp] theorem sAug_eq (i : Nat) (f : D2) : sAug i f A env m = match env[i]? with | some (some x) => (A env m).bind fun y m1 => (f x y m1).bind fun z m2 => .ok (.nx (env.set i (some z))) m2 | _ => .bad := id rfl
end run

/-! ### memory that only grows -/
def Grow (m m' : Mem) : Prop := ∃ l, m' = m ++ l
theorem Grow.refl (m : Mem) : Grow m m := ⟨[], by simp⟩
theorem Grow.app (m l : Mem) : Grow m (m ++ l) := ⟨l, rfl⟩
theorem Grow.trans {a b c : Mem} (h : Grow a b) (k : Grow b c) : Grow a c := by
  obtain ⟨l, rfl⟩ := h; obtain ⟨l', rfl⟩ := k; exact ⟨l ++ l', by simp⟩
theorem Grow.get {m m' : Mem} (h : Grow m m') {i : Nat} {o : MO} (hi : m[i]? = some o) : m'[i]? = some o := by
  obtain ⟨l, rfl⟩ := h
  rw [List.getElem?_append_left (List.getElem?_eq_some_iff.mp hi).1]; exact hi
theorem Grow.len {m m' : Mem} (h : Grow m m') : m.length ≤ m'.length := by obtain ⟨l, rfl⟩ := h; simp
theorem Grow.old {m m' : Mem} (h : Grow m m') : OldOk m m' := by
  refine ⟨h.len, fun i hi => .inl ?_⟩
  obtain ⟨l, rfl⟩ := h
  exact List.getElem?_append_left hi
theorem Grow.take {m m' : Mem} (h : Grow m m') : m'.take m.length = m := by obtain ⟨l, rfl⟩ := h; simp
theorem gcO_pure {m m' : Mem} {d : DV} {o : Out DV} (h : o = .ok d m') (g : Grow m m') (hd : d.lo m.length) : gcO m o = .ok d m := by
  subst h
  unfold gcO
  simp only [if_pos g.old, if_pos hd, g.take]
theorem gcO_sat {m : Mem} {d : DV} {o : Out DV} (h : o.sat fun a m' => a = d ∧ Grow m m') (hd : d.lo m.length) : gcO m o = .ok d m := by
  obtain ⟨a, m', e, rfl, g⟩ := h.ex
  exact gcO_pure e g hd
theorem gc_pure {A : DE} {env : Env} {m m' : Mem} {d : DV} (h : A env m = .ok d m') (g : Grow m m') (hd : d.lo m.length) : gc A env m = .ok d m := gcO_pure h g hd
def Fl.val : Fl → Option DV
  | .rt d => some d
  | .nx _ => some .non
  | _ => none
theorem run_pure {N n : Nat} {S : DS} {ds : List DV} {m : Mem} {d : DV} (hn : ds.length = n) (h : (S (envOf N ds) m).sat fun fl m' => fl.val = some d ∧ Grow m m') (hd : d.lo m.length) : runD N n S ds m = .ok d m := by
  unfold runD
  rw [if_pos hn]
  refine gcO_sat ?_ hd
  rw [sat_bind]
  refine h.mono fun fl m' ⟨h1, h2⟩ => ?_
  cases fl with
  | rt d => cases h1; exact ⟨rfl, h2⟩
  | nx e => cases h1; exact ⟨rfl, h2⟩
  | bk e => cases h1
  | ct e => cases h1
theorem lo_int (n : Nat) (i : Int) : (DV.int i).lo n := trivial
theorem lo_bl (n : Nat) (i : Bool) : (DV.bl i).lo n := trivial

/-! ### for -/
theorem forD_inv {gs : List (Nat × MO)} {G : DG} {S : DS} {P : Fl → Mem → Prop} : ∀ (ds : List DV) (env : Env) (m : Mem) (J : Nat → Env → Mem → Prop), J 0 env m → (∀ i env m, J i env m → guard gs m) →
    (∀ i d env m, ds[i]? = some d → J i env m → (G d env m).sat fun env1 m1 => (S env1 m1).sat fun fl m2 => match fl with
      | .nx e => J (i + 1) e m2
      | .ct e => J (i + 1) e m2
      | .bk e => P (.nx e) m2
      | .rt d => P (.rt d) m2) → (∀ env m, J ds.length env m → P (.nx env) m) → (forD gs G S ds env m).sat P
  | [], env, m, J, h0, hg, hs, he => by
    unfold forD
    rw [if_pos (hg 0 env m h0)]
    exact he env m h0
  | d :: ds, env, m, J, h0, hg, hs, he => by
    unfold forD
    rw [if_pos (hg 0 env m h0), sat_bind]
    refine (hs 0 d env m rfl h0).mono fun env1 m1 h1 => ?_
    rw [sat_bind]
    refine h1.mono fun fl m2 h2 => ?_
    have rc : ∀ e, J 1 e m2 → (forD gs G S ds e m2).sat P := fun e h3 => forD_inv ds e m2 (fun i => J (i + 1)) h3 (fun i env m h => hg (i + 1) env m h) (fun i d env m hd h => hs (i + 1) d env m (by simpa using hd) h) (fun env m h => he env m h)
    cases fl with
    | nx e => exact rc e h2
    | ct e => exact rc e h2
    | bk e => exact h2
    | rt d => exact h2
theorem sFor_inv {I : DI} {G : DG} {S : DS} {P : Fl → Mem → Prop} {env : Env} {m : Mem} (J : List DV → Nat → Env → Mem → Prop)
    (hI : (I env m).sat fun it m1 => J it.ds 0 env m1 ∧ (∀ i env m, J it.ds i env m → guard it.gs m) ∧ (∀ i d env m, it.ds[i]? = some d → J it.ds i env m → (G d env m).sat fun env1 m1 => (S env1 m1).sat fun fl m2 => match fl with
      | .nx e => J it.ds (i + 1) e m2
      | .ct e => J it.ds (i + 1) e m2
      | .bk e => P (.nx e) m2
      | .rt d => P (.rt d) m2) ∧ (∀ env m, J it.ds it.ds.length env m → P (.nx env) m)) : (sFor I G S env m).sat P := by
  unfold sFor
  rw [sat_bind]
  exact hI.mono fun it m1 ⟨h0, hg, hs, he⟩ => forD_inv it.ds env m1 (J it.ds) h0 hg hs he

theorem sFor_of {I : DI} {G : DG} {S : DS} {P : Fl → Mem → Prop} {env : Env} {m m1 : Mem} {ds : List DV} {gs : List (Nat × MO)} (hI : I env m = .ok ⟨ds, gs⟩ m1) (J : Nat → Env → Mem → Prop) (h0 : J 0 env m1) (hg : ∀ i env m, J i env m → guard gs m)
    (hs : ∀ i d env m, ds[i]? = some d → J i env m → (G d env m).sat fun env1 m1 => (S env1 m1).sat fun fl m2 => match fl with
      | .nx e => J (i + 1) e m2
      | .ct e => J (i + 1) e m2
      | .bk e => P (.nx e) m2
      | .rt d => P (.rt d) m2) (he : ∀ env m, J ds.length env m → P (.nx env) m) : (sFor I G S env m).sat P := by
  unfold sFor
  rw [hI]
  exact forD_inv ds env m1 J h0 hg hs he
/-! ### comprehensions -/
theorem compD_inv {gs : List (Nat × MO)} {G : DG} {T : DT} {E : DE} {k : Nat} {env : Env} {P : Unit → Mem → Prop} : ∀ (ds : List DV) (m : Mem) (acc : List DV) (J : Nat → List DV → Mem → Prop), J 0 acc m → (∀ i acc m, J i acc m → guard gs m) →
    (∀ i d acc m, ds[i]? = some d → J i acc m → (G d env m).sat fun env1 m1 => (T env1 m1).sat fun c m2 => if c then (E env1 m2).sat fun y m3 => m3[k]? = some (.lst acc) ∧ acc.length < 16777216 ∧ J (i + 1) (acc ++ [y]) (m3.set k (.lst (acc ++ [y]))) else J (i + 1) acc m2) →
    (∀ acc m, J ds.length acc m → P () m) → (compD gs G T E k env ds m).sat P
  | [], m, acc, J, h0, hg, hs, he => by
    unfold compD
    rw [if_pos (hg 0 acc m h0)]
    exact he acc m h0
  | d :: ds, m, acc, J, h0, hg, hs, he => by
    unfold compD
    rw [if_pos (hg 0 acc m h0), sat_bind, sat_nox]
    refine (hs 0 d acc m rfl h0).mono fun env1 m1 h1 => ?_
    rw [sat_bind, sat_nox]
    refine h1.mono fun c m2 h2 => ?_
    have rc : ∀ acc m2, J 1 acc m2 → (compD gs G T E k env ds m2).sat P := fun acc m2 h3 => compD_inv ds m2 acc (fun i => J (i + 1)) h3 (fun i env m h => hg (i + 1) env m h) (fun i d env m hd h => hs (i + 1) d env m (by simpa using hd) h) (fun env m h => he env m h)
    cases c with
    | true =>
      simp only [if_pos] at h2 ⊢
      rw [sat_bind, sat_nox]
      refine h2.mono fun y m3 ⟨h4, h5, h6⟩ => ?_
      simp only [h4, if_pos h5]
      exact rc _ _ h6
    | false => exact rc _ _ (by simpa using h2)
/-- elements that only read: the list of their values, behind the memory that the iterable left -/
theorem comp_pure {α : Type} {I : DI} {G : DG} {T : DT} {E : DE} {vs : List Nat} {env : Env} {m m1 : Mem} {gs : List (Nat × MO)} {xs : List α} {g : α → DV} (t : α → Bool) (f : α → DV)
    (hI : I env m = .ok ⟨xs.map g, gs⟩ m1) (hg : guard gs m1) (hl : xs.length ≤ 16777216)
    (hE : ∀ x ∈ xs, ∀ m', Grow m1 m' → (G (g x) (wipeD vs env) m').sat fun e1 m2 => m2 = m' ∧ T e1 m' = .ok (t x) m' ∧ (t x = true → E e1 m' = .ok (f x) m')) :
    eComp I G T E vs env m = .ok (.ref m1.length) (m1 ++ [.lst ((xs.filter t).map f)]) := by
  unfold eComp
  rw [hI]
  simp only [Out.bind_ok]
  have key : (compD gs G T E m1.length (wipeD vs env) (xs.map g) (m1 ++ [.lst []])).sat fun _ m' => m' = m1 ++ [.lst ((xs.filter t).map f)] := by
    refine compD_inv (xs.map g) _ [] (fun i acc m' => acc = ((xs.take i).filter t).map f ∧ m' = m1 ++ [.lst acc]) ⟨by simp, rfl⟩ ?_ ?_ ?_
    · rintro i acc m' ⟨_, rfl⟩ p hp
      exact (Grow.app _ _).get (hg p hp)
    · rintro i d acc m' hd ⟨ha, rfl⟩
      rw [List.getElem?_map] at hd
      obtain ⟨x, hx, rfl⟩ := Option.map_eq_some_iff.mp hd
      have hlt := (List.getElem?_eq_some_iff.mp hx).1
      have htk : xs.take (i + 1) = xs.take i ++ [x] := by
        rw [List.take_add_one, hx]; rfl
      refine (hE x (List.mem_of_getElem? hx) _ (Grow.app _ _)).mono fun e1 m2 ⟨e, h1, h2⟩ => ?_
      subst e
      rw [h1]
      simp only [sat_ok]
      cases ht : t x with
      | true =>
        simp only [if_pos]
        rw [h2 ht]
        simp only [sat_ok]
        refine ⟨by simp, ?_, ?_, ?_⟩
        · rw [ha, List.length_map]
          have h3 : ((xs.take i).filter t).length ≤ (xs.take i).length := List.length_filter_le _ _
          rw [List.length_take] at h3
          omega
        · rw [htk, ha]; simp [ht]
        · simp
      | false =>
        simp only [Bool.false_eq_true, if_false]
        exact ⟨by rw [htk, ha]; simp [ht], trivial⟩
    · rintro acc m' ⟨h1, rfl⟩
      rw [h1]; simp
  obtain ⟨_, m', e, rfl⟩ := key.ex
  rw [e]; rfl
@[simp] theorem ints_map {α : Type} (f : α → Int) : ∀ xs : List α, intsOf' (xs.map fun x => .int (f x)) = some (xs.map f)
  | [] => rfl
  | x :: xs => by simp [intsOf', ints_map f xs]
@[simp] theorem bls_map {α : Type} (f : α → Bool) : ∀ xs : List α, blsOf (xs.map fun x => .bl (f x)) = some (xs.map f)
  | [] => rfl
  | x :: xs => by simp [blsOf, bls_map f xs]
theorem sumD_at {m : Mem} {k : Nat} {is : List Int} (h : m[k]? = some (.lst (is.map .int))) : sumD (.ref k) m = .ok (.int is.sum) m := by
  simp only [sumD, seqOf, h, Option.bind_some]
  have := ints_map (fun i : Int => i) is
  simp only [List.map_id'] at this
  rw [show (is.map DV.int) = is.map (fun x => DV.int x) from rfl, this]
theorem sumD_tup {m : Mem} {is : List Int} : sumD (.tup (is.map .int)) m = .ok (.int is.sum) m := by
  simp only [sumD, seqOf, Option.bind_some]
  have := ints_map (fun i : Int => i) is
  simp only [List.map_id'] at this
  rw [show (is.map DV.int) = is.map (fun x => DV.int x) from rfl, this]
theorem allD_at {m : Mem} {k : Nat} {is : List Bool} (h : m[k]? = some (.lst (is.map .bl))) : allD (.ref k) m = .ok (.bl (is.all id)) m := by
  simp only [allD, lstOf, h, Option.bind_some]
  have := bls_map (fun i : Bool => i) is
  simp only [List.map_id'] at this
  rw [show (is.map DV.bl) = is.map (fun x => DV.bl x) from rfl, this]
theorem anyD_at {m : Mem} {k : Nat} {is : List Bool} (h : m[k]? = some (.lst (is.map .bl))) : anyD (.ref k) m = .ok (.bl (is.any id)) m := by
  simp only [anyD, lstOf, h, Option.bind_some]
  have := bls_map (fun i : Bool => i) is
  simp only [List.map_id'] at this
  rw [show (is.map DV.bl) = is.map (fun x => DV.bl x) from rfl, this]
/-! sum, all, any, tuple of a comprehension -/
section
variable {α : Type} {I : DI} {G : DG} {T : DT} {E : DE} {vs : List Nat} {env : Env} {m m1 : Mem} {gs : List (Nat × MO)} {xs : List α} {g : α → DV}
theorem comp_sum (t : α → Bool) (f : α → Int) (hI : I env m = .ok ⟨xs.map g, gs⟩ m1) (hg : guard gs m1) (hl : xs.length ≤ 16777216) (hm : Grow m m1)
    (hE : ∀ x ∈ xs, ∀ m', Grow m1 m' → (G (g x) (wipeD vs env) m').sat fun e1 m2 => m2 = m' ∧ T e1 m' = .ok (t x) m' ∧ (t x = true → E e1 m' = .ok (.int (f x)) m')) :
    gc (eCall (f1 sumD) (aCons (eComp I G T E vs) aNil)) env m = .ok (.int ((xs.filter t).map f).sum) m := by
  refine gc_pure (m' := m1 ++ [.lst ((xs.filter t).map fun x => .int (f x))]) ?_ (hm.trans (Grow.app _ _)) trivial
  rw [eCall_eq, aCons_eq, comp_pure t (fun x => .int (f x)) hI hg hl hE]
  simp only [Out.bind_ok, aNil_eq, f1_eq]
  exact sumD_at (by simp)
theorem comp_all (t : α → Bool) (f : α → Bool) (hI : I env m = .ok ⟨xs.map g, gs⟩ m1) (hg : guard gs m1) (hl : xs.length ≤ 16777216) (hm : Grow m m1)
    (hE : ∀ x ∈ xs, ∀ m', Grow m1 m' → (G (g x) (wipeD vs env) m').sat fun e1 m2 => m2 = m' ∧ T e1 m' = .ok (t x) m' ∧ (t x = true → E e1 m' = .ok (.bl (f x)) m')) :
    gc (eCall (f1 allD) (aCons (eComp I G T E vs) aNil)) env m = .ok (.bl ((xs.filter t).all f)) m := by
  refine gc_pure (m' := m1 ++ [.lst ((xs.filter t).map fun x => .bl (f x))]) ?_ (hm.trans (Grow.app _ _)) trivial
  rw [eCall_eq, aCons_eq, comp_pure t (fun x => .bl (f x)) hI hg hl hE]
  simp only [Out.bind_ok, aNil_eq, f1_eq]
  rw [allD_at (is := (xs.filter t).map f) (by simp)]
  simp [Function.comp_def]
theorem comp_any (t : α → Bool) (f : α → Bool) (hI : I env m = .ok ⟨xs.map g, gs⟩ m1) (hg : guard gs m1) (hl : xs.length ≤ 16777216) (hm : Grow m m1)
    (hE : ∀ x ∈ xs, ∀ m', Grow m1 m' → (G (g x) (wipeD vs env) m').sat fun e1 m2 => m2 = m' ∧ T e1 m' = .ok (t x) m' ∧ (t x = true → E e1 m' = .ok (.bl (f x)) m')) :
    gc (eCall (f1 anyD) (aCons (eComp I G T E vs) aNil)) env m = .ok (.bl ((xs.filter t).any f)) m := by
  refine gc_pure (m' := m1 ++ [.lst ((xs.filter t).map fun x => .bl (f x))]) ?_ (hm.trans (Grow.app _ _)) trivial
  rw [eCall_eq, aCons_eq, comp_pure t (fun x => .bl (f x)) hI hg hl hE]
  simp only [Out.bind_ok, aNil_eq, f1_eq]
  rw [anyD_at (is := (xs.filter t).map f) (by simp)]
  simp [Function.comp_def]
theorem tupD_at {k : Nat} {ds : List DV} (h : m[k]? = some (.lst ds)) : tupD (.ref k) m = .ok (.tup ds) m := by
  simp only [tupD, seqOf, h]
theorem comp_tup (t : α → Bool) (f : α → DV) (hI : I env m = .ok ⟨xs.map g, gs⟩ m1) (hg : guard gs m1) (hl : xs.length ≤ 16777216) (hm : Grow m m1)
    (hE : ∀ x ∈ xs, ∀ m', Grow m1 m' → (G (g x) (wipeD vs env) m').sat fun e1 m2 => m2 = m' ∧ T e1 m' = .ok (t x) m' ∧ (t x = true → E e1 m' = .ok (f x) m')) (hf : ∀ x ∈ xs, (f x).lo m.length) :
    gc (eCall (f1 tupD) (aCons (eComp I G T E vs) aNil)) env m = .ok (.tup ((xs.filter t).map f)) m := by
  refine gc_pure (m' := m1 ++ [.lst ((xs.filter t).map f)]) ?_ (hm.trans (Grow.app _ _)) ?_
  · rw [eCall_eq, aCons_eq, comp_pure t f hI hg hl hE]
    simp only [Out.bind_ok, aNil_eq, f1_eq]
    exact tupD_at (by simp)
  · refine loAll_iff.mpr fun d hd => ?_
    obtain ⟨x, hx, rfl⟩ := List.mem_map.mp hd
    exact hf x (List.mem_filter.mp hx).1
end
theorem guard_nil (m : Mem) : guard [] m := fun p hp => by cases hp
theorem rng0 (n : Nat) : rng 0 n = (List.range n).map fun i => DV.int ((i : Nat) : Int) := by unfold rng; simp
theorem rng_map (lo : Int) (n : Nat) : rng lo n = (List.range n).map fun i => DV.int (lo + ((i : Nat) : Int)) := rfl
theorem e62 : (2 : Int) ^ 62 = 4611686018427387904 := by decide
theorem in62 {n : Int} (h : -1000000000 ≤ n) (hn : n ≤ 1000000000) : In62 n := by
  constructor <;> rw [e62] <;> omega
theorem rng1_z {A : DE} {env : Env} {m m1 : Mem} {z : Int} (h : A env m = .ok (.int z) m1) (h1 : -1000000000 ≤ z) (h2 : z ≤ 1000000000) : iRng1D A env m = .ok ⟨rng 0 z.toNat, []⟩ m1 := by
  unfold iRng1D
  rw [h]
  simp only [Out.bind_ok]
  rw [if_pos (in62 h1 h2)]
theorem rng1_eq {A : DE} {env : Env} {m m1 : Mem} {n : Nat} (h : A env m = .ok (.int (n : Int)) m1) (hn : n ≤ 1000000000) : iRng1D A env m = .ok ⟨(List.range n).map fun i => DV.int ((i : Nat) : Int), []⟩ m1 := by
  rw [rng1_z h (by omega) (by omega), Int.toNat_natCast, rng0]
theorem rng2_z {A B : DE} {env : Env} {m m1 m2 : Mem} {y z : Int} (h : A env m = .ok (.int y) m1) (h' : B env m1 = .ok (.int z) m2) (h1 : -1000000000 ≤ y) (h2 : y ≤ 1000000000) (h3 : -1000000000 ≤ z) (h4 : z ≤ 1000000000) : iRng2D A B env m = .ok ⟨rng y (z - y).toNat, []⟩ m2 := by
  unfold iRng2D
  rw [h]
  simp only [Out.bind_ok]
  rw [h']
  simp only [Out.bind_ok]
  rw [if_pos ⟨in62 h1 h2, in62 h3 h4⟩]
theorem rng2_eq {A B : DE} {env : Env} {m m1 m2 : Mem} {a b : Nat} (h : A env m = .ok (.int (a : Int)) m1) (h' : B env m1 = .ok (.int (b : Int)) m2) (hn : b ≤ 1000000000) (hm : a ≤ 1000000000) : iRng2D A B env m = .ok ⟨(List.range (b - a)).map fun i => DV.int ((a + i : Nat) : Int), []⟩ m2 := by
  have e : ((b : Int) - (a : Int)).toNat = b - a := by omega
  rw [rng2_z h h' (by omega) (by omega) (by omega) (by omega), e, rng_map]
  simp
@[simp] theorem iAny_tup {A : DE} {env : Env} {m m1 : Mem} {ds : List DV} (h : A env m = .ok (.tup ds) m1) : iAnyD A env m = .ok ⟨ds, []⟩ m1 := by unfold iAnyD; rw [h]; rfl
theorem iAny_lst {A : DE} {env : Env} {m m1 : Mem} {k : Nat} {ds : List DV} (h : A env m = .ok (.ref k) m1) (hk : m1[k]? = some (.lst ds)) : iAnyD A env m = .ok ⟨ds, [(k, .lst ds)]⟩ m1 := by unfold iAnyD; rw [h]; simp only [Out.bind_ok, hk]
theorem enm_eq : ∀ (ds : List DV) (k : Nat), enm ds k = (ds.zipIdx k).map fun p => .tup [.int (p.2 : Int), p.1]
  | [], _ => rfl
  | d :: ds, k => by simp [enm, enm_eq ds (k + 1)]
theorem iEnum_tup {A : DE} {env : Env} {m m1 : Mem} {ds : List DV} (h : A env m = .ok (.tup ds) m1) : iEnumD A env m = .ok ⟨enm ds 0, []⟩ m1 := by unfold iEnumD; rw [h]; rfl
theorem eSl_tup {A : DE} {l h : DO} {env : Env} {m : Mem} {ds : List DV} {a b : Option Int} (hA : A env m = .ok (.tup ds) m) (hl : l env m = .ok a m) (hh : h env m = .ok b m) : eSl A l h env m = .ok (.tup (cutL ds a b)) m := by
  unfold eSl
  simp only [hA, Out.bind_ok, hl, hh, slD]
theorem cutL_nat (ds : List DV) (a b : Nat) : cutL ds (some (a : Int)) (some (b : Int)) = (ds.drop a).take (b - a) := by
  unfold cutL
  rw [HT.sIx_nat, HT.sIx_nat]
  by_cases h : a ≤ ds.length
  · rw [Nat.min_eq_left h]
    by_cases h2 : b ≤ ds.length
    · rw [Nat.min_eq_left h2]
    · rw [Nat.min_eq_right (by omega)]
      rw [List.take_of_length_le (by simp), List.take_of_length_le (by simp; omega)]
  · rw [Nat.min_eq_right (by omega : ds.length ≤ a), List.drop_eq_nil_of_le (Nat.le_refl _), List.drop_eq_nil_of_le (by omega : ds.length ≤ a)]
    simp
@[simp] theorem oNone_eq (env : Env) (m : Mem) : oNone env m = .ok none m := id rfl
@[simp] theorem oSome_eq {A : DE} {env : Env} {m m1 : Mem} {i : Int} (h : A env m = .ok (.int i) m1) : oSome A env m = .ok (some i) m1 := by unfold oSome; rw [h]; rfl

/-! ### places in memory -/
section
variable {m r : Mem} {a b c x : MO}
@[simp] theorem at0 : (m ++ a :: r)[m.length]? = some a := by simp
@[simp] theorem at1 : (m ++ a :: b :: r)[m.length + 1]? = some b := by rw [List.getElem?_append_right (by omega), Nat.add_sub_cancel_left]; rfl
@[simp] theorem at2 : (m ++ a :: b :: c :: r)[m.length + 2]? = some c := by rw [List.getElem?_append_right (by omega), Nat.add_sub_cancel_left]; rfl
@[simp] theorem set0 : (m ++ a :: r).set m.length x = m ++ x :: r := by rw [List.set_append_right _ _ (Nat.le_refl _), Nat.sub_self]; rfl
@[simp] theorem set1 : (m ++ a :: b :: r).set (m.length + 1) x = m ++ a :: x :: r := by rw [List.set_append_right _ _ (by omega), Nat.add_sub_cancel_left]; rfl
@[simp] theorem set2 : (m ++ a :: b :: c :: r).set (m.length + 2) x = m ++ a :: b :: x :: r := by rw [List.set_append_right _ _ (by omega), Nat.add_sub_cancel_left]; rfl
end
theorem apD_eq {m : Mem} {k : Nat} {ds : List DV} {y : DV} (h : m[k]? = some (.lst ds)) (hl : ds.length < 16777216) : apD (.ref k) y m = .ok .non (m.set k (.lst (ds ++ [y]))) := by
  simp only [apD, h, if_pos hl]
theorem eAppend_eq {A B : DE} {env : Env} {m m2 : Mem} {k : Nat} {ds es : List DV} {y : DV} (hA : A env m = .ok (.ref k) m) (hk : m[k]? = some (.lst es)) (hB : B env m = .ok y m2) (hk2 : m2[k]? = some (.lst ds)) (hl : ds.length < 16777216) :
    eAppend A B env m = .ok .non (m2.set k (.lst (ds ++ [y]))) := by
  unfold eAppend
  rw [hA]
  simp only [Out.bind_ok, lstOf, hk]
  rw [hB]
  simp only [Out.bind_ok]
  exact apD_eq hk2 hl
theorem run_sat {N n : Nat} {S : DS} {ds : List DV} {m : Mem} {es : List DV} {P : Mem → Prop} (hn : ds.length = n) (hd : ¬ (DV.tup es).lo m.length) (h : (S (envOf N ds) m).sat fun fl m' => fl.val = some (.tup es) ∧ P m') : ∃ m', runD N n S ds m = .ok (.tup es) m' ∧ P m' := by
  obtain ⟨fl, m', e, h1, h2⟩ := h.ex
  refine ⟨m', ?_, h2⟩
  unfold runD
  rw [if_pos hn, e]
  cases fl with
  | rt d =>
    cases h1
    simp only [Out.bind_ok, gcO, if_neg hd]
    split <;> rfl
  | nx e => cases h1
  | bk e => cases h1
  | ct e => cases h1
theorem while_sat {T : DT} {S : DS} {env : Env} {m : Mem} {P : Fl → Mem → Prop} (n : Nat) (h : (whileN T S n env m).sat P) : (sWhile T S env m).sat P := by
  rw [sWhile_of (n := n) (by intro e; rw [e] at h; exact h)]
  exact h
theorem while_step {T : DT} {S : DS} {env : Env} {m : Mem} {P : Fl → Mem → Prop} (h : (T env m).sat fun c m1 => if c then (S env m1).sat fun fl m2 => (match fl with
      | .nx env2 => (sWhile T S env2 m2).sat P
      | .ct env2 => (sWhile T S env2 m2).sat P
      | .bk env2 => P (.nx env2) m2
      | .rt d => P (.rt d) m2) else P (.nx env) m1) : (sWhile T S env m).sat P := by
  rw [sWhile_eq, sat_bind]
  refine h.mono fun c m1 h1 => ?_
  cases c with
  | true =>
    rw [if_pos rfl] at h1 ⊢
    rw [sat_bind]
    refine h1.mono fun fl m2 h2 => ?_
    cases fl <;> exact h2
  | false => simpa using h1
/-- the least of pairs of ints -/
theorem best_pairs {m : Mem} {k : Nat} {ps : List (Int × Int)} {p : Int × Int} (h : m[k]? = some (.lst ((p :: ps).map fun q => .tup [.int q.1, .int q.2]))) (g : PyData → List PyData → PyData) {y : Int × Int}
    (hy : g (.tuple [.int p.1, .int p.2]) (ps.map fun q => .tuple [.int q.1, .int q.2]) = .tuple [.int y.1, .int y.2]) : bestD g (.ref k) m = .ok (.tup [.int y.1, .int y.2]) m := by
  have hp : ∀ qs : List (Int × Int), optAll ((qs.map fun q => DV.tup [.int q.1, .int q.2]).map (pd m 50)) = some (qs.map fun q => .tuple [.int q.1, .int q.2]) := by
    intro qs
    induction qs with
    | nil => rfl
    | cons q qs ih =>
      have e : pd m 50 (.tup [.int q.1, .int q.2]) = some (.tuple [.int q.1, .int q.2]) := by simp [pd, optAll]
      simp only [List.map_cons, e, optAll, ih, Option.map_some]
  have hl : loAll 0 ((p :: ps).map fun q => DV.tup [.int q.1, .int q.2]) := loAll_iff.mpr fun d hd => by obtain ⟨q, _, rfl⟩ := List.mem_map.mp hd; exact ⟨trivial, trivial, trivial⟩
  have ha : PySem.W.AlikeAll ((p :: ps).map fun q => .tuple [.int q.1, .int q.2]) := by
    refine ⟨fun x hx y hy => ?_, fun x hx => ?_⟩
    · obtain ⟨q, _, rfl⟩ := List.mem_map.mp hx
      obtain ⟨q', _, rfl⟩ := List.mem_map.mp hy
      rfl
    · obtain ⟨q, _, rfl⟩ := List.mem_map.mp hx
      intro e; cases e
  have hd : ∀ qs : List (Int × Int), PyData.depthAll (qs.map fun q => .tuple [.int q.1, .int q.2]) ≤ 50 := by
    intro qs
    induction qs with
    | nil => simp [PyData.depthAll]
    | cons q qs ih => simp only [List.map_cons, PyData.depthAll]; simp [PyData.depth, PyData.depthAll]; omega
  have e1 := hp (p :: ps)
  have e2 := hd (p :: ps)
  simp only [bestD, lstOf, h, e1]
  rw [List.map_cons] at hl ha e2
  simp only [List.map_cons]
  rw [if_pos ⟨hl, ha, e2⟩, hy]
  simp [ofD, ofDs]
end DL

end
section
set_option Elab.async false
set_option linter.all false
set_option maxRecDepth 100000
set_option maxHeartbeats 4000000
set_option autoImplicit false
/-! Things: data of any shape, with lists in memory (from place 3 on). -/
namespace DL
open PySem PySem.Spec L2
def strFit (z : Str) : Prop := PyData.canLay0 (.str z) = true ∧ z.length ≤ 1000000
def Th (m : Mem) : Nat → DV → Prop
  | _, .non => True
  | _, .bl _ => True
  | _, .int _ => True
  | _, .str z => strFit z
  | n + 1, .tup ds => ds.length ≤ 100000 ∧ ∀ d ∈ ds, Th m n d
  | n + 1, .ref k => 3 ≤ k ∧ ∃ ds, m[k]? = some (.lst ds) ∧ ds.length ≤ 100000 ∧ ∀ d ∈ ds, Th m n d
  | 0, .tup _ => False
  | 0, .ref _ => False
variable {m m' : Mem}
@[simp] theorem th_non (n : Nat) : Th m n .non = True := by cases n <;> rfl
@[simp] theorem th_bl (n : Nat) (b : Bool) : Th m n (.bl b) = True := by cases n <;> rfl
@[simp] theorem th_int (n : Nat) (b : Int) : Th m n (.int b) = True := by cases n <;> rfl
@[simp] theorem th_str (n : Nat) (b : Str) : Th m n (.str b) = strFit b := by cases n <;> rfl
theorem th_tup (n : Nat) (ds : List DV) : Th m (n + 1) (.tup ds) = (ds.length ≤ 100000 ∧ ∀ d ∈ ds, Th m n d) := rfl
theorem th_ref (n : Nat) (k : Nat) : Th m (n + 1) (.ref k) = (3 ≤ k ∧ ∃ ds, m[k]? = some (.lst ds) ∧ ds.length ≤ 100000 ∧ ∀ d ∈ ds, Th m n d) := rfl
theorem Th.keep (hk : ∀ (k : Nat) (o : MO), 3 ≤ k → m[k]? = some o → m'[k]? = some o) : ∀ (n : Nat) (d : DV), Th m n d → Th m' n d
  | n, .non, _ => by simp
  | n, .bl _, _ => by simp
  | n, .int _, _ => by simp
  | n, .str _, h => by simpa using h
  | n + 1, .tup ds, h => ⟨h.1, fun d hd => Th.keep hk n d (h.2 d hd)⟩
  | n + 1, .ref k, ⟨h1, ds, h2, h3, h4⟩ => ⟨h1, ds, hk k _ h1 h2, h3, fun d hd => Th.keep hk n d (h4 d hd)⟩
  | 0, .tup _, h => h.elim
  | 0, .ref _, h => h.elim
theorem Th.up : ∀ (n : Nat) (d : DV), Th m n d → Th m (n + 1) d
  | n, .non, _ => by simp
  | n, .bl _, _ => by simp
  | n, .int _, _ => by simp
  | n, .str _, h => by simpa using h
  | n + 1, .tup ds, h => ⟨h.1, fun d hd => Th.up n d (h.2 d hd)⟩
  | n + 1, .ref k, ⟨h1, ds, h2, h3, h4⟩ => ⟨h1, ds, h2, h3, fun d hd => Th.up n d (h4 d hd)⟩
  | 0, .tup _, h => h.elim
  | 0, .ref _, h => h.elim
theorem Th.le {n k : Nat} {d : DV} (h : Th m n d) (hk : n ≤ k) : Th m k d := by
  induction k with
  | zero => cases Nat.le_zero.mp hk; exact h
  | succ k ih =>
    rcases Nat.lt_or_eq_of_le hk with g | g
    · exact Th.up k d (ih (by omega))
    · rw [← g]; exact h
theorem th_all {N n : Nat} (ih : ∀ d, Th m n d → ∃ p, pd m N d = some p ∧ p.canLay0 = true ∧ p.depth ≤ n) : ∀ ds : List DV, (∀ d ∈ ds, Th m n d) → ∃ ps, optAll (ds.map (pd m N)) = some ps ∧ PyData.canLayAll0 ps = true ∧ PyData.depthAll ps ≤ n ∧ ps.length = ds.length
  | [], _ => ⟨[], rfl, rfl, Nat.zero_le _, rfl⟩
  | d :: ds, h => by
    obtain ⟨p, h1, h2, h3⟩ := ih d (h d List.mem_cons_self)
    obtain ⟨ps, g1, g2, g3, g4⟩ := th_all ih ds fun e he => h e (List.mem_cons_of_mem _ he)
    refine ⟨p :: ps, ?_, ?_, ?_, ?_⟩
    · simp only [List.map_cons, h1, optAll, g1, Option.map_some]
    · simp only [PyData.canLayAll0, h2, g2, Bool.and_true]
    · simp only [PyData.depthAll]; omega
    · simp [g4]
theorem Th.pd : ∀ (n N : Nat) (d : DV), n ≤ N → Th m n d → ∃ p, DL.pd m N d = some p ∧ p.canLay0 = true ∧ p.depth ≤ n
  | n, N, .non, _, _ => ⟨.none, by cases N <;> rfl, rfl, Nat.zero_le _⟩
  | n, N, .bl b, _, _ => ⟨.bool b, by cases N <;> rfl, rfl, Nat.zero_le _⟩
  | n, N, .int b, _, _ => ⟨.int b, by cases N <;> rfl, rfl, Nat.zero_le _⟩
  | n, N, .str z, _, h => ⟨.str z, by cases N <;> rfl, by rw [th_str] at h; exact h.1, Nat.zero_le _⟩
  | n + 1, N + 1, .tup ds, hN, h => by
    obtain ⟨ps, h1, h2, h3, _⟩ := th_all (N := N) (fun d hd => Th.pd n N d (by omega) hd) ds h.2
    exact ⟨.tuple ps, by simp only [DL.pd, h1, Option.map_some], h2, by simp only [PyData.depth]; omega⟩
  | n + 1, N + 1, .ref k, hN, ⟨_, ds, h0, _, h⟩ => by
    obtain ⟨ps, h1, h2, h3, _⟩ := th_all (N := N) (fun d hd => Th.pd n N d (by omega) hd) ds h
    exact ⟨.list ps, by simp only [DL.pd, h0, h1, Option.map_some], h2, by simp only [PyData.depth]; omega⟩
  | n + 1, 0, _, hN, _ => by omega
  | 0, _, .tup _, _, h => h.elim
  | 0, _, .ref _, _, h => h.elim
theorem shaped_of {p : PyData} {n : Nat} (h1 : p.canLay0 = true) (h2 : p.depth ≤ n) (hn : n ≤ 64) : SeqAt.shaped p = true := by
  unfold SeqAt.shaped
  rw [h1, Bool.true_and]
  exact decide_eq_true (by omega)
theorem eqD_of {x y : DV} {p q : PyData} (hx : pd m 64 x = some p) (hy : pd m 64 y = some q) (sp : SeqAt.shaped p = true) (sq : SeqAt.shaped q = true) : eqD x y m = .ok (.bl (PyData.eqv p q)) m := by
  unfold eqD; rw [hx, hy]; simp only [if_pos (And.intro sp sq)]
theorem neD_of {x y : DV} {p q : PyData} (hx : pd m 64 x = some p) (hy : pd m 64 y = some q) (sp : SeqAt.shaped p = true) (sq : SeqAt.shaped q = true) : neD x y m = .ok (.bl (!PyData.eqv p q)) m := by
  unfold neD; rw [hx, hy]; simp only [if_pos (And.intro sp sq)]
theorem eqv_nil (ps : List PyData) : PyData.eqvAll ps [] = ps.isEmpty := by cases ps <;> simp [PyData.eqvAll]
/-- thing == () of a tuple -/
theorem eq_unit {n : Nat} {ds : List DV} (h : Th m n (.tup ds)) (hn : n ≤ 60) : eqD (.tup ds) (.tup []) m = .ok (.bl ds.isEmpty) m := by
  cases n with
  | zero => exact h.elim
  | succ n =>
    obtain ⟨ps, h1, h2, h3, h4⟩ := th_all (N := 63) (fun d hd => Th.pd n 63 d (by omega) hd) ds h.2
    have e1 : pd m 64 (.tup ds) = some (.tuple ps) := by simp only [pd, h1, Option.map_some]
    have e2 : pd m 64 (.tup []) = some (.tuple []) := rfl
    rw [eqD_of e1 e2 (shaped_of (n := n + 1) h2 (by simp only [PyData.depth]; omega) (by omega)) rfl]
    simp only [PyData.eqv, eqv_nil]
    cases ps <;> cases ds <;> simp at h4 ⊢
theorem pd_ints (N : Nat) : ∀ is : List Int, optAll ((is.map DV.int).map (pd m N)) = some (is.map .int)
  | [] => rfl
  | i :: is => by
    have e : pd m N (.int i) = some (.int i) := by cases N <;> rfl
    simp only [List.map_cons, e, optAll, pd_ints N is, Option.map_some]
theorem canLay_ints : ∀ is : List Int, PyData.canLayAll0 (is.map .int) = true
  | [] => rfl
  | i :: is => by simp only [List.map_cons, PyData.canLayAll0, PyData.canLay0, canLay_ints is, Bool.and_true]
theorem depth_ints : ∀ is : List Int, PyData.depthAll (is.map .int) = 0
  | [] => rfl
  | i :: is => by simp only [List.map_cons, PyData.depthAll, PyData.depth, depth_ints is]; rfl
/-- a list of ints == [] -/
theorem eq_nilL {k j : Nat} {is : List Int} (hk : m[k]? = some (.lst (is.map .int))) (hj : m[j]? = some (.lst [])) : eqD (.ref k) (.ref j) m = .ok (.bl is.isEmpty) m := by
  have e1 : pd m 64 (.ref k) = some (.list (is.map .int)) := by simp only [pd, hk, pd_ints, Option.map_some]
  have e2 : pd m 64 (.ref j) = some (.list []) := by simp only [pd, hj]; rfl
  rw [eqD_of e1 e2 (shaped_of (n := 1) (canLay_ints is) (by simp only [PyData.depth, depth_ints]; omega) (by omega)) rfl]
  simp only [PyData.eqv, eqv_nil]
  cases is <;> rfl
theorem ne_nilL {k j : Nat} {is : List Int} (hk : m[k]? = some (.lst (is.map .int))) (hj : m[j]? = some (.lst [])) : neD (.ref k) (.ref j) m = .ok (.bl (!is.isEmpty)) m := by
  have e1 : pd m 64 (.ref k) = some (.list (is.map .int)) := by simp only [pd, hk, pd_ints, Option.map_some]
  have e2 : pd m 64 (.ref j) = some (.list []) := by simp only [pd, hj]; rfl
  rw [neD_of e1 e2 (shaped_of (n := 1) (canLay_ints is) (by simp only [PyData.depth, depth_ints]; omega) (by omega)) rfl]
  simp only [PyData.eqv, eqv_nil]
  cases is <;> rfl

/-! ### kinds of things -/
def DV.isIntB : DV → Bool
  | .int _ => true
  | _ => false
def DV.isIntLike : DV → Bool
  | .int _ => true
  | .bl _ => true
  | _ => false
def DV.isBlB : DV → Bool
  | .bl _ => true
  | _ => false
def DV.isTupB : DV → Bool
  | .tup _ => true
  | _ => false
def DV.isStrB : DV → Bool
  | .str _ => true
  | _ => false
def DV.btw (a b : Int) : DV → Bool
  | .int i => decide (a ≤ i) && decide (i ≤ b)
  | _ => false
def DV.from (a : Int) : DV → Bool
  | .int i => decide (a ≤ i)
  | _ => false
theorem th_ref_ty {n k : Nat} (h : Th m n (.ref k)) : tyD m (.ref k) = some "list" := by
  cases n with
  | zero => exact h.elim
  | succ n =>
    obtain ⟨_, ds, h2, _⟩ := h
    simp only [tyD, h2]
theorem isI_th_int {n : Nat} {d : DV} (h : Th m n d) : isI "int" d m = .ok (.bl d.isIntLike) m := by
  cases d with
  | ref k => unfold isI; rw [th_ref_ty h]; rfl
  | _ => rfl
theorem isI_th_bool {n : Nat} {d : DV} (h : Th m n d) : isI "bool" d m = .ok (.bl d.isBlB) m := by
  cases d with
  | ref k => unfold isI; rw [th_ref_ty h]; rfl
  | _ => rfl
theorem isI_th_tuple {n : Nat} {d : DV} (h : Th m n d) : isI "tuple" d m = .ok (.bl d.isTupB) m := by
  cases d with
  | ref k => unfold isI; rw [th_ref_ty h]; rfl
  | _ => rfl
theorem isI_th_str {n : Nat} {d : DV} (h : Th m n d) : isI "str" d m = .ok (.bl d.isStrB) m := by
  cases d with
  | ref k => unfold isI; rw [th_ref_ty h]; rfl
  | _ => rfl
theorem Th.lo {b : Nat} : ∀ (n : Nat) (d : DV), Th m n d → m.length ≤ b → d.lo b
  | n, .non, _, _ => trivial
  | n, .bl _, _, _ => trivial
  | n, .int _, _, _ => trivial
  | n, .str _, _, _ => trivial
  | n + 1, .tup ds, h, hb => loAll_iff.mpr fun d hd => Th.lo n d (h.2 d hd) hb
  | n + 1, .ref k, ⟨_, ds, h2, _⟩, hb => Nat.lt_of_lt_of_le (List.getElem?_eq_some_iff.mp h2).1 hb
  | 0, .tup _, h, _ => h.elim
  | 0, .ref _, h, _ => h.elim
theorem Th.grow {n : Nat} {d : DV} (h : Th m n d) (g : Grow m m') : Th m' n d := Th.keep (fun _ _ _ e => g.get e) n d h

def DV.isS (z : Str) : DV → Bool
  | .str y => y == z
  | _ => false
theorem th_ne_str {n : Nat} {d : DV} {z : Str} (h : Th m n d) (hn : n ≤ 60) (hz : strFit z) : neD d (.str z) m = .ok (.bl (!d.isS z)) m := by
  obtain ⟨p, h1, h2, h3⟩ := Th.pd n 64 d (by omega) h
  have e2 : pd m 64 (.str z) = some (.str z) := rfl
  rw [neD_of h1 e2 (shaped_of h2 h3 (by omega)) (shaped_of (n := 0) hz.1 (Nat.le_refl _) (by omega))]
  congr 3
  cases d with
  | non => cases h1; rfl
  | bl b => cases h1; rfl
  | int i => cases h1; rfl
  | str y => cases h1; rfl
  | tup ds =>
    simp only [pd, Option.map_eq_some_iff] at h1
    obtain ⟨ps, _, rfl⟩ := h1
    simp [PyData.eqv, DV.isS]
  | ref k =>
    cases n with
    | zero => exact h.elim
    | succ n =>
      obtain ⟨_, ds, g, _⟩ := h
      simp only [pd, g, Option.map_eq_some_iff] at h1
      obtain ⟨ps, _, rfl⟩ := h1
      simp [PyData.eqv, DV.isS]
theorem th_eq_str {n : Nat} {d : DV} {z : Str} (h : Th m n d) (hn : n ≤ 60) (hz : strFit z) : eqD d (.str z) m = .ok (.bl (d.isS z)) m := by
  have := th_ne_str h hn hz
  obtain ⟨p, h1, h2, h3⟩ := Th.pd n 64 d (by omega) h
  have e2 : pd m 64 (.str z) = some (.str z) := rfl
  have s1 := shaped_of h2 h3 (by omega)
  have s2 := shaped_of (p := .str z) (n := 0) hz.1 (Nat.le_refl _) (by omega)
  rw [neD_of h1 e2 s1 s2] at this
  rw [eqD_of h1 e2 s1 s2]
  simp only [Out.ok.injEq, DV.bl.injEq, and_true] at this
  have : PyData.eqv p (.str z) = d.isS z := by
    cases hh : PyData.eqv p (.str z) <;> cases hg : d.isS z <;> rw [hh, hg] at this <;> simp at this ⊢
  rw [this]
end DL

end
section
set_option Elab.async false
set_option linter.all false
set_option maxRecDepth 100000
set_option maxHeartbeats 4000000
set_option autoImplicit false
/-! Things that a law changes: ref-free data, and data with lists of ref-free data. -/
namespace DL
open PySem PySem.Spec L2
/-- ints, texts, tuples of such -/
def Src : Nat → DV → Prop
  | _, .int _ => True
  | _, .str z => strFit z
  | n + 1, .tup ds => ds.length ≤ 40000 ∧ ∀ d ∈ ds, Src n d
  | _, _ => False
/-- what comes of a change: None, bools, lists of the first kind too -/
def Tg (m : Mem) : Nat → DV → Prop
  | _, .non => True
  | _, .bl _ => True
  | _, .int _ => True
  | _, .str z => strFit z
  | n + 1, .tup ds => ds.length ≤ 90000 ∧ ∀ d ∈ ds, Tg m n d
  | n + 1, .ref k => 3 ≤ k ∧ ∃ ds, m[k]? = some (.lst ds) ∧ ds.length ≤ 90000 ∧ ∀ d ∈ ds, Src n d
  | 0, .tup _ => False
  | 0, .ref _ => False
variable {m m' : Mem}
@[simp] theorem src_int (n : Nat) (i : Int) : Src n (.int i) = True := by cases n <;> rfl
@[simp] theorem src_str (n : Nat) (z : Str) : Src n (.str z) = strFit z := by cases n <;> rfl
@[simp] theorem tg_non (n : Nat) : Tg m n .non = True := by cases n <;> rfl
@[simp] theorem tg_bl (n : Nat) (b : Bool) : Tg m n (.bl b) = True := by cases n <;> rfl
@[simp] theorem tg_int (n : Nat) (b : Int) : Tg m n (.int b) = True := by cases n <;> rfl
@[simp] theorem tg_str (n : Nat) (b : Str) : Tg m n (.str b) = strFit b := by cases n <;> rfl
theorem Src.tg : ∀ (n : Nat) (d : DV), Src n d → Tg m n d
  | n, .int _, _ => by simp
  | n, .str _, h => by simpa using h
  | n + 1, .tup ds, h => ⟨by have := h.1; omega, fun d hd => Src.tg n d (h.2 d hd)⟩
  | 0, .tup _, h => h.elim
  | 0, .non, h => h.elim
  | _ + 1, .non, h => h.elim
  | 0, .bl _, h => h.elim
  | _ + 1, .bl _, h => h.elim
  | 0, .ref _, h => h.elim
  | _ + 1, .ref _, h => h.elim
theorem Src.th : ∀ (n : Nat) (d : DV), Src n d → Th m n d
  | n, .int _, _ => by simp
  | n, .str _, h => by simpa using h
  | n + 1, .tup ds, h => ⟨by have := h.1; omega, fun d hd => Src.th n d (h.2 d hd)⟩
  | 0, .tup _, h => h.elim
  | 0, .non, h => h.elim
  | _ + 1, .non, h => h.elim
  | 0, .bl _, h => h.elim
  | _ + 1, .bl _, h => h.elim
  | 0, .ref _, h => h.elim
  | _ + 1, .ref _, h => h.elim
theorem Src.lo {b : Nat} : ∀ (n : Nat) (d : DV), Src n d → d.lo b
  | n, .int _, _ => trivial
  | n, .str _, _ => trivial
  | n + 1, .tup ds, h => loAll_iff.mpr fun d hd => Src.lo n d (h.2 d hd)
  | 0, .tup _, h => h.elim
  | 0, .non, h => trivial
  | _ + 1, .non, h => trivial
  | 0, .bl _, h => trivial
  | _ + 1, .bl _, h => trivial
  | 0, .ref _, h => h.elim
  | _ + 1, .ref _, h => h.elim
theorem Tg.th : ∀ (n : Nat) (d : DV), Tg m n d → Th m n d
  | n, .non, _ => by simp
  | n, .bl _, _ => by simp
  | n, .int _, _ => by simp
  | n, .str _, h => by simpa using h
  | n + 1, .tup ds, h => ⟨by have := h.1; omega, fun d hd => Tg.th n d (h.2 d hd)⟩
  | n + 1, .ref k, ⟨h1, ds, h2, h3, h4⟩ => ⟨h1, ds, h2, by omega, fun d hd => Src.th n d (h4 d hd)⟩
  | 0, .tup _, h => h.elim
  | 0, .ref _, h => h.elim
theorem Tg.keep (hk : ∀ (k : Nat) (o : MO), 3 ≤ k → m[k]? = some o → m'[k]? = some o) : ∀ (n : Nat) (d : DV), Tg m n d → Tg m' n d
  | n, .non, _ => by simp
  | n, .bl _, _ => by simp
  | n, .int _, _ => by simp
  | n, .str _, h => by simpa using h
  | n + 1, .tup ds, h => ⟨h.1, fun d hd => Tg.keep hk n d (h.2 d hd)⟩
  | n + 1, .ref k, ⟨h1, ds, h2, h3, h4⟩ => ⟨h1, ds, hk k _ h1 h2, h3, h4⟩
  | 0, .tup _, h => h.elim
  | 0, .ref _, h => h.elim
theorem Tg.take {b : Nat} : ∀ (n : Nat) (d : DV), Tg m n d → d.lo b → Tg (m.take b) n d
  | n, .non, _, _ => by simp
  | n, .bl _, _, _ => by simp
  | n, .int _, _, _ => by simp
  | n, .str _, h, _ => by simpa using h
  | n + 1, .tup ds, h, hl => ⟨h.1, fun d hd => Tg.take n d (h.2 d hd) (loAll_iff.mp hl d hd)⟩
  | n + 1, .ref k, ⟨h1, ds, h2, h3, h4⟩, hl => ⟨h1, ds, by rw [List.getElem?_take_of_lt hl]; exact h2, h3, h4⟩
  | 0, .tup _, h, _ => h.elim
  | 0, .ref _, h, _ => h.elim
theorem Tg.up : ∀ (n : Nat) (d : DV), (∀ n d, Src n d → Src (n + 1) d) → Tg m n d → Tg m (n + 1) d
  | n, .non, _, _ => by simp
  | n, .bl _, _, _ => by simp
  | n, .int _, _, _ => by simp
  | n, .str _, _, h => by simpa using h
  | n + 1, .tup ds, f, h => ⟨h.1, fun d hd => Tg.up n d f (h.2 d hd)⟩
  | n + 1, .ref k, f, ⟨h1, ds, h2, h3, h4⟩ => ⟨h1, ds, h2, h3, fun d hd => f n d (h4 d hd)⟩
  | 0, .tup _, _, h => h.elim
  | 0, .ref _, _, h => h.elim
/-- what is kept from place 3 on, the script's places 0 to 2 apart -/
structure Kept (m m' : Mem) : Prop where
  len : m.length ≤ m'.length
  get : ∀ (k : Nat) (o : MO), 3 ≤ k → m[k]? = some o → m'[k]? = some o
theorem Kept.refl (m : Mem) : Kept m m := ⟨Nat.le_refl _, fun _ _ _ h => h⟩
theorem Kept.trans {a b c : Mem} (h : Kept a b) (k : Kept b c) : Kept a c := ⟨Nat.le_trans h.len k.len, fun i o hi e => k.get i o hi (h.get i o hi e)⟩
theorem Kept.app (m l : Mem) : Kept m (m ++ l) := ⟨by simp, fun k o _ h => (Grow.app m l).get h⟩
/-- behind a call: the thing may have moved, and stands -/
theorem gcO_tg {n : Nat} {d : DV} (h3 : 3 ≤ m.length) (ht : Tg m' n d) (hk : Kept m m') : ∃ d2 m2, gcO m (.ok d m') = .ok d2 m2 ∧ Tg m2 n d2 ∧ Kept m m2 ∧ ∀ i, i < 3 → m2[i]? = m'[i]? := by
  have hsame : ∀ i, i < 3 → (m'.take m.length)[i]? = m'[i]? := fun i hi => List.getElem?_take_of_lt (by omega)
  have hkt : Kept m (m'.take m.length) := ⟨by rw [List.length_take, Nat.min_eq_left hk.len]; exact Nat.le_refl _, fun k o hi e => by rw [List.getElem?_take_of_lt (List.getElem?_eq_some_iff.mp e).1]; exact hk.get k o hi e⟩
  unfold gcO
  by_cases ho : OldOk m m'
  · simp only [if_pos ho]
    by_cases hl : d.lo m.length
    · rw [if_pos hl]
      exact ⟨d, _, rfl, Tg.take n d ht hl, hkt, hsame⟩
    · rw [if_neg hl]
      cases d with
      | ref k =>
        cases n with
        | zero => exact ht.elim
        | succ n =>
          obtain ⟨h1, ds, h2, h4, h5⟩ := ht
          simp only [h2]
          by_cases hc : m.length ≤ k ∧ (MO.lst ds).lo m.length
          · rw [if_pos hc]
            have hlen : (m'.take m.length).length = m.length := by rw [List.length_take, Nat.min_eq_left hk.len]
            refine ⟨_, _, rfl, ⟨h3, ds, ?_, h4, h5⟩, hkt.trans (Kept.app _ _), fun i hi => ?_⟩
            · rw [List.getElem?_append_right (by omega), hlen, Nat.sub_self]; rfl
            · rw [List.getElem?_append_left (by omega)]; exact hsame i hi
          · rw [if_neg hc]
            exact ⟨_, _, rfl, ⟨h1, ds, h2, h4, h5⟩, hk, fun _ _ => rfl⟩
      | _ => exact ⟨_, _, rfl, ht, hk, fun _ _ => rfl⟩
  · simp only [if_neg ho]
    exact ⟨d, m', rfl, ht, hk, fun _ _ => rfl⟩
end DL

end
section
set_option linter.all false
set_option autoImplicit false
set_option Elab.async false
/-! Lots: the plain mathematics (least costs, prices, monotony). -/
namespace Lots
/-- wants, setups, held costs up to a day -/
structure LD where
  n : Nat
  w : Nat → Int
  s : Nat → Int
  P : Nat → Int
structure LD.Ok (D : LD) : Prop where
  w0 : ∀ t, 0 ≤ D.w t
  s0 : ∀ t, 0 ≤ D.s t
  p0 : ∀ t, D.P t ≤ D.P (t + 1)
variable {D : LD}
def LD.K (D : LD) (f t : Nat) : Int := D.w t * (D.P t - D.P f)
def LD.SK (D : LD) (f t : Nat) : Int := ((List.range (t - f)).map fun k => D.K f (f + k)).sum
theorem SK_self (f : Nat) : D.SK f f = 0 := by simp [LD.SK]
theorem SK_step {f t : Nat} (h : f ≤ t) : D.SK f (t + 1) = D.SK f t + D.K f t := by
  unfold LD.SK
  rw [show t + 1 - f = (t - f) + 1 by omega, List.range_succ]
  simp
  congr 1; omega
theorem LD.Ok.pm (o : D.Ok) {i t : Nat} (h : i ≤ t) : D.P i ≤ D.P t := by
  induction t with
  | zero => cases Nat.le_zero.mp h; exact Int.le_refl _
  | succ t ih =>
    rcases Nat.lt_or_eq_of_le h with g | g
    · exact Int.le_trans (ih (by omega)) (o.p0 t)
    · rw [g]; exact Int.le_refl _
theorem LD.Ok.k0 (o : D.Ok) {i t : Nat} (h : i ≤ t) : 0 ≤ D.K i t := Int.mul_nonneg (o.w0 t) (by have := o.pm h; omega)
theorem K_zero {i t : Nat} (h : D.w t = 0) : D.K i t = 0 := by simp [LD.K, h]
theorem K_self {t : Nat} : D.K t t = 0 := by simp [LD.K]
/-- the least costs and where they come from -/
structure LC (D : LD) (C : Nat → Int) (L : Nat → Option Nat) : Prop where
  c0 : C 0 = 0
  st : ∀ d, d < D.n → (D.w d = 0 ∧ C (d + 1) = C d ∧ L (d + 1) = none) ∨ (D.w d ≠ 0 ∧ (∃ f, f ≤ d ∧ L (d + 1) = some f ∧ C (d + 1) = C f + D.s f + D.SK f (d + 1)) ∧ ∀ g, g ≤ d → C (d + 1) ≤ C g + D.s g + D.SK g (d + 1))
variable {C : Nat → Int} {L : Nat → Option Nat}
theorem LC.a (o : D.Ok) (c : LC D C L) {f d : Nat} (h : f ≤ d) (hn : d ≤ D.n) : C d ≤ C f + D.s f + D.SK f d := by
  induction d with
  | zero => cases Nat.le_zero.mp h; rw [SK_self]; have := o.s0 0; omega
  | succ d ih =>
    rcases Nat.lt_or_eq_of_le h with g | g
    · rcases c.st d (by omega) with ⟨h1, h2, h3⟩ | ⟨_, _, h4⟩
      · have := ih (by omega) (by omega)
        rw [SK_step (by omega), K_zero h1, h2]; omega
      · exact h4 f (by omega)
    · rw [g, SK_self]; have := o.s0 (d + 1); omega
theorem LC.mono (o : D.Ok) (c : LC D C L) {d : Nat} (hn : d < D.n) : C d ≤ C (d + 1) := by
  rcases c.st d hn with ⟨h1, h2, h3⟩ | ⟨_, ⟨f, hf, _, h3⟩, _⟩
  · omega
  · have := c.a o hf (by omega)
    have h5 := o.k0 hf
    rw [h3, SK_step hf]; omega
theorem LC.nonneg (o : D.Ok) (c : LC D C L) {d : Nat} (hn : d ≤ D.n) : 0 ≤ C d := by
  induction d with
  | zero => rw [c.c0]; exact Int.le_refl _
  | succ d ih => exact Int.le_trans (ih (by omega)) (c.mono o (by omega))
/-- nothing wanted yet, or the cost so far comes of one last day of making -/
theorem LC.tight (c : LC D C L) {t : Nat} (hn : t ≤ D.n) : (∀ u, u < t → D.w u = 0) ∨ ∃ f, f < t ∧ C t = C f + D.s f + D.SK f t := by
  induction t with
  | zero => exact .inl fun u h => absurd h (Nat.not_lt_zero _)
  | succ t ih =>
    rcases c.st t (by omega) with ⟨h1, h2, h3⟩ | ⟨_, ⟨f, hf, _, h3⟩, _⟩
    · rcases ih (by omega) with h | ⟨f, hf, h⟩
      · refine .inl fun u hu => ?_
        by_cases e : u = t
        · rw [e]; exact h1
        · exact h u (by omega)
      · exact .inr ⟨f, by omega, by rw [SK_step (by omega), K_zero h1, h2, h]; omega⟩
    · exact .inr ⟨f, by omega, h3⟩
theorem mul_lt {w a b : Int} (hw : 0 < w) (h : w * a < w * b) : a < b := by
  rcases Int.lt_or_le a b with g | g
  · exact g
  · have := Int.mul_le_mul_of_nonneg_left g (Int.le_of_lt hw); omega
theorem LC.pre (o : D.Ok) (c : LC D C L) {i : Nat} : ∀ t, t ≤ D.n → (∃ f, f < t ∧ C t = C f + D.s f + D.SK f t ∧ D.P f < D.P i) → ∀ u, i ≤ u → u < t → D.K i u ≤ C (u + 1) - C u
  | 0, _, ⟨f, hf, _⟩, _, _, _ => absurd hf (Nat.not_lt_zero _)
  | t + 1, hn, ⟨f, hf, ht, hp⟩, u, hi, hu => by
    have hfi : f < i := by
      rcases Nat.lt_or_ge f i with g | g
      · exact g
      · have := o.pm g; omega
    rcases c.st t (by omega) with ⟨h1, h2, h3⟩ | ⟨h1, ⟨g, hg, _, h3⟩, h4⟩
    · by_cases e : u = t
      · rw [e, K_zero h1, h2]; omega
      · refine LC.pre o c t (by omega) ⟨f, by omega, ?_, hp⟩ u hi (by omega)
        rw [SK_step (by omega), K_zero h1, h2] at ht; omega
    · have hw : 0 < D.w t := by have := o.w0 t; omega
      have hA := c.a o (f := f) (d := t) (by omega) (by omega)
      rw [SK_step (by omega)] at ht
      have hk : D.K f t ≤ C (t + 1) - C t := by omega
      have hlt : D.K i t < D.K f t := by
        unfold LD.K
        exact Int.mul_lt_mul_of_pos_left (by omega) hw
      by_cases e : u = t
      · rw [e]; omega
      · rcases c.tight (t := t) (by omega) with q | ⟨k, hk1, hk2⟩
        · have hu0 := q u (by omega)
          have := c.mono o (d := u) (by omega)
          rw [K_zero hu0]; omega
        · refine LC.pre o c t (by omega) ⟨k, hk1, hk2, ?_⟩ u hi (by omega)
          have h5 := h4 k (by omega)
          rw [SK_step (by omega)] at h5
          have h6 : D.K i t < D.K k t := by omega
          have := mul_lt hw h6
          omega
/-- what a day's prices take above its keeping -/
def over (D : LD) (C : Nat → Int) (i t : Nat) : Int := ((List.range (t - i)).map fun k => max 0 (C (i + k + 1) - C (i + k) - D.K i (i + k))).sum
theorem over_step {i t : Nat} (h : i ≤ t) : over D C i (t + 1) = over D C i t + max 0 (C (t + 1) - C t - D.K i t) := by
  unfold over
  rw [show t + 1 - i = (t - i) + 1 by omega, List.range_succ]
  simp
  rw [show i + (t - i) = t by omega]
theorem over_all {i t : Nat} (h : i ≤ t) (hp : ∀ u, i ≤ u → u < t → D.K i u ≤ C (u + 1) - C u) : over D C i t = C t - C i - D.SK i t := by
  induction t with
  | zero => cases Nat.le_zero.mp h; simp [over, SK_self]
  | succ t ih =>
    rcases Nat.lt_or_eq_of_le h with g | g
    · rw [over_step (by omega), ih (by omega) fun u a b => hp u a (by omega), SK_step (by omega)]
      have := hp t (by omega) (by omega)
      omega
    · rw [← g, SK_self]; simp [over]
theorem LC.dual (o : D.Ok) (c : LC D C L) {i : Nat} : ∀ t, i ≤ t → t ≤ D.n → over D C i t ≤ D.s i
  | 0, h, _ => by cases Nat.le_zero.mp h; simp [over]; exact o.s0 0
  | t + 1, h, hn => by
    by_cases g : i = t + 1
    · rw [g]; simp [over]; exact o.s0 _
    · have hi : i ≤ t := by omega
      by_cases e : C (t + 1) - C t ≤ D.K i t
      · rw [over_step hi]
        have := LC.dual o c t hi (by omega)
        omega
      · have hp : ∀ u, i ≤ u → u < t + 1 → D.K i u ≤ C (u + 1) - C u := by
          intro u h1 h2
          by_cases eu : u = t
          · rw [eu]; omega
          · rcases c.tight (t := t) (by omega) with q | ⟨k, hk1, hk2⟩
            · have hu0 := q u (by omega)
              have := c.mono o (d := u) (by omega)
              rw [K_zero hu0]; omega
            · rcases c.st t (by omega) with ⟨z1, z2, _⟩ | ⟨z1, _, z4⟩
              · rw [K_zero z1] at e; omega
              · have h5 := z4 k (by omega)
                rw [SK_step (by omega)] at h5
                have h6 : D.K i t < D.K k t := by omega
                have := mul_lt (by have := o.w0 t; omega) h6
                exact LC.pre o c t (by omega) ⟨k, hk1, hk2, by omega⟩ u h1 (by omega)
        rw [over_all h hp]
        have := c.a o h hn
        omega

/-! ### two tables -/
variable {D' : LD} {C' : Nat → Int} {L' : Nat → Option Nat}
theorem SK_le {f : Nat} : ∀ {t : Nat}, f ≤ t → (∀ l, f ≤ l → l < t → D.K f l ≤ D'.K f l) → D.SK f t ≤ D'.SK f t
  | 0, h, _ => by cases Nat.le_zero.mp h; rw [SK_self, SK_self]; exact Int.le_refl _
  | t + 1, h, k => by
    by_cases e : f = t + 1
    · rw [e, SK_self, SK_self]; exact Int.le_refl _
    · have := SK_le (f := f) (t := t) (by omega) fun l a b => k l a (by omega)
      have := k t (by omega) (by omega)
      rw [SK_step (by omega), SK_step (by omega)]; omega
theorem LC.le (o : D.Ok) (c : LC D C L) (o' : D'.Ok) (c' : LC D' C' L') (hn : D.n = D'.n) (hw : ∀ t, D.w t ≤ D'.w t) (hs : ∀ t, D.s t ≤ D'.s t) (hk : ∀ f t, f ≤ t → D.K f t ≤ D'.K f t) : ∀ t, t ≤ D.n → C t ≤ C' t := by
  intro t
  induction t using Nat.strongRecOn with
  | ind t ih =>
    intro ht
    cases t with
    | zero => rw [c.c0, c'.c0]; exact Int.le_refl _
    | succ t =>
      rcases c'.st t (by omega) with ⟨h1, h2, _⟩ | ⟨h1, ⟨f, hf, _, h3⟩, _⟩
      · have hz : D.w t = 0 := by have := hw t; have := o.w0 t; omega
        rcases c.st t (by omega) with ⟨_, g2, _⟩ | ⟨g1, _⟩
        · have := ih t (by omega) (by omega); omega
        · exact absurd hz g1
      · have h5 := c.a o (f := f) (d := t + 1) (by omega) ht
        have h6 := ih f (by omega) (by omega)
        have h7 := hs f
        have h8 := SK_le (D := D) (D' := D') (f := f) (t := t + 1) (by omega) fun l a b => hk f l a
        omega
theorem LC.up (o' : D'.Ok) (c : LC D C L) (c' : LC D' C' L') (hn : D.n = D'.n) (at_ : Nat) (b : Int) (hb : 0 ≤ b) (hw : ∀ t, D'.w t = D.w t) (hs : ∀ t, D'.s t = D.s t + if t = at_ then b else 0) (hk : ∀ f t, D'.K f t = D.K f t) : ∀ t, t ≤ D.n → C' t ≤ C t + if at_ < t then b else 0 := by
  intro t
  induction t using Nat.strongRecOn with
  | ind t ih =>
    intro ht
    cases t with
    | zero => rw [c.c0, c'.c0]; simp
    | succ t =>
      have hS : ∀ f u, D'.SK f u = D.SK f u := fun f u => by unfold LD.SK; simp [hk]
      rcases c.st t (by omega) with ⟨h1, h2, _⟩ | ⟨h1, ⟨f, hf, _, h3⟩, _⟩
      · rcases c'.st t (by omega) with ⟨_, g2, _⟩ | ⟨g1, _⟩
        · have := ih t (by omega) (by omega)
          split at this <;> split <;> omega
        · exact absurd (by rw [hw]; exact h1) g1
      · have h5 := c'.a o' (f := f) (d := t + 1) (by omega) (by omega)
        have h6 := ih f (by omega) (by omega)
        rw [hS, hs] at h5
        split at h5 <;> split at h6 <;> split <;> omega
theorem LC.single (o : D.Ok) (c : LC D C L) : ∀ t, t ≤ D.n → C t ≤ (((List.range t).filter fun d => decide (0 < D.w d)).map D.s).sum := by
  intro t
  induction t with
  | zero => intro _; rw [c.c0]; simp
  | succ t ih =>
    intro ht
    have := ih (by omega)
    rw [List.range_succ, List.filter_append, List.map_append, List.sum_append]
    rcases c.st t (by omega) with ⟨h1, h2, _⟩ | ⟨h1, _, h4⟩
    · simp [h1]; omega
    · have hw : 0 < D.w t := by have := o.w0 t; omega
      have := h4 t (by omega)
      rw [SK_step (Nat.le_refl _), SK_self, K_self] at this
      simp [hw]; omega

/-! ### the days of making -/
def lastOf (made : List Nat) (t : Nat) : Nat := ((made.filter fun x => decide (x ≤ t)).getLast?).getD 0
theorem lastOf_app {made : List Nat} {f t : Nat} : lastOf (made ++ [f]) t = if f ≤ t then f else lastOf made t := by
  unfold lastOf
  rw [List.filter_append]
  by_cases h : f ≤ t <;> simp [h]
def cost (D : LD) (made : List Nat) (t : Nat) : Int := (made.map D.s).sum + ((List.range t).map fun u => D.K (lastOf made u) u).sum
theorem sum_range_split (g : Nat → Int) (a b : Nat) (h : a ≤ b) : ((List.range b).map g).sum = ((List.range a).map g).sum + ((List.range (b - a)).map fun k => g (a + k)).sum := by
  induction b with
  | zero => cases Nat.le_zero.mp h; simp
  | succ b ih =>
    by_cases e : a = b + 1
    · rw [e]; simp
    · rw [List.range_succ, List.map_append, List.sum_append, ih (by omega), show b + 1 - a = (b - a) + 1 by omega, List.range_succ (n := b - a), List.map_append, List.sum_append]
      simp
      rw [show a + (b - a) = b by omega]; omega
structure Plan (D : LD) (C : Nat → Int) (made : List Nat) (t : Nat) : Prop where
  lt : ∀ x ∈ made, x < t
  asc : made.Pairwise (· < ·)
  cov : ∀ u, u < t → 0 < D.w u → ∃ x ∈ made, x ≤ u
  eq : cost D made t = C t
theorem Plan.zero (c0 : C 0 = 0) : Plan D C [] 0 := ⟨by simp, .nil, by intro u h; omega, by simp [cost, c0]⟩
theorem Plan.skip {made : List Nat} {t : Nat} (p : Plan D C made t) (hw : D.w t = 0) (hc : C (t + 1) = C t) : Plan D C made (t + 1) := by
  refine ⟨fun x hx => by have := p.lt x hx; omega, p.asc, fun u hu h => ?_, ?_⟩
  · by_cases e : u = t
    · rw [e, hw] at h; omega
    · exact p.cov u (by omega) h
  · rw [hc, ← p.eq]
    unfold cost
    rw [List.range_succ, List.map_append, List.sum_append]
    simp [K_zero hw]
theorem map_congr' {α β : Type} {f g : α → β} {xs : List α} (h : ∀ x ∈ xs, f x = g x) : xs.map f = xs.map g := List.map_congr_left h
theorem Plan.make {made : List Nat} {f t : Nat} (p : Plan D C made f) (hf : f < t) (hc : C t = C f + D.s f + D.SK f t) : Plan D C (made ++ [f]) t := by
  refine ⟨fun x hx => ?_, ?_, fun u hu h => ?_, ?_⟩
  · rcases List.mem_append.mp hx with h | h
    · have := p.lt x h; omega
    · rw [List.mem_singleton.mp h]; exact hf
  · exact List.pairwise_append.mpr ⟨p.asc, by simp, fun a ha b hb => by rw [List.mem_singleton.mp hb]; exact p.lt a ha⟩
  · by_cases e : u < f
    · obtain ⟨x, h1, h2⟩ := p.cov u e h
      exact ⟨x, List.mem_append_left _ h1, h2⟩
    · exact ⟨f, by simp, by omega⟩
  · rw [hc, ← p.eq]
    unfold cost
    rw [sum_range_split _ f t (by omega)]
    have h1 : ((List.range f).map fun u => D.K (lastOf (made ++ [f]) u) u) = (List.range f).map fun u => D.K (lastOf made u) u := map_congr' fun u hu => by
      rw [lastOf_app, if_neg (by have := List.mem_range.mp hu; omega)]
    have h2 : ((List.range (t - f)).map fun k => D.K (lastOf (made ++ [f]) (f + k)) (f + k)) = (List.range (t - f)).map fun k => D.K f (f + k) := map_congr' fun u hu => by
      rw [lastOf_app, if_pos (by omega)]
    rw [h1, h2]
    simp only [LD.SK, List.map_append, List.sum_append, List.map_cons, List.map_nil, List.sum_cons, List.sum_nil]
    omega
/-- walked back from day t -/
def trace (L : Nat → Option Nat) : Nat → List Nat
  | 0 => []
  | t + 1 => match L (t + 1) with
    | none => trace L t
    | some f => if h : f ≤ t then trace L f ++ [f] else []
termination_by t => t
theorem LC.trace_plan (c : LC D C L) : ∀ t, t ≤ D.n → Plan D C (trace L t) t := by
  intro t
  induction t using Nat.strongRecOn with
  | ind t ih =>
    intro ht
    cases t with
    | zero => rw [trace]; exact Plan.zero c.c0
    | succ t =>
      rw [trace]
      rcases c.st t (by omega) with ⟨h1, h2, h3⟩ | ⟨_, ⟨f, hf, hl, h3⟩, _⟩
      · rw [h3]; exact (ih t (by omega) (by omega)).skip h1 h2
      · rw [hl]; simp only [dif_pos hf]
        exact (ih f (by omega) (by omega)).make (by omega) h3
end Lots

end
section
set_option Elab.async false
set_option linter.all false
set_option maxRecDepth 100000
set_option maxHeartbeats 0
namespace My
open PySem PySem.Spec L2 DL

/-! ### the text by its places -/
def top (i : Nat) : Stmt := PySem.Challenge.pw_shoplands_k22_whole_lots.main.body.getD i (.Pass ⟨0, 0, 0, 0⟩)
abbrev st_is_whole : Stmt := top 1
abbrev st_is_between : Stmt := top 2
abbrev st_is_pair : Stmt := top 3
abbrev st_is_ascending : Stmt := top 4
abbrev st__is_day_row : Stmt := top 10
abbrev st_is_lots : Stmt := top 11
abbrev st__kept : Stmt := top 12
abbrev st_lots_cost : Stmt := top 13
abbrev st__least_costs : Stmt := top 14
abbrev st__from : Stmt := top 15
abbrev st_least_lots : Stmt := top 16
abbrev st__are_prices : Stmt := top 17
abbrev st_is_least_lots : Stmt := top 18
abbrev st__law_cell : Stmt := top 20
abbrev st__law_digits : Stmt := top 21
abbrev st__law_draw : Stmt := top 22
abbrev st__law_like : Stmt := top 23
abbrev st__law_whole : Stmt := top 24
abbrev st__law_subsets : Stmt := top 25
abbrev st__law_ascending : Stmt := top 26
abbrev st__law_other : Stmt := top 27
abbrev st__law_changed : Stmt := top 28
abbrev st__law_is_lots : Stmt := top 29
abbrev st__law_kept : Stmt := top 30
abbrev st__law_cost : Stmt := top 31
abbrev st__law_paper : Stmt := top 32
abbrev st_law : Stmt := top 33
/-! ### the head -/
def df_is_whole : He.DefD := ⟨("is_whole", none), "is_whole", "is_whole", defArgs st_is_whole, defBody st_is_whole, defScope st_is_whole, [], []⟩
def df_is_between : He.DefD := ⟨("is_between", none), "is_between", "is_between", defArgs st_is_between, defBody st_is_between, defScope st_is_between, [], []⟩
def df_is_pair : He.DefD := ⟨("is_pair", none), "is_pair", "is_pair", defArgs st_is_pair, defBody st_is_pair, defScope st_is_pair, [], []⟩
def df_is_ascending : He.DefD := ⟨("is_ascending", none), "is_ascending", "is_ascending", defArgs st_is_ascending, defBody st_is_ascending, defScope st_is_ascending, [], []⟩
def df__is_day_row : He.DefD := ⟨("_is_day_row", none), "_is_day_row", "_is_day_row", defArgs st__is_day_row, defBody st__is_day_row, defScope st__is_day_row, [], []⟩
def df_is_lots : He.DefD := ⟨("is_lots", none), "is_lots", "is_lots", defArgs st_is_lots, defBody st_is_lots, defScope st_is_lots, [], []⟩
def df__kept : He.DefD := ⟨("_kept", none), "_kept", "_kept", defArgs st__kept, defBody st__kept, defScope st__kept, [], []⟩
def df_lots_cost : He.DefD := ⟨("lots_cost", none), "lots_cost", "lots_cost", defArgs st_lots_cost, defBody st_lots_cost, defScope st_lots_cost, [], []⟩
def df__least_costs : He.DefD := ⟨("_least_costs", none), "_least_costs", "_least_costs", defArgs st__least_costs, defBody st__least_costs, defScope st__least_costs, [], []⟩
def df__from : He.DefD := ⟨("_from", none), "_from", "_from", defArgs st__from, defBody st__from, defScope st__from, [], []⟩
def df_least_lots : He.DefD := ⟨("least_lots", none), "least_lots", "least_lots", defArgs st_least_lots, defBody st_least_lots, defScope st_least_lots, [], []⟩
def df__are_prices : He.DefD := ⟨("_are_prices", none), "_are_prices", "_are_prices", defArgs st__are_prices, defBody st__are_prices, defScope st__are_prices, [], []⟩
def df_is_least_lots : He.DefD := ⟨("is_least_lots", none), "is_least_lots", "is_least_lots", defArgs st_is_least_lots, defBody st_is_least_lots, defScope st_is_least_lots, [], []⟩
def df__law_cell : He.DefD := ⟨("_law_cell", none), "_law_cell", "_law_cell", defArgs st__law_cell, defBody st__law_cell, defScope st__law_cell, [], []⟩
def df__law_digits : He.DefD := ⟨("_law_digits", none), "_law_digits", "_law_digits", defArgs st__law_digits, defBody st__law_digits, defScope st__law_digits, [], []⟩
def df__law_draw : He.DefD := ⟨("_law_draw", none), "_law_draw", "_law_draw", defArgs st__law_draw, defBody st__law_draw, defScope st__law_draw, [], []⟩
def df__law_like : He.DefD := ⟨("_law_like", none), "_law_like", "_law_like", defArgs st__law_like, defBody st__law_like, defScope st__law_like, [], []⟩
def df__law_whole : He.DefD := ⟨("_law_whole", none), "_law_whole", "_law_whole", defArgs st__law_whole, defBody st__law_whole, defScope st__law_whole, [], []⟩
def df__law_subsets : He.DefD := ⟨("_law_subsets", none), "_law_subsets", "_law_subsets", defArgs st__law_subsets, defBody st__law_subsets, defScope st__law_subsets, [], []⟩
def df__law_ascending : He.DefD := ⟨("_law_ascending", none), "_law_ascending", "_law_ascending", defArgs st__law_ascending, defBody st__law_ascending, defScope st__law_ascending, [], []⟩
def df__law_other : He.DefD := ⟨("_law_other", none), "_law_other", "_law_other", defArgs st__law_other, defBody st__law_other, defScope st__law_other, [], []⟩
def df__law_changed : He.DefD := ⟨("_law_changed", none), "_law_changed", "_law_changed", defArgs st__law_changed, defBody st__law_changed, defScope st__law_changed, [], []⟩
def df__law_is_lots : He.DefD := ⟨("_law_is_lots", none), "_law_is_lots", "_law_is_lots", defArgs st__law_is_lots, defBody st__law_is_lots, defScope st__law_is_lots, [], []⟩
def df__law_kept : He.DefD := ⟨("_law_kept", none), "_law_kept", "_law_kept", defArgs st__law_kept, defBody st__law_kept, defScope st__law_kept, [], []⟩
def df__law_cost : He.DefD := ⟨("_law_cost", none), "_law_cost", "_law_cost", defArgs st__law_cost, defBody st__law_cost, defScope st__law_cost, [], []⟩
def df__law_paper : He.DefD := ⟨("_law_paper", none), "_law_paper", "_law_paper", defArgs st__law_paper, defBody st__law_paper, defScope st__law_paper, [], []⟩
def df_law : He.DefD := ⟨("law", none), "law", "law", defArgs st_law, defBody st_law, defScope st_law, [], []⟩
def hfn : List He.DefD := [df_is_whole, df_is_between, df_is_pair, df_is_ascending, df__is_day_row, df_is_lots, df__kept, df_lots_cost, df__least_costs, df__from, df_least_lots, df__are_prices, df_is_least_lots, df__law_cell, df__law_digits, df__law_draw, df__law_like, df__law_whole, df__law_subsets, df__law_ascending, df__law_other, df__law_changed, df__law_is_lots, df__law_kept, df__law_cost, df__law_paper, df_law]
def hfa : List He.Fa := [.glo "is_whole", .glo "is_between", .glo "is_pair", .glo "is_ascending", .glo "_is_day_row", .glo "is_lots", .glo "_kept", .glo "lots_cost", .glo "_least_costs", .glo "_from", .glo "least_lots", .glo "_are_prices", .glo "is_least_lots", .glo "_law_cell", .glo "_law_digits", .glo "_law_draw", .glo "_law_like", .glo "_law_whole", .glo "_law_subsets", .glo "_law_ascending", .glo "_law_other", .glo "_law_changed", .glo "_law_is_lots", .glo "_law_kept", .glo "_law_cost", .glo "_law_paper", .glo "law", .free "all", .free "any", .free "bool", .free "enumerate", .free "int", .free "isinstance", .free "len", .free "list", .free "max", .free "min", .free "range", .free "reversed", .free "str", .free "sum", .free "tuple", .free "zip", .int "MOST_DAYS" 12, .int "MOST_WANT" 99, .int "MOST_SETUP" 999, .int "MOST_HOLD" 99]
def hn0 : List PySem.Str := ["__name__", "is_whole", "is_between", "is_pair", "is_ascending", "MOST_DAYS", "MOST_WANT", "MOST_SETUP", "MOST_HOLD", "_is_day_row", "is_lots", "_kept", "lots_cost", "_least_costs", "_from", "least_lots", "_are_prices", "is_least_lots", "_law_cell", "_law_digits", "_law_draw", "_law_like", "_law_whole", "_law_subsets", "_law_ascending", "_law_other", "_law_changed", "_law_is_lots", "_law_kept", "_law_cost"]
def hn1 : List PySem.Str := ["_law_paper"]
def hnames : List PySem.Str := hn0 ++ hn1
abbrev hR : PySem.W.OpenRow := PySem.W.OpenLaw.row PySem.Challenge.rw_shoplands_k22_whole_lots
abbrev hk : PySem.W.Hook := He.hookD 4 hfa hfn
def hob (s : PySem.W.SharedT) : He.AlD := He.obsDG 4 hfa hfn (HandSHeadRun.getT s)
theorem hob_eq (s : PySem.W.SharedT) : hob s = hk.obs s.abs := He.obsDG_eq (HandSHeadRun.getT_eq s)
theorem hrun (w : World) : HandSHeadRun.RunEq hR (PySem.W.view hR.prog [33]) hk hob 1500 hnames w := by
  intro os
  kernel_rfl
/-- what is left to be shown: the body of the law's def, and what it answers -/
theorem holds_of (k : Nat) (hk1 : Room (k + 1) callerA) (N : List Str) (S : DS) (sc : FnScope N ["script"] (defScope st_law))
    (F : ∀ (w : World) (K : PySem.W.Frag) (mg : Str → Option Value) (base : Heap), K.In base → base.Ns mainGlobals mg → He.SaysD hfa hfn K → ∀ W, SSs ((⟨hR.prog, w, K, mg, base⟩ : Sg).cn N (defScope st_law) k W) (defBody st_law) S)
    (T : ∀ ns : List Int, ns.length ≤ 63 → ∃ m, runD N.length 1 S [.ref 0] [.rol (ns.map DV.int)] = .ok (.bl true) m) : PySem.Challenge.rw_shoplands_k22_whole_lots.Holds := by
  w_on; o_law
  refine HandSHeadRun.head_any (r := PySem.W.OpenLaw.row PySem.Challenge.rw_shoplands_k22_whole_lots) (q := PySem.W.view (PySem.W.OpenLaw.row PySem.Challenge.rw_shoplands_k22_whole_lots).prog [33]) (H := hk) (ob := hob) (M := 1500) (loose := hnames) (d := HandSHeadRun.topDef (PySem.W.OpenLaw.row PySem.Challenge.rw_shoplands_k22_whole_lots).prog 33) (kwd := []) hob_eq
    (by kernel_rfl) (fun s => by kernel_rfl) hrun (by kernel_rfl) (by kernel_rfl) (by kernel_rfl) (by rfl) (by first | assumption | decide +kernel) (by decide +kernel) ⟨rfl, rfl, rfl, rfl, rfl, by decide +kernel⟩ ?hw ?hc
  case hw => w_witness2
  case hc =>
    refine walk_end (l := PySem.Challenge.rw_shoplands_k22_whole_lots) (n := 63) (k := k + 1) (x := "script") rfl (by decide) (by kernel_rfl) hk1 ?_
    intro w mg fa h Y G hmg0
    obtain ⟨K, KX, c⟩ := Y
    have hmg : mg ("law" : PySem.Str) = some (.ref fa) := by
      have e : (HandSHeadRun.topDef (PySem.W.OpenLaw.row PySem.Challenge.rw_shoplands_k22_whole_lots).prog 33).name = ("law" : PySem.Str) := by kernel_rfl
      rw [← e]
      exact hmg0
    obtain ⟨fd, FL⟩ := c.def_ 26 (d := df_law) rfl
    have e := hmg.symm.trans (He.glo_ok KX G (c.fact 26 (f := .glo "law") rfl))
    cases e
    have b := FunD.bindsA (ps := ["script"]) FL fun _ _ _ _ _ _ us hl => match us, hl with | [_], _ => rfl
    exact ⟨K, fd, runD N.length 1 S, KX, fun s v => b s [v] rfl, T, fun base h1 h2 => fn_ok (G := ⟨hR.prog, w, K, mg, base⟩) FL sc (F w K mg base h1 h2 c)⟩

section
variable {G : Sg}
/-- the built-ins are what they are -/
structure Fr (G : Sg) : Prop where
  f_all : G.mg "all" = none
  f_any : G.mg "any" = none
  f_bool : G.mg "bool" = none
  f_enumerate : G.mg "enumerate" = none
  f_int : G.mg "int" = none
  f_isinstance : G.mg "isinstance" = none
  f_len : G.mg "len" = none
  f_list : G.mg "list" = none
  f_max : G.mg "max" = none
  f_min : G.mg "min" = none
  f_range : G.mg "range" = none
  f_reversed : G.mg "reversed" = none
  f_str : G.mg "str" = none
  f_sum : G.mg "sum" = none
  f_tuple : G.mg "tuple" = none
  f_zip : G.mg "zip" = none
  i_MOST_DAYS : ∃ t, G.mg "MOST_DAYS" = some (.int 12 t)
  i_MOST_HOLD : ∃ t, G.mg "MOST_HOLD" = some (.int 99 t)
  i_MOST_SETUP : ∃ t, G.mg "MOST_SETUP" = some (.int 999 t)
  i_MOST_WANT : ∃ t, G.mg "MOST_WANT" = some (.int 99 t)
def Df (G : Sg) (d : He.DefD) : Prop := ∃ fd, FunD G.K d.name d.qual d.params d.body d.scope [] [] (He.fAd G.K d.at_) fd ∧ G.mg d.name = some (.ref (He.fAd G.K d.at_))
noncomputable def S_is_whole : DS := (sRet (eAndV (eUn (isI "int") (eVar 0)) (eNotV (eUn (isI "bool") (eVar 0)))))
noncomputable def D_is_whole : DF := runD 1 1 S_is_whole
theorem sc_is_whole : FnScope ["thing"] ["thing"] (defScope st_is_whole) := ⟨rfl, rfl, rfl, by decide +kernel, rfl, by decide +kernel, by decide +kernel⟩
theorem bd_is_whole (Z : Fr G) (W : XK) : SSs (G.cn ["thing"] (defScope st_is_whole) 0 W) (defBody st_is_whole) S_is_whole :=
  (ss_one (ss_ret (se_and (se_isI "int" Z.f_isinstance Z.f_int (se_var 0)) (se_one (se_not (se_isI "bool" Z.f_isinstance Z.f_bool (se_var 0)))))))
theorem ok_is_whole (Z : Fr G) (F : Df G df_is_whole) : Fn G 1 "is_whole" 1 D_is_whole := by
  obtain ⟨fd, F, hg⟩ := F
  exact fn_mk F sc_is_whole hg (fun W => bd_is_whole Z W) (fun _ _ _ _ _ _ us hl => match us, hl with | [_], _ => rfl)
noncomputable def S_is_between : DS := (sRet (eAndV (eCall D_is_whole (aCons (eVar 0) aNil)) (eChain leD leD (eVar 1) (eVar 0) (eVar 2))))
noncomputable def D_is_between : DF := runD 3 3 S_is_between
theorem sc_is_between : FnScope ["thing", "least", "most"] ["thing", "least", "most"] (defScope st_is_between) := ⟨rfl, rfl, rfl, by decide +kernel, rfl, by decide +kernel, by decide +kernel⟩
theorem bd_is_between (Z : Fr G) (h_is_whole : Fn G 1 "is_whole" 1 D_is_whole) (W : XK) : SSs (G.cn ["thing", "least", "most"] (defScope st_is_between) 1 W) (defBody st_is_between) S_is_between :=
  (ss_one (ss_ret (se_and (se_call h_is_whole (sa_cons (se_var 0) sa_nil) (aCons_len aNil_len) (Nat.le_of_ble_eq_true rfl)) (se_one (se_chain or_leD or_leD bd_leD bd_leD (se_var 1) (se_var 0) (se_var 2))))))
theorem ok_is_between (Z : Fr G) (h_is_whole : Fn G 1 "is_whole" 1 D_is_whole) (F : Df G df_is_between) : Fn G 2 "is_between" 3 D_is_between := by
  obtain ⟨fd, F, hg⟩ := F
  exact fn_mk F sc_is_between hg (fun W => bd_is_between Z h_is_whole W) (fun _ _ _ _ _ _ us hl => match us, hl with | [_, _, _], _ => rfl)
noncomputable def S_is_pair : DS := (sRet (eAndV (eUn (isI "tuple") (eVar 0)) (eBin eqD (eCall fLen (aCons (eVar 0) aNil)) (eC (.int 2)))))
noncomputable def D_is_pair : DF := runD 1 1 S_is_pair
theorem sc_is_pair : FnScope ["thing"] ["thing"] (defScope st_is_pair) := ⟨rfl, rfl, rfl, by decide +kernel, rfl, by decide +kernel, by decide +kernel⟩
theorem bd_is_pair (Z : Fr G) (W : XK) : SSs (G.cn ["thing"] (defScope st_is_pair) 0 W) (defBody st_is_pair) S_is_pair :=
  (ss_one (ss_ret (se_and (se_isI "tuple" Z.f_isinstance Z.f_tuple (se_var 0)) (se_one (se_eq (se_len Z.f_len (se_var 0)) se_int)))))
theorem ok_is_pair (Z : Fr G) (F : Df G df_is_pair) : Fn G 1 "is_pair" 1 D_is_pair := by
  obtain ⟨fd, F, hg⟩ := F
  exact fn_mk F sc_is_pair hg (fun W => bd_is_pair Z W) (fun _ _ _ _ _ _ us hl => match us, hl with | [_], _ => rfl)
noncomputable def c_is_ascending_1 : DE := (eComp (iRng1D (eBin iSub (eCall fLen (aCons (eVar 0) aNil)) (eC (.int 1)))) (gVar 1) tYesD (eBin ltD (eBin ixD (eVar 0) (eVar 1)) (eBin ixD (eVar 0) (eBin addD (eVar 1) (eC (.int 1))))) [1])
noncomputable def c_is_ascending_2 : DE := (gc (eCall (f1 allD) (aCons c_is_ascending_1 aNil)))
noncomputable def S_is_ascending : DS := (sRet c_is_ascending_2)
noncomputable def D_is_ascending : DF := runD 2 1 S_is_ascending
theorem sc_is_ascending : FnScope ["things", "at"] ["things"] (defScope st_is_ascending) := ⟨rfl, rfl, rfl, by decide +kernel, rfl, by decide +kernel, by decide +kernel⟩
theorem bd_is_ascending (Z : Fr G) (W : XK) : SSs (G.cn ["things", "at"] (defScope st_is_ascending) 0 W) (defBody st_is_ascending) S_is_ascending :=
  (ss_one (ss_ret (se_gc (se_all Z.f_all (se_comp (own := [("at", 1)]) (si_range1 (se_sub (se_len Z.f_len (se_var 0)) se_int) (hm := Z.f_range)) (blkOk_by (by kernel_rfl)) (sgv_var 1) sts_nil (se_lt (se_ix (se_var 0) (se_var 1)) (se_ix (se_var 0) (se_plus (se_var 1) se_int))))))))
theorem ok_is_ascending (Z : Fr G) (F : Df G df_is_ascending) : Fn G 1 "is_ascending" 1 D_is_ascending := by
  obtain ⟨fd, F, hg⟩ := F
  exact fn_mk F sc_is_ascending hg (fun W => bd_is_ascending Z W) (fun _ _ _ _ _ _ us hl => match us, hl with | [_], _ => rfl)
noncomputable def S__is_day_row : DS := (sSeq (sIf (tOr' (tNot' (tru (eUn (isI "tuple") (eVar 0)))) (tOr' (tst (eBin neD (eCall fLen (aCons (eVar 0) aNil)) (eC (.int 3)))) (tNot' (tru (eCall D_is_between (aCons (eBin ixD (eVar 0) (eC (.int 0))) (aCons (eC (.int 0)) (aCons (eC (.int 99)) aNil)))))))) (sRet (eC (.bl false))) sSkip)
    (sRet (eAndV (eCall D_is_between (aCons (eBin ixD (eVar 0) (eC (.int 1))) (aCons (eC (.int 0)) (aCons (eC (.int 999)) aNil)))) (eCall D_is_between (aCons (eBin ixD (eVar 0) (eC (.int 2))) (aCons (eC (.int 0)) (aCons (eC (.int 99)) aNil)))))))
noncomputable def D__is_day_row : DF := runD 1 1 S__is_day_row
theorem sc__is_day_row : FnScope ["thing"] ["thing"] (defScope st__is_day_row) := ⟨rfl, rfl, rfl, by decide +kernel, rfl, by decide +kernel, by decide +kernel⟩
theorem bd__is_day_row (Z : Fr G) (h_is_between : Fn G 2 "is_between" 3 D_is_between) (W : XK) : SSs (G.cn ["thing"] (defScope st__is_day_row) 2 W) (defBody st__is_day_row) S__is_day_row :=
  (ss_cons (ss_if (SW.st (sw_or (st_not (st_tru (se_isI "tuple" Z.f_isinstance Z.f_tuple (se_var 0)))) (sw_or (st_ne (se_len Z.f_len (se_var 0)) se_int) (sw_or1 (st_not (st_tru (se_call h_is_between (sa_cons (se_ix (se_var 0) se_int) (sa_cons se_int (sa_cons (se_gInt Z.i_MOST_WANT) sa_nil))) (aCons_len (aCons_len (aCons_len aNil_len))) (Nat.le_of_ble_eq_true rfl)))))))) (ss_one (ss_ret se_bl)) ss_nil)
    (ss_one (ss_ret (se_and (se_call h_is_between (sa_cons (se_ix (se_var 0) se_int) (sa_cons se_int (sa_cons (se_gInt Z.i_MOST_SETUP) sa_nil))) (aCons_len (aCons_len (aCons_len aNil_len))) (Nat.le_of_ble_eq_true rfl)) (se_one (se_call h_is_between (sa_cons (se_ix (se_var 0) se_int) (sa_cons se_int (sa_cons (se_gInt Z.i_MOST_HOLD) sa_nil))) (aCons_len (aCons_len (aCons_len aNil_len))) (Nat.le_of_ble_eq_true rfl)))))))
theorem ok__is_day_row (Z : Fr G) (h_is_between : Fn G 2 "is_between" 3 D_is_between) (F : Df G df__is_day_row) : Fn G 3 "_is_day_row" 1 D__is_day_row := by
  obtain ⟨fd, F, hg⟩ := F
  exact fn_mk F sc__is_day_row hg (fun W => bd__is_day_row Z h_is_between W) (fun _ _ _ _ _ _ us hl => match us, hl with | [_], _ => rfl)
noncomputable def c_is_lots_1 : DE := (eComp (iAnyD (eBin ixD (eVar 0) (eC (.int 1)))) (gVar 1) tYesD (eCall D__is_day_row (aCons (eVar 1) aNil)) [1])
noncomputable def c_is_lots_2 : DE := (gc (eCall (f1 allD) (aCons c_is_lots_1 aNil)))
noncomputable def S_is_lots : DS := (sSeq (sIf (tOr' (tNot' (tru (eUn (isI "tuple") (eVar 0)))) (tOr' (tst (eBin neD (eCall fLen (aCons (eVar 0) aNil)) (eC (.int 2)))) (tOr' (tst (eBin neD (eBin ixD (eVar 0) (eC (.int 0))) (eC (.str "lots")))) (tNot' (tru (eUn (isI "tuple") (eBin ixD (eVar 0) (eC (.int 1))))))))) (sRet (eC (.bl false))) sSkip)
    (sRet (eAndV (eChain leD leD (eC (.int 1)) (eCall fLen (aCons (eBin ixD (eVar 0) (eC (.int 1))) aNil)) (eC (.int 12))) c_is_lots_2)))
noncomputable def D_is_lots : DF := runD 2 1 S_is_lots
theorem sc_is_lots : FnScope ["thing", "row"] ["thing"] (defScope st_is_lots) := ⟨rfl, rfl, rfl, by decide +kernel, rfl, by decide +kernel, by decide +kernel⟩
theorem bd_is_lots (Z : Fr G) (h__is_day_row : Fn G 3 "_is_day_row" 1 D__is_day_row) (W : XK) : SSs (G.cn ["thing", "row"] (defScope st_is_lots) 3 W) (defBody st_is_lots) S_is_lots :=
  (ss_cons (ss_if (SW.st (sw_or (st_not (st_tru (se_isI "tuple" Z.f_isinstance Z.f_tuple (se_var 0)))) (sw_or (st_ne (se_len Z.f_len (se_var 0)) se_int) (sw_or (st_ne (se_ix (se_var 0) se_int) se_str) (sw_or1 (st_not (st_tru (se_isI "tuple" Z.f_isinstance Z.f_tuple (se_ix (se_var 0) se_int))))))))) (ss_one (ss_ret se_bl)) ss_nil)
    (ss_one (ss_ret (se_and (se_chain or_leD or_leD bd_leD bd_leD se_int (se_len Z.f_len (se_ix (se_var 0) se_int)) (se_gInt Z.i_MOST_DAYS)) (se_one (se_gc (se_all Z.f_all (se_comp (own := [("row", 1)]) (si_any (se_ix (se_var 0) se_int)) (blkOk_by (by kernel_rfl)) (sgv_var 1) sts_nil (se_call h__is_day_row (sa_cons (se_var 1) sa_nil) (aCons_len aNil_len) (Nat.le_of_ble_eq_true rfl))))))))))
theorem ok_is_lots (Z : Fr G) (h__is_day_row : Fn G 3 "_is_day_row" 1 D__is_day_row) (F : Df G df_is_lots) : Fn G 4 "is_lots" 1 D_is_lots := by
  obtain ⟨fd, F, hg⟩ := F
  exact fn_mk F sc_is_lots hg (fun W => bd_is_lots Z h__is_day_row W) (fun _ _ _ _ _ _ us hl => match us, hl with | [_], _ => rfl)
noncomputable def c__kept_1 : DE := (eComp (iAnyD (eSl (eBin ixD (eVar 0) (eC (.int 1))) (oSome (eVar 1)) (oSome (eVar 2)))) (gVar 3) tYesD (eBin ixD (eVar 3) (eC (.int 2))) [3])
noncomputable def c__kept_2 : DE := (gc (eCall (f1 sumD) (aCons c__kept_1 aNil)))
noncomputable def S__kept : DS := (sRet (eBin iMul (eBin ixD (eBin ixD (eBin ixD (eVar 0) (eC (.int 1))) (eVar 2)) (eC (.int 0))) c__kept_2))
noncomputable def D__kept : DF := runD 4 3 S__kept
theorem sc__kept : FnScope ["lots", "first", "last", "row"] ["lots", "first", "last"] (defScope st__kept) := ⟨rfl, rfl, rfl, by decide +kernel, rfl, by decide +kernel, by decide +kernel⟩
theorem bd__kept (Z : Fr G) (W : XK) : SSs (G.cn ["lots", "first", "last", "row"] (defScope st__kept) 0 W) (defBody st__kept) S__kept :=
  (ss_one (ss_ret (se_mul (se_ix (se_ix (se_ix (se_var 0) se_int) (se_var 2)) se_int) (se_gc (se_sum Z.f_sum (se_comp (own := [("row", 3)]) (si_any (se_slice (se_ix (se_var 0) se_int) (so_some (se_var 1)) (so_some (se_var 2)))) (blkOk_by (by kernel_rfl)) (sgv_var 3) sts_nil (se_ix (se_var 3) se_int)))))))
theorem ok__kept (Z : Fr G) (F : Df G df__kept) : Fn G 1 "_kept" 3 D__kept := by
  obtain ⟨fd, F, hg⟩ := F
  exact fn_mk F sc__kept hg (fun W => bd__kept Z W) (fun _ _ _ _ _ _ us hl => match us, hl with | [_, _, _], _ => rfl)
noncomputable def c_lots_cost_1 : DE := (eComp (iAnyD (eVar 1)) (gVar 3) tYesD (eBin ixD (eBin ixD (eBin ixD (eVar 0) (eC (.int 1))) (eVar 3)) (eC (.int 1))) [3])
noncomputable def c_lots_cost_2 : DE := (gc (eCall (f1 sumD) (aCons c_lots_cost_1 aNil)))
noncomputable def c_lots_cost_3 : DE := (eComp (iAnyD (eVar 1)) (gVar 6) (tst (eBin leD (eVar 6) (eVar 3))) (eVar 6) [6])
noncomputable def b_lots_cost_1 : DS := (sIf (tst (eBin gtD (eBin ixD (eVar 4) (eC (.int 0))) (eC (.int 0)))) (sSeq (sSet 5 c_lots_cost_3)
    (sSeq (sIf (tNot' (tru (eVar 5))) (sRet (eC .non)) sSkip)
    (sAug 2 iAdd (eCall D__kept (aCons (eVar 0) (aCons (eBin ixD (eVar 5) (eUn negD (eC (.int 1)))) (aCons (eVar 3) aNil))))))) sSkip)
noncomputable def S_lots_cost : DS := (sSeq (sSet 2 c_lots_cost_2)
    (sSeq (sFor (iEnumD (eBin ixD (eVar 0) (eC (.int 1)))) (gTupD 2 (gsCons (gVar 3) (gsCons (gVar 4) gsNil))) b_lots_cost_1)
    (sRet (eVar 2))))
noncomputable def D_lots_cost : DF := runD 7 2 S_lots_cost
theorem sc_lots_cost : FnScope ["lots", "made", "found", "day", "row", "ahead", "one"] ["lots", "made"] (defScope st_lots_cost) := ⟨rfl, rfl, rfl, by decide +kernel, rfl, by decide +kernel, by decide +kernel⟩
theorem bd_lots_cost (Z : Fr G) (h__kept : Fn G 1 "_kept" 3 D__kept) (W : XK) : SSs (G.cn ["lots", "made", "found", "day", "row", "ahead", "one"] (defScope st_lots_cost) 1 W) (defBody st_lots_cost) S_lots_cost :=
  (ss_cons (ss_set 2 (se_gc (se_sum Z.f_sum (se_comp (own := [("day", 3)]) (si_any (se_var 1)) (blkOk_by (by kernel_rfl)) (sgv_var 3) sts_nil (se_ix (se_ix (se_ix (se_var 0) se_int) (se_var 3)) se_int)))))
    (ss_cons (ss_for (si_enum Z.f_enumerate (se_ix (se_var 0) se_int)) (sg_tup (sgs_cons (sg_var 3) (sgs_cons (sg_var 4) sgs_nil))) (ss_one (ss_if (st_gt (se_ix (se_var 4) se_int) se_int) (ss_cons (ss_setLc 5 (own := [("one", 6)]) (si_any (se_var 1)) (blkOk_by (by kernel_rfl)) (sgv_var 6) (sts_one (st_le (se_var 6) (se_var 3))) (se_var 6) (hsw := sw_yes))
    (ss_cons (ss_if (st_not (st_tru (se_var 5))) (ss_one (ss_ret se_non)) ss_nil)
    (ss_one (ss_aug 2 pip_add bd_iadd (se_call h__kept (sa_cons (se_var 0) (sa_cons (se_ix (se_var 5) (se_neg se_int)) (sa_cons (se_var 3) sa_nil))) (aCons_len (aCons_len (aCons_len aNil_len))) (Nat.le_of_ble_eq_true rfl)))))) ss_nil)))
    (ss_one (ss_ret (se_var 2)))))
theorem ok_lots_cost (Z : Fr G) (h__kept : Fn G 1 "_kept" 3 D__kept) (F : Df G df_lots_cost) : Fn G 2 "lots_cost" 2 D_lots_cost := by
  obtain ⟨fd, F, hg⟩ := F
  exact fn_mk F sc_lots_cost hg (fun W => bd_lots_cost Z h__kept W) (fun _ _ _ _ _ _ us hl => match us, hl with | [_, _], _ => rfl)
noncomputable def c__from_1 : DE := (eComp (iRng2D (eVar 2) (eBin addD (eVar 3) (eC (.int 1)))) (gVar 5) tYesD (eCall D__kept (aCons (eVar 0) (aCons (eVar 2) (aCons (eVar 5) aNil)))) [5])
noncomputable def c__from_2 : DE := (gc (eCall (f1 sumD) (aCons c__from_1 aNil)))
noncomputable def S__from : DS := (sSeq (sSet 4 c__from_2)
    (sRet (eBin addD (eBin addD (eBin ixD (eVar 1) (eVar 2)) (eBin ixD (eBin ixD (eBin ixD (eVar 0) (eC (.int 1))) (eVar 2)) (eC (.int 1)))) (eVar 4))))
noncomputable def D__from : DF := runD 6 4 S__from
theorem sc__from : FnScope ["lots", "costs", "first", "day", "kept", "later"] ["lots", "costs", "first", "day"] (defScope st__from) := ⟨rfl, rfl, rfl, by decide +kernel, rfl, by decide +kernel, by decide +kernel⟩
theorem bd__from (Z : Fr G) (h__kept : Fn G 1 "_kept" 3 D__kept) (W : XK) : SSs (G.cn ["lots", "costs", "first", "day", "kept", "later"] (defScope st__from) 1 W) (defBody st__from) S__from :=
  (ss_cons (ss_set 4 (se_gc (se_sum Z.f_sum (se_comp (own := [("later", 5)]) (si_range2 (se_var 2) (se_plus (se_var 3) se_int) (hm := Z.f_range)) (blkOk_by (by kernel_rfl)) (sgv_var 5) sts_nil (se_call h__kept (sa_cons (se_var 0) (sa_cons (se_var 2) (sa_cons (se_var 5) sa_nil))) (aCons_len (aCons_len (aCons_len aNil_len))) (Nat.le_of_ble_eq_true rfl))))))
    (ss_one (ss_ret (se_plus (se_plus (se_ix (se_var 1) (se_var 2)) (se_ix (se_ix (se_ix (se_var 0) se_int) (se_var 2)) se_int)) (se_var 4)))))
theorem ok__from (Z : Fr G) (h__kept : Fn G 1 "_kept" 3 D__kept) (F : Df G df__from) : Fn G 2 "_from" 4 D__from := by
  obtain ⟨fd, F, hg⟩ := F
  exact fn_mk F sc__from hg (fun W => bd__from Z h__kept W) (fun _ _ _ _ _ _ us hl => match us, hl with | [_, _, _, _], _ => rfl)
noncomputable def c__least_costs_1 : DE := (eComp (iRng1D (eBin addD (eVar 3) (eC (.int 1)))) (gVar 6) tYesD (eTup (aCons (eCall D__from (aCons (eVar 0) (aCons (eVar 1) (aCons (eVar 6) (aCons (eVar 3) aNil))))) (aCons (eVar 6) aNil))) [6])
noncomputable def b__least_costs_1 : DS := (sIf (tst (eBin eqD (eBin ixD (eVar 4) (eC (.int 0))) (eC (.int 0)))) (sSeq (sExpr (eAppend (eVar 1) (eBin ixD (eVar 1) (eUn negD (eC (.int 1))))))
    (sExpr (eAppend (eVar 2) (eC .non)))) (sSeq (sSet 5 c__least_costs_1)
    (sSeq (sExpr (eAppend (eVar 1) (eBin ixD (eCall (f1 (bestD PySem.W.minD)) (aCons (eVar 5) aNil)) (eC (.int 0)))))
    (sExpr (eAppend (eVar 2) (eBin ixD (eCall (f1 (bestD PySem.W.minD)) (aCons (eVar 5) aNil)) (eC (.int 1))))))))
noncomputable def S__least_costs : DS := (sSeq (sAsg (eTup (aCons (eLst (aCons (eC (.int 0)) aNil)) (aCons (eLst (aCons (eC .non) aNil)) aNil))) (gTupD 2 (gsCons (gVar 1) (gsCons (gVar 2) gsNil))))
    (sSeq (sFor (iEnumD (eBin ixD (eVar 0) (eC (.int 1)))) (gTupD 2 (gsCons (gVar 3) (gsCons (gVar 4) gsNil))) b__least_costs_1)
    (sRet (eTup (aCons (eVar 1) (aCons (eVar 2) aNil))))))
noncomputable def D__least_costs : DF := runD 7 1 S__least_costs
theorem sc__least_costs : FnScope ["lots", "costs", "lasts", "day", "row", "ways", "first"] ["lots"] (defScope st__least_costs) := ⟨rfl, rfl, rfl, by decide +kernel, rfl, by decide +kernel, by decide +kernel⟩
theorem bd__least_costs (Z : Fr G) (h__from : Fn G 2 "_from" 4 D__from) (W : XK) : SSs (G.cn ["lots", "costs", "lasts", "day", "row", "ways", "first"] (defScope st__least_costs) 2 W) (defBody st__least_costs) S__least_costs :=
  (ss_cons (ss_asg (se_tup (sa_cons (se_lst (sa_cons se_int sa_nil)) (sa_cons (se_lst (sa_cons se_non sa_nil)) sa_nil))) (sg_tup (sgs_cons (sg_var 1) (sgs_cons (sg_var 2) sgs_nil))) (hw := by rintro ⟨⟩ h; cases h; rfl))
    (ss_cons (ss_for (si_enum Z.f_enumerate (se_ix (se_var 0) se_int)) (sg_tup (sgs_cons (sg_var 3) (sgs_cons (sg_var 4) sgs_nil))) (ss_one (ss_if (st_eq (se_ix (se_var 4) se_int) se_int) (ss_cons (ss_expr (se_append (se_var 1) (se_ix (se_var 1) (se_neg se_int))))
    (ss_one (ss_expr (se_append (se_var 2) se_non)))) (ss_cons (ss_setLc 5 (own := [("first", 6)]) (si_range1 (se_plus (se_var 3) se_int) (hm := Z.f_range)) (blkOk_by (by kernel_rfl)) (sgv_var 6) sts_nil (se_tup (sa_cons (se_call h__from (sa_cons (se_var 0) (sa_cons (se_var 1) (sa_cons (se_var 6) (sa_cons (se_var 3) sa_nil)))) (aCons_len (aCons_len (aCons_len (aCons_len aNil_len)))) (Nat.le_of_ble_eq_true rfl)) (sa_cons (se_var 6) sa_nil))) (hsw := sw_yes))
    (ss_cons (ss_expr (se_append (se_var 1) (se_ix (se_minL Z.f_min (se_var 5)) se_int)))
    (ss_one (ss_expr (se_append (se_var 2) (se_ix (se_minL Z.f_min (se_var 5)) se_int)))))))))
    (ss_one (ss_ret (se_tup (sa_cons (se_var 1) (sa_cons (se_var 2) sa_nil)))))))
theorem ok__least_costs (Z : Fr G) (h__from : Fn G 2 "_from" 4 D__from) (F : Df G df__least_costs) : Fn G 3 "_least_costs" 1 D__least_costs := by
  obtain ⟨fd, F, hg⟩ := F
  exact fn_mk F sc__least_costs hg (fun W => bd__least_costs Z h__from W) (fun _ _ _ _ _ _ us hl => match us, hl with | [_], _ => rfl)
noncomputable def b_least_lots_1 : DS := (sIf (tst (eUn isN (eBin ixD (eVar 2) (eVar 4)))) (sAug 4 iSub (eC (.int 1))) (sSeq (sExpr (eAppend (eVar 3) (eBin ixD (eVar 2) (eVar 4))))
    (sSet 4 (eBin ixD (eVar 2) (eVar 4)))))
noncomputable def c_least_lots_1 : DE := (eComp (iRng1D (eCall fLen (aCons (eBin ixD (eVar 0) (eC (.int 1))) aNil))) (gVar 6) tYesD (eBin iSub (eBin ixD (eVar 1) (eBin addD (eVar 6) (eC (.int 1)))) (eBin ixD (eVar 1) (eVar 6))) [6])
noncomputable def S_least_lots : DS := (sSeq (sAsg (eCall D__least_costs (aCons (eVar 0) aNil)) (gTupD 2 (gsCons (gVar 1) (gsCons (gVar 2) gsNil))))
    (sSeq (sSet 3 (eLst aNil))
    (sSeq (sSet 4 (eCall fLen (aCons (eBin ixD (eVar 0) (eC (.int 1))) aNil)))
    (sSeq (sWhile (tst (eBin gtD (eVar 4) (eC (.int 0)))) b_least_lots_1)
    (sSeq (sSet 5 c_least_lots_1)
    (sRet (eTup (aCons (eUn revD (eVar 3)) (aCons (eCall (f1 tupD) (aCons (eVar 5) aNil)) aNil)))))))))
noncomputable def D_least_lots : DF := runD 7 1 S_least_lots
theorem sc_least_lots : FnScope ["lots", "costs", "lasts", "made", "day", "prices", "at"] ["lots"] (defScope st_least_lots) := ⟨rfl, rfl, rfl, by decide +kernel, rfl, by decide +kernel, by decide +kernel⟩
theorem bd_least_lots (Z : Fr G) (h__least_costs : Fn G 3 "_least_costs" 1 D__least_costs) (W : XK) : SSs (G.cn ["lots", "costs", "lasts", "made", "day", "prices", "at"] (defScope st_least_lots) 3 W) (defBody st_least_lots) S_least_lots :=
  (ss_cons (ss_asg (se_call h__least_costs (sa_cons (se_var 0) sa_nil) (aCons_len aNil_len) (Nat.le_of_ble_eq_true rfl)) (sg_tup (sgs_cons (sg_var 1) (sgs_cons (sg_var 2) sgs_nil))))
    (ss_cons (ss_set 3 (se_lst sa_nil))
    (ss_cons (ss_set 4 (se_len Z.f_len (se_ix (se_var 0) se_int)))
    (ss_cons (ss_while (st_gt (se_var 4) se_int) (ss_one (ss_if (st_isN (se_ix (se_var 2) (se_var 4))) (ss_one (ss_aug 4 pip_sub bd_isub se_int)) (ss_cons (ss_expr (se_append (se_var 3) (se_ix (se_var 2) (se_var 4))))
    (ss_one (ss_set 4 (se_ix (se_var 2) (se_var 4))))))))
    (ss_cons (ss_setLc 5 (own := [("at", 6)]) (si_range1 (se_len Z.f_len (se_ix (se_var 0) se_int)) (hm := Z.f_range)) (blkOk_by (by kernel_rfl)) (sgv_var 6) sts_nil (se_sub (se_ix (se_var 1) (se_plus (se_var 6) se_int)) (se_ix (se_var 1) (se_var 6))) (hsw := sw_yes))
    (ss_one (ss_ret (se_tup (sa_cons (se_tupRev Z.f_tuple Z.f_reversed (se_var 3)) (sa_cons (se_tuple Z.f_tuple (se_var 5)) sa_nil))))))))))
theorem ok_least_lots (Z : Fr G) (h__least_costs : Fn G 3 "_least_costs" 1 D__least_costs) (F : Df G df_least_lots) : Fn G 4 "least_lots" 1 D_least_lots := by
  obtain ⟨fd, F, hg⟩ := F
  exact fn_mk F sc_least_lots hg (fun W => bd_least_lots Z h__least_costs W) (fun _ _ _ _ _ _ us hl => match us, hl with | [_], _ => rfl)
noncomputable def c__are_prices_1 : DE := (eComp (iAnyD (eVar 1)) (gVar 5) tYesD (eAndV (eCall D_is_whole (aCons (eVar 5) aNil)) (eBin geD (eVar 5) (eC (.int 0)))) [5])
noncomputable def c__are_prices_2 : DE := (gc (eCall (f1 allD) (aCons c__are_prices_1 aNil)))
noncomputable def c__are_prices_3 : DE := (eComp (iZipD (eVar 1) (eBin ixD (eVar 0) (eC (.int 1)))) (gTupD 2 (gsCons (gVar 5) (gsCons (gVar 6) gsNil))) tYesD (eAndV (eBin neD (eVar 5) (eC (.int 0))) (eBin eqD (eBin ixD (eVar 6) (eC (.int 0))) (eC (.int 0)))) [5, 6])
noncomputable def c__are_prices_4 : DE := (gc (eCall (f1 anyD) (aCons c__are_prices_3 aNil)))
noncomputable def c__are_prices_5 : DE := (eComp (iRng2D (eVar 3) (eVar 2)) (gVar 7) tYesD (eCall (f2 max2D) (aCons (eC (.int 0)) (aCons (eBin iSub (eBin ixD (eVar 1) (eVar 7)) (eCall D__kept (aCons (eVar 0) (aCons (eVar 3) (aCons (eVar 7) aNil))))) aNil))) [7])
noncomputable def b__are_prices_1 : DS := (sSeq (sSet 4 c__are_prices_5)
    (sIf (tst (eBin gtD (eCall (f1 sumD) (aCons (eVar 4) aNil)) (eBin ixD (eBin ixD (eBin ixD (eVar 0) (eC (.int 1))) (eVar 3)) (eC (.int 1))))) (sRet (eC (.bl false))) sSkip))
noncomputable def S__are_prices : DS := (sSeq (sIf (tOr' (tNot' (tru (eUn (isI "tuple") (eVar 1)))) (tst (eBin neD (eCall fLen (aCons (eVar 1) aNil)) (eCall fLen (aCons (eBin ixD (eVar 0) (eC (.int 1))) aNil))))) (sRet (eC (.bl false))) sSkip)
    (sSeq (sIf (tNot' (tru c__are_prices_2)) (sRet (eC (.bl false))) sSkip)
    (sSeq (sIf (tru c__are_prices_4) (sRet (eC (.bl false))) sSkip)
    (sSeq (sSet 2 (eCall fLen (aCons (eVar 1) aNil)))
    (sSeq (sFor (iRng1D (eVar 2)) (gVar 3) b__are_prices_1)
    (sRet (eC (.bl true))))))))
noncomputable def D__are_prices : DF := runD 8 2 S__are_prices
theorem sc__are_prices : FnScope ["lots", "thing", "many", "day", "over", "price", "row", "later"] ["lots", "thing"] (defScope st__are_prices) := ⟨rfl, rfl, rfl, by decide +kernel, rfl, by decide +kernel, by decide +kernel⟩
theorem bd__are_prices (Z : Fr G) (h_is_whole : Fn G 1 "is_whole" 1 D_is_whole) (h__kept : Fn G 1 "_kept" 3 D__kept) (W : XK) : SSs (G.cn ["lots", "thing", "many", "day", "over", "price", "row", "later"] (defScope st__are_prices) 1 W) (defBody st__are_prices) S__are_prices :=
  (ss_cons (ss_if (SW.st (sw_or (st_not (st_tru (se_isI "tuple" Z.f_isinstance Z.f_tuple (se_var 1)))) (sw_or1 (st_ne (se_len Z.f_len (se_var 1)) (se_len Z.f_len (se_ix (se_var 0) se_int)))))) (ss_one (ss_ret se_bl)) ss_nil)
    (ss_cons (ss_if (st_not (st_tru (se_gc (se_all Z.f_all (se_comp (own := [("price", 5)]) (si_any (se_var 1)) (blkOk_by (by kernel_rfl)) (sgv_var 5) sts_nil (se_and (se_call h_is_whole (sa_cons (se_var 5) sa_nil) (aCons_len aNil_len) (Nat.le_of_ble_eq_true rfl)) (se_one (se_ge (se_var 5) se_int)))))))) (ss_one (ss_ret se_bl)) ss_nil)
    (ss_cons (ss_if (st_tru (se_gc (se_any Z.f_any (se_comp (own := [("price", 5), ("row", 6)]) (si_zip Z.f_zip (se_var 1) (se_ix (se_var 0) se_int)) (blkOk_by (by kernel_rfl)) (sgv_tup (sgvs_cons (sgv_var 5) (sgvs_cons (sgv_var 6) sgvs_nil))) sts_nil (se_and (se_ne (se_var 5) se_int) (se_one (se_eq (se_ix (se_var 6) se_int) se_int))))))) (ss_one (ss_ret se_bl)) ss_nil)
    (ss_cons (ss_set 2 (se_len Z.f_len (se_var 1)))
    (ss_cons (ss_for (si_range1 (se_var 2) (hm := Z.f_range)) (sg_var 3) (ss_cons (ss_setLc 4 (own := [("later", 7)]) (si_range2 (se_var 3) (se_var 2) (hm := Z.f_range)) (blkOk_by (by kernel_rfl)) (sgv_var 7) sts_nil (se_max2 Z.f_max se_int (se_sub (se_ix (se_var 1) (se_var 7)) (se_call h__kept (sa_cons (se_var 0) (sa_cons (se_var 3) (sa_cons (se_var 7) sa_nil))) (aCons_len (aCons_len (aCons_len aNil_len))) (Nat.le_of_ble_eq_true rfl)))) (hsw := sw_yes))
    (ss_one (ss_if (st_gt (se_sum Z.f_sum (se_var 4)) (se_ix (se_ix (se_ix (se_var 0) se_int) (se_var 3)) se_int)) (ss_one (ss_ret se_bl)) ss_nil))))
    (ss_one (ss_ret se_bl)))))))
theorem ok__are_prices (Z : Fr G) (h_is_whole : Fn G 1 "is_whole" 1 D_is_whole) (h__kept : Fn G 1 "_kept" 3 D__kept) (F : Df G df__are_prices) : Fn G 2 "_are_prices" 2 D__are_prices := by
  obtain ⟨fd, F, hg⟩ := F
  exact fn_mk F sc__are_prices hg (fun W => bd__are_prices Z h_is_whole h__kept W) (fun _ _ _ _ _ _ us hl => match us, hl with | [_, _], _ => rfl)
noncomputable def c_is_least_lots_1 : DE := (eComp (iAnyD (eVar 2)) (gVar 4) tYesD (eCall D_is_between (aCons (eVar 4) (aCons (eC (.int 0)) (aCons (eBin iSub (eCall fLen (aCons (eBin ixD (eVar 0) (eC (.int 1))) aNil)) (eC (.int 1))) aNil)))) [4])
noncomputable def c_is_least_lots_2 : DE := (gc (eCall (f1 allD) (aCons c_is_least_lots_1 aNil)))
noncomputable def S_is_least_lots : DS := (sSeq (sIf (tOr' (tNot' (tru (eCall D_is_pair (aCons (eVar 1) aNil)))) (tNot' (tru (eUn (isI "tuple") (eBin ixD (eVar 1) (eC (.int 0))))))) (sRet (eC (.bl false))) sSkip)
    (sSeq (sAsg (eVar 1) (gTupD 2 (gsCons (gVar 2) (gsCons (gVar 3) gsNil))))
    (sSeq (sIf (tOr' (tNot' (tru c_is_least_lots_2)) (tNot' (tru (eCall D_is_ascending (aCons (eVar 2) aNil))))) (sRet (eC (.bl false))) sSkip)
    (sRet (eAndV (eCall D__are_prices (aCons (eVar 0) (aCons (eVar 3) aNil))) (eBin eqD (eCall D_lots_cost (aCons (eVar 0) (aCons (eVar 2) aNil))) (eCall (f1 sumD) (aCons (eVar 3) aNil))))))))
noncomputable def D_is_least_lots : DF := runD 5 2 S_is_least_lots
theorem sc_is_least_lots : FnScope ["lots", "thing", "made", "prices", "day"] ["lots", "thing"] (defScope st_is_least_lots) := ⟨rfl, rfl, rfl, by decide +kernel, rfl, by decide +kernel, by decide +kernel⟩
theorem bd_is_least_lots (Z : Fr G) (h_is_pair : Fn G 1 "is_pair" 1 D_is_pair) (h_is_between : Fn G 2 "is_between" 3 D_is_between) (h_is_ascending : Fn G 1 "is_ascending" 1 D_is_ascending) (h__are_prices : Fn G 2 "_are_prices" 2 D__are_prices) (h_lots_cost : Fn G 2 "lots_cost" 2 D_lots_cost) (W : XK) : SSs (G.cn ["lots", "thing", "made", "prices", "day"] (defScope st_is_least_lots) 2 W) (defBody st_is_least_lots) S_is_least_lots :=
  (ss_cons (ss_if (SW.st (sw_or (st_not (st_tru (se_call h_is_pair (sa_cons (se_var 1) sa_nil) (aCons_len aNil_len) (Nat.le_of_ble_eq_true rfl)))) (sw_or1 (st_not (st_tru (se_isI "tuple" Z.f_isinstance Z.f_tuple (se_ix (se_var 1) se_int))))))) (ss_one (ss_ret se_bl)) ss_nil)
    (ss_cons (ss_asg (se_var 1) (sg_tup (sgs_cons (sg_var 2) (sgs_cons (sg_var 3) sgs_nil))))
    (ss_cons (ss_if (SW.st (sw_or (st_not (st_tru (se_gc (se_all Z.f_all (se_comp (own := [("day", 4)]) (si_any (se_var 2)) (blkOk_by (by kernel_rfl)) (sgv_var 4) sts_nil (se_call h_is_between (sa_cons (se_var 4) (sa_cons se_int (sa_cons (se_sub (se_len Z.f_len (se_ix (se_var 0) se_int)) se_int) sa_nil))) (aCons_len (aCons_len (aCons_len aNil_len))) (Nat.le_of_ble_eq_true rfl))))))) (sw_or1 (st_not (st_tru (se_call h_is_ascending (sa_cons (se_var 2) sa_nil) (aCons_len aNil_len) (Nat.le_of_ble_eq_true rfl))))))) (ss_one (ss_ret se_bl)) ss_nil)
    (ss_one (ss_ret (se_and (se_call h__are_prices (sa_cons (se_var 0) (sa_cons (se_var 3) sa_nil)) (aCons_len (aCons_len aNil_len)) (Nat.le_of_ble_eq_true rfl)) (se_one (se_eq (se_call h_lots_cost (sa_cons (se_var 0) (sa_cons (se_var 2) sa_nil)) (aCons_len (aCons_len aNil_len)) (Nat.le_of_ble_eq_true rfl)) (se_sum Z.f_sum (se_var 3))))))))))
theorem ok_is_least_lots (Z : Fr G) (h_is_pair : Fn G 1 "is_pair" 1 D_is_pair) (h_is_between : Fn G 2 "is_between" 3 D_is_between) (h_is_ascending : Fn G 1 "is_ascending" 1 D_is_ascending) (h__are_prices : Fn G 2 "_are_prices" 2 D__are_prices) (h_lots_cost : Fn G 2 "lots_cost" 2 D_lots_cost) (F : Df G df_is_least_lots) : Fn G 3 "is_least_lots" 2 D_is_least_lots := by
  obtain ⟨fd, F, hg⟩ := F
  exact fn_mk F sc_is_least_lots hg (fun W => bd_is_least_lots Z h_is_pair h_is_between h_is_ascending h__are_prices h_lots_cost W) (fun _ _ _ _ _ _ us hl => match us, hl with | [_, _], _ => rfl)
noncomputable def S__law_cell : DS := (sSeq (sIf (tst (eBin ltD (eVar 1) (eCall fLen (aCons (eVar 0) aNil)))) (sRet (eBin ixD (eVar 0) (eVar 1))) sSkip)
    (sRet (eC (.int 0))))
noncomputable def D__law_cell : DF := runD 2 2 S__law_cell
theorem sc__law_cell : FnScope ["script", "k"] ["script", "k"] (defScope st__law_cell) := ⟨rfl, rfl, rfl, by decide +kernel, rfl, by decide +kernel, by decide +kernel⟩
theorem bd__law_cell (Z : Fr G) (W : XK) : SSs (G.cn ["script", "k"] (defScope st__law_cell) 0 W) (defBody st__law_cell) S__law_cell :=
  (ss_cons (ss_if (st_lt (se_var 1) (se_len Z.f_len (se_var 0))) (ss_one (ss_ret (se_ix (se_var 0) (se_var 1)))) ss_nil)
    (ss_one (ss_ret se_int)))
theorem ok__law_cell (Z : Fr G) (F : Df G df__law_cell) : Fn G 1 "_law_cell" 2 D__law_cell := by
  obtain ⟨fd, F, hg⟩ := F
  exact fn_mk F sc__law_cell hg (fun W => bd__law_cell Z W) (fun _ _ _ _ _ _ us hl => match us, hl with | [_, _], _ => rfl)
noncomputable def b__law_digits_1 : DS := (sIf (tst (eBin gtD (eVar 5) (eC (.int 0)))) (sSeq (sExpr (eAppend (eVar 3) (eBin iMod (eCall (f1 intD) (aCons (eVar 5) aNil)) (eC (.int 1000)))))
    (sSet 5 (eBin iFdiv (eVar 5) (eC (.int 1000))))) sSkip)
noncomputable def b__law_digits_2 : DS := (sSeq (sSet 7 (eBin iMod (eCall (f1 intD) (aCons (eBin addD (eBin addD (eBin iMul (eVar 7) (eC (.int 16807))) (eBin iMul (eC (.int 7)) (eVar 6))) (eC (.int 1))) aNil)) (eC (.int 2147483647))))
    (sExpr (eAppend (eVar 3) (eBin iMod (eCall (f1 intD) (aCons (eBin iFdiv (eVar 7) (eC (.int 997))) aNil)) (eC (.int 1000))))))
noncomputable def b__law_digits_3 : DS := (sSeq (sSet 5 (eCall D__law_cell (aCons (eVar 0) (aCons (eVar 4) aNil))))
    (sSeq (sIf (tst (eBin ltD (eVar 5) (eC (.int 0)))) (sSet 5 (eBin iSub (eC (.int 1)) (eBin iMul (eC (.int 2)) (eVar 5)))) sSkip)
    (sSeq (sIf (tst (eBin gtD (eCall fLen (aCons (eVar 3) aNil)) (eC (.int 1500)))) sBreak sSkip)
    (sIf (tst (eBin geD (eVar 5) (eBin iPow (eC (.int 10)) (eC (.int 18))))) (sFor (iRng1D (eC (.int 60))) (gVar 6) b__law_digits_1) (sSeq (sSet 7 (eBin iMod (eCall (f1 intD) (aCons (eBin addD (eBin addD (eBin iMul (eVar 5) (eC (.int 48271))) (eBin iMul (eVar 4) (eC (.int 69621)))) (eC (.int 11))) aNil)) (eC (.int 2147483647))))
    (sFor (iRng1D (eC (.int 12))) (gVar 6) b__law_digits_2))))))
noncomputable def S__law_digits : DS := (sSeq (sSet 3 (eLst aNil))
    (sSeq (sFor (iRng2D (eVar 1) (eVar 2)) (gVar 4) b__law_digits_3)
    (sRet (eVar 3))))
noncomputable def D__law_digits : DF := runD 8 3 S__law_digits
theorem sc__law_digits : FnScope ["script", "first", "last", "digits", "k", "cell", "step", "seed"] ["script", "first", "last"] (defScope st__law_digits) := ⟨rfl, rfl, rfl, by decide +kernel, rfl, by decide +kernel, by decide +kernel⟩
theorem bd__law_digits (Z : Fr G) (h__law_cell : Fn G 1 "_law_cell" 2 D__law_cell) (W : XK) : SSs (G.cn ["script", "first", "last", "digits", "k", "cell", "step", "seed"] (defScope st__law_digits) 1 W) (defBody st__law_digits) S__law_digits :=
  (ss_cons (ss_set 3 (se_lst sa_nil))
    (ss_cons (ss_for (si_range2 (se_var 1) (se_var 2) (hm := Z.f_range)) (sg_var 4) (ss_cons (ss_set 5 (se_call h__law_cell (sa_cons (se_var 0) (sa_cons (se_var 4) sa_nil)) (aCons_len (aCons_len aNil_len)) (Nat.le_of_ble_eq_true rfl)))
    (ss_cons (ss_if (st_lt (se_var 5) se_int) (ss_one (ss_set 5 (se_sub se_int (se_mul se_int (se_var 5))))) ss_nil)
    (ss_cons (ss_if (st_gt (se_len Z.f_len (se_var 3)) se_int) (ss_one ss_break) ss_nil)
    (ss_one (ss_if (st_ge (se_var 5) (se_pow se_int se_int)) (ss_one (ss_for (si_range1 se_int (hm := Z.f_range)) (sg_var 6) (ss_one (ss_if (st_gt (se_var 5) se_int) (ss_cons (ss_expr (se_append (se_var 3) (se_mod (se_intOf Z.f_int (se_var 5)) se_int)))
    (ss_one (ss_set 5 (se_fdiv (se_var 5) se_int)))) ss_nil)))) (ss_cons (ss_set 7 (se_mod (se_intOf Z.f_int (se_plus (se_plus (se_mul (se_var 5) se_int) (se_mul (se_var 4) se_int)) se_int)) se_int))
    (ss_one (ss_for (si_range1 se_int (hm := Z.f_range)) (sg_var 6) (ss_cons (ss_set 7 (se_mod (se_intOf Z.f_int (se_plus (se_plus (se_mul (se_var 7) se_int) (se_mul se_int (se_var 6))) se_int)) se_int))
    (ss_one (ss_expr (se_append (se_var 3) (se_mod (se_intOf Z.f_int (se_fdiv (se_var 7) se_int)) se_int))))))))))))))
    (ss_one (ss_ret (se_var 3)))))
theorem ok__law_digits (Z : Fr G) (h__law_cell : Fn G 1 "_law_cell" 2 D__law_cell) (F : Df G df__law_digits) : Fn G 2 "_law_digits" 3 D__law_digits := by
  obtain ⟨fd, F, hg⟩ := F
  exact fn_mk F sc__law_digits hg (fun W => bd__law_digits Z h__law_cell W) (fun _ _ _ _ _ _ us hl => match us, hl with | [_, _, _], _ => rfl)
noncomputable def S__law_draw : DS := (sSeq (sSet 2 (eBin ixD (eVar 0) (eC (.int 1))))
    (sSeq (sAsg (eBin addD (eVar 2) (eC (.int 1))) (gSetL (eVar 0) (eC (.int 1))))
    (sSeq (sIf (tst (eBin ltD (eVar 2) (eCall fLen (aCons (eBin ixD (eVar 0) (eC (.int 0))) aNil)))) (sRet (eBin iMod (eCall (f1 intD) (aCons (eBin ixD (eBin ixD (eVar 0) (eC (.int 0))) (eVar 2)) aNil)) (eVar 1))) sSkip)
    (sRet (eBin iMod (eCall (f1 intD) (aCons (eBin iMul (eVar 2) (eC (.int 7))) aNil)) (eVar 1))))))
noncomputable def D__law_draw : DF := runD 3 2 S__law_draw
theorem sc__law_draw : FnScope ["box", "many", "at"] ["box", "many"] (defScope st__law_draw) := ⟨rfl, rfl, rfl, by decide +kernel, rfl, by decide +kernel, by decide +kernel⟩
theorem bd__law_draw (Z : Fr G) (W : XK) : SSs (G.cn ["box", "many", "at"] (defScope st__law_draw) 0 W) (defBody st__law_draw) S__law_draw :=
  (ss_cons (ss_set 2 (se_ix (se_var 0) se_int))
    (ss_cons (ss_asg (se_plus (se_var 2) se_int) (sg_setL (se_var 0) se_int))
    (ss_cons (ss_if (st_lt (se_var 2) (se_len Z.f_len (se_ix (se_var 0) se_int))) (ss_one (ss_ret (se_mod (se_intOf Z.f_int (se_ix (se_ix (se_var 0) se_int) (se_var 2))) (se_var 1)))) ss_nil)
    (ss_one (ss_ret (se_mod (se_intOf Z.f_int (se_mul (se_var 2) se_int)) (se_var 1)))))))
theorem ok__law_draw (Z : Fr G) (F : Df G df__law_draw) : Fn G 1 "_law_draw" 2 D__law_draw := by
  obtain ⟨fd, F, hg⟩ := F
  exact fn_mk F sc__law_draw hg (fun W => bd__law_draw Z W) (fun _ _ _ _ _ _ us hl => match us, hl with | [_, _], _ => rfl)
noncomputable def c__law_like_1 (R_ : DF) : DE := (eComp (iRng1D (eCall fLen (aCons (eVar 1) aNil))) (gVar 2) (tNot' (tru (eCall R_ (aCons (eBin ixD (eVar 0) (eVar 2)) (aCons (eBin ixD (eVar 1) (eVar 2)) aNil))))) (eC (.int 1)) [2])
noncomputable def c__law_like_2 (R_ : DF) : DE := (gc (eBin eqD (c__law_like_1 R_) (eLst aNil)))
noncomputable def c__law_like_3 : DE := (gc (eJoin (eC (.str "")) (eLst (aCons (eVar 0) aNil))))
noncomputable def c__law_like_4 : DE := (gc (eBin eqD c__law_like_3 (eVar 1)))
noncomputable def S__law_like (R_ : DF) : DS := (sSeq (sIf (tru (eUn (isI "tuple") (eVar 1))) (sSeq (sIf (tOr' (tNot' (tru (eUn (isI "tuple") (eVar 0)))) (tst (eBin neD (eCall fLen (aCons (eVar 0) aNil)) (eCall fLen (aCons (eVar 1) aNil))))) (sRet (eC (.bl false))) sSkip)
    (sRet (c__law_like_2 R_))) sSkip)
    (sSeq (sIf (tst (eUn isN (eVar 1))) (sRet (eUn isN (eVar 0))) sSkip)
    (sSeq (sIf (tst (eUn (isBD true) (eVar 1))) (sRet (eUn (isBD true) (eVar 0))) sSkip)
    (sSeq (sIf (tst (eUn (isBD false) (eVar 1))) (sRet (eUn (isBD false) (eVar 0))) sSkip)
    (sSeq (sIf (tru (eUn (isI "str") (eVar 1))) (sRet (eAndV (eUn (isI "str") (eVar 0)) c__law_like_4)) sSkip)
    (sRet (eAndV (eUn (isI "int") (eVar 0)) (eAndV (eNotV (eUn (isI "bool") (eVar 0))) (eBin eqD (eVar 0) (eVar 1))))))))))
noncomputable def D__law_like : Nat → DF
  | 0 => dBad
  | j + 1 => runD 3 2 (S__law_like (D__law_like j))
theorem sc__law_like : FnScope ["told", "due", "k"] ["told", "due"] (defScope st__law_like) := ⟨rfl, rfl, rfl, by decide +kernel, rfl, by decide +kernel, by decide +kernel⟩
theorem bd__law_like (Z : Fr G) (j : Nat) (R_ : DF) (h_rec : Fn G (0 + j) "_law_like" 2 R_) (W : XK) : SSs (G.cn ["told", "due", "k"] (defScope st__law_like) (0 + j) W) (defBody st__law_like) (S__law_like R_) :=
  (ss_cons (ss_if (st_tru (se_isI "tuple" Z.f_isinstance Z.f_tuple (se_var 1))) (ss_cons (ss_if (SW.st (sw_or (st_not (st_tru (se_isI "tuple" Z.f_isinstance Z.f_tuple (se_var 0)))) (sw_or1 (st_ne (se_len Z.f_len (se_var 0)) (se_len Z.f_len (se_var 1)))))) (ss_one (ss_ret se_bl)) ss_nil)
    (ss_one (ss_ret (se_gc (se_eq (se_comp (own := [("k", 2)]) (si_range1 (se_len Z.f_len (se_var 1)) (hm := Z.f_range)) (blkOk_by (by kernel_rfl)) (sgv_var 2) (sts_one (st_not (st_tru (se_call h_rec (sa_cons (se_ix (se_var 0) (se_var 2)) (sa_cons (se_ix (se_var 1) (se_var 2)) sa_nil)) (aCons_len (aCons_len aNil_len)) (Nat.le_refl _))))) se_int) (se_lst sa_nil)))))) ss_nil)
    (ss_cons (ss_if (st_isN (se_var 1)) (ss_one (ss_ret (se_isN (se_var 0)))) ss_nil)
    (ss_cons (ss_if (st_isB (se_var 1)) (ss_one (ss_ret (se_isB (se_var 0)))) ss_nil)
    (ss_cons (ss_if (st_isB (se_var 1)) (ss_one (ss_ret (se_isB (se_var 0)))) ss_nil)
    (ss_cons (ss_if (st_tru (se_isI "str" Z.f_isinstance Z.f_str (se_var 1))) (ss_one (ss_ret (se_and (se_isI "str" Z.f_isinstance Z.f_str (se_var 0)) (se_one (se_gc (se_eq (se_gc (se_join se_str (se_lst (sa_cons (se_var 0) sa_nil)))) (se_var 1))))))) ss_nil)
    (ss_one (ss_ret (se_and (se_isI "int" Z.f_isinstance Z.f_int (se_var 0)) (se_and (se_not (se_isI "bool" Z.f_isinstance Z.f_bool (se_var 0))) (se_one (se_eq (se_var 0) (se_var 1))))))))))))
theorem ok__law_like (Z : Fr G) (F : Df G df__law_like) (j : Nat) : Fn G (0 + j) "_law_like" 2 (D__law_like j) := by
  obtain ⟨fd, F, hg⟩ := F
  induction j with
  | zero => exact fn_zero (ps := ["told", "due"]) F hg (fun _ _ _ _ _ _ us hl => match us, hl with | [_, _], _ => rfl)
  | succ j ih => exact fn_mk F sc__law_like hg (fun W => bd__law_like Z j (D__law_like j) ih W) (fun _ _ _ _ _ _ us hl => match us, hl with | [_, _], _ => rfl)
noncomputable def S__law_whole : DS := (sSeq (sIf (tOr' (tNot' (tru (eUn (isI "int") (eVar 0)))) (tru (eUn (isI "bool") (eVar 0)))) (sRet (eC (.bl false))) sSkip)
    (sRet (eAndV (eOrV (eUn isN (eVar 1)) (eBin leD (eVar 1) (eVar 0))) (eOrV (eUn isN (eVar 2)) (eBin leD (eVar 0) (eVar 2))))))
noncomputable def D__law_whole : DF := runD 3 3 S__law_whole
theorem sc__law_whole : FnScope ["thing", "low", "high"] ["thing", "low", "high"] (defScope st__law_whole) := ⟨rfl, rfl, rfl, by decide +kernel, rfl, by decide +kernel, by decide +kernel⟩
theorem bd__law_whole (Z : Fr G) (W : XK) : SSs (G.cn ["thing", "low", "high"] (defScope st__law_whole) 0 W) (defBody st__law_whole) S__law_whole :=
  (ss_cons (ss_if (SW.st (sw_or (st_not (st_tru (se_isI "int" Z.f_isinstance Z.f_int (se_var 0)))) (sw_or1 (st_tru (se_isI "bool" Z.f_isinstance Z.f_bool (se_var 0)))))) (ss_one (ss_ret se_bl)) ss_nil)
    (ss_one (ss_ret (se_and (se_or (se_isN (se_var 1)) (se_one (se_le (se_var 1) (se_var 0)))) (se_one (se_or (se_isN (se_var 2)) (se_one (se_le (se_var 0) (se_var 2)))))))))
theorem ok__law_whole (Z : Fr G) (F : Df G df__law_whole) : Fn G 1 "_law_whole" 3 D__law_whole := by
  obtain ⟨fd, F, hg⟩ := F
  exact fn_mk F sc__law_whole hg (fun W => bd__law_whole Z W) (fun _ _ _ _ _ _ us hl => match us, hl with | [_, _, _], _ => rfl)
noncomputable def c__law_subsets_1 : DE := (eComp (iAnyD (eVar 1)) (gVar 3) tYesD (eBin addD (eVar 3) (eTup (aCons (eVar 2) aNil))) [3])
noncomputable def b__law_subsets_1 : DS := (sSet 1 (eBin addD (eVar 1) c__law_subsets_1))
noncomputable def S__law_subsets : DS := (sSeq (sSet 1 (eLst (aCons (eTup aNil) aNil)))
    (sSeq (sFor (iAnyD (eVar 0)) (gVar 2) b__law_subsets_1)
    (sRet (eVar 1))))
noncomputable def D__law_subsets : DF := runD 4 1 S__law_subsets
theorem sc__law_subsets : FnScope ["names", "sets", "name", "some"] ["names"] (defScope st__law_subsets) := ⟨rfl, rfl, rfl, by decide +kernel, rfl, by decide +kernel, by decide +kernel⟩
theorem bd__law_subsets (Z : Fr G) (W : XK) : SSs (G.cn ["names", "sets", "name", "some"] (defScope st__law_subsets) 0 W) (defBody st__law_subsets) S__law_subsets :=
  (ss_cons (ss_set 1 (se_lst (sa_cons (se_tup sa_nil) sa_nil)))
    (ss_cons (ss_for (si_any (se_var 0)) (sg_var 2) (ss_one (ss_set 1 (se_plus (se_var 1) (se_comp (own := [("some", 3)]) (si_any (se_var 1)) (blkOk_by (by kernel_rfl)) (sgv_var 3) sts_nil (se_plus (se_var 3) (se_tup (sa_cons (se_var 2) sa_nil))))))))
    (ss_one (ss_ret (se_var 1)))))
theorem ok__law_subsets (Z : Fr G) (F : Df G df__law_subsets) : Fn G 1 "_law_subsets" 1 D__law_subsets := by
  obtain ⟨fd, F, hg⟩ := F
  exact fn_mk F sc__law_subsets hg (fun W => bd__law_subsets Z W) (fun _ _ _ _ _ _ us hl => match us, hl with | [_], _ => rfl)
noncomputable def c__law_ascending_1 : DE := (eComp (iRng2D (eC (.int 1)) (eCall fLen (aCons (eVar 0) aNil))) (gVar 1) (tst (eBin geD (eBin ixD (eVar 0) (eBin iSub (eVar 1) (eC (.int 1)))) (eBin ixD (eVar 0) (eVar 1)))) (eC (.int 1)) [1])
noncomputable def c__law_ascending_2 : DE := (gc (eBin eqD c__law_ascending_1 (eLst aNil)))
noncomputable def S__law_ascending : DS := (sRet c__law_ascending_2)
noncomputable def D__law_ascending : DF := runD 2 1 S__law_ascending
theorem sc__law_ascending : FnScope ["rows", "k"] ["rows"] (defScope st__law_ascending) := ⟨rfl, rfl, rfl, by decide +kernel, rfl, by decide +kernel, by decide +kernel⟩
theorem bd__law_ascending (Z : Fr G) (W : XK) : SSs (G.cn ["rows", "k"] (defScope st__law_ascending) 0 W) (defBody st__law_ascending) S__law_ascending :=
  (ss_one (ss_ret (se_gc (se_eq (se_comp (own := [("k", 1)]) (si_range2 se_int (se_len Z.f_len (se_var 0)) (hm := Z.f_range)) (blkOk_by (by kernel_rfl)) (sgv_var 1) (sts_one (st_ge (se_ix (se_var 0) (se_sub (se_var 1) se_int)) (se_ix (se_var 0) (se_var 1)))) se_int) (se_lst sa_nil)))))
theorem ok__law_ascending (Z : Fr G) (F : Df G df__law_ascending) : Fn G 1 "_law_ascending" 1 D__law_ascending := by
  obtain ⟨fd, F, hg⟩ := F
  exact fn_mk F sc__law_ascending hg (fun W => bd__law_ascending Z W) (fun _ _ _ _ _ _ us hl => match us, hl with | [_], _ => rfl)
noncomputable def c__law_other_1 : DE := (eComp (iRng1D (eCall fLen (aCons (eVar 1) aNil))) (gVar 3) tYesD (eBin ixD (eVar 1) (eBin iSub (eBin iSub (eCall fLen (aCons (eVar 1) aNil)) (eC (.int 1))) (eVar 3))) [3])
noncomputable def c__law_other_2 : DE := (gc (eCall (f1 tupD) (aCons c__law_other_1 aNil)))
noncomputable def S__law_other : DS := (sSeq (sIf (tru (eUn (isI "tuple") (eVar 1))) (sSeq (sSet 2 c__law_other_2)
    (sRet (eBin ixD (eLst (aCons (eCall (f1 listD) (aCons (eVar 1) aNil)) (aCons (eBin addD (eVar 1) (eSl (eVar 1) oNone (oSome (eC (.int 1))))) (aCons (eSl (eVar 1) (oSome (eC (.int 1))) oNone) (aCons (eC .non) (aCons (eTup aNil) (aCons (eVar 2) aNil))))))) (eCall D__law_draw (aCons (eVar 0) (aCons (eC (.int 6)) aNil)))))) sSkip)
    (sSeq (sIf (tru (eUn (isI "str") (eVar 1))) (sRet (eBin ixD (eLst (aCons (eC (.str "j0")) (aCons (eC (.str "j1")) (aCons (eC (.str "j2")) (aCons (eC (.str "s0")) (aCons (eC (.str "jobs")) (aCons (eC (.str "two")) (aCons (eC (.str "full")) (aCons (eC (.str "A")) (aCons (eC (.str "")) (aCons (eC (.str "x y")) (aCons (eC .non) (aCons (eC (.str "j9")) aNil))))))))))))) (eCall D__law_draw (aCons (eVar 0) (aCons (eC (.int 12)) aNil))))) sSkip)
    (sSeq (sIf (tst (eUn isN (eVar 1))) (sRet (eBin ixD (eLst (aCons (eC (.int 0)) (aCons (eC (.str "")) (aCons (eTup aNil) aNil)))) (eCall D__law_draw (aCons (eVar 0) (aCons (eC (.int 3)) aNil))))) sSkip)
    (sRet (eBin ixD (eLst (aCons (eBin addD (eVar 1) (eC (.int 1))) (aCons (eBin iSub (eVar 1) (eC (.int 1))) (aCons (eBin iSub (eC (.int 0)) (eVar 1)) (aCons (eC (.bl true)) (aCons (eC .non) (aCons (eC (.int 0)) (aCons (eC (.int 100)) aNil)))))))) (eCall D__law_draw (aCons (eVar 0) (aCons (eC (.int 7)) aNil))))))))
noncomputable def D__law_other : DF := runD 4 2 S__law_other
theorem sc__law_other : FnScope ["box", "thing", "behind", "k"] ["box", "thing"] (defScope st__law_other) := ⟨rfl, rfl, rfl, by decide +kernel, rfl, by decide +kernel, by decide +kernel⟩
theorem bd__law_other (Z : Fr G) (h__law_draw : Fn G 1 "_law_draw" 2 D__law_draw) (W : XK) : SSs (G.cn ["box", "thing", "behind", "k"] (defScope st__law_other) 1 W) (defBody st__law_other) S__law_other :=
  (ss_cons (ss_if (st_tru (se_isI "tuple" Z.f_isinstance Z.f_tuple (se_var 1))) (ss_cons (ss_set 2 (se_gc (se_tuple Z.f_tuple (se_comp (own := [("k", 3)]) (si_range1 (se_len Z.f_len (se_var 1)) (hm := Z.f_range)) (blkOk_by (by kernel_rfl)) (sgv_var 3) sts_nil (se_ix (se_var 1) (se_sub (se_sub (se_len Z.f_len (se_var 1)) se_int) (se_var 3)))))))
    (ss_one (ss_ret (se_ix (se_lst (sa_cons (se_list Z.f_list (se_var 1)) (sa_cons (se_plus (se_var 1) (se_slice (se_var 1) so_none (so_some se_int))) (sa_cons (se_slice (se_var 1) (so_some se_int) so_none) (sa_cons se_non (sa_cons (se_tup sa_nil) (sa_cons (se_var 2) sa_nil))))))) (se_call h__law_draw (sa_cons (se_var 0) (sa_cons se_int sa_nil)) (aCons_len (aCons_len aNil_len)) (Nat.le_of_ble_eq_true rfl)))))) ss_nil)
    (ss_cons (ss_if (st_tru (se_isI "str" Z.f_isinstance Z.f_str (se_var 1))) (ss_one (ss_ret (se_ix (se_lst (sa_cons se_str (sa_cons se_str (sa_cons se_str (sa_cons se_str (sa_cons se_str (sa_cons se_str (sa_cons se_str (sa_cons se_str (sa_cons se_str (sa_cons se_str (sa_cons se_non (sa_cons se_str sa_nil))))))))))))) (se_call h__law_draw (sa_cons (se_var 0) (sa_cons se_int sa_nil)) (aCons_len (aCons_len aNil_len)) (Nat.le_of_ble_eq_true rfl))))) ss_nil)
    (ss_cons (ss_if (st_isN (se_var 1)) (ss_one (ss_ret (se_ix (se_lst (sa_cons se_int (sa_cons se_str (sa_cons (se_tup sa_nil) sa_nil)))) (se_call h__law_draw (sa_cons (se_var 0) (sa_cons se_int sa_nil)) (aCons_len (aCons_len aNil_len)) (Nat.le_of_ble_eq_true rfl))))) ss_nil)
    (ss_one (ss_ret (se_ix (se_lst (sa_cons (se_plus (se_var 1) se_int) (sa_cons (se_sub (se_var 1) se_int) (sa_cons (se_sub se_int (se_var 1)) (sa_cons se_bl (sa_cons se_non (sa_cons se_int (sa_cons se_int sa_nil)))))))) (se_call h__law_draw (sa_cons (se_var 0) (sa_cons se_int sa_nil)) (aCons_len (aCons_len aNil_len)) (Nat.le_of_ble_eq_true rfl))))))))
theorem ok__law_other (Z : Fr G) (h__law_draw : Fn G 1 "_law_draw" 2 D__law_draw) (F : Df G df__law_other) : Fn G 2 "_law_other" 2 D__law_other := by
  obtain ⟨fd, F, hg⟩ := F
  exact fn_mk F sc__law_other hg (fun W => bd__law_other Z h__law_draw W) (fun _ _ _ _ _ _ us hl => match us, hl with | [_, _], _ => rfl)
noncomputable def S__law_changed (R_ : DF) : DS := (sSeq (sIf (tOr' (tNot' (tru (eUn (isI "tuple") (eVar 1)))) (tOr' (tst (eBin eqD (eVar 1) (eTup aNil))) (tst (eBin eqD (eCall D__law_draw (aCons (eVar 0) (aCons (eC (.int 9)) aNil))) (eC (.int 0)))))) (sRet (eCall D__law_other (aCons (eVar 0) (aCons (eVar 1) aNil)))) sSkip)
    (sSeq (sSet 2 (eBin iMod (eCall D__law_draw (aCons (eVar 0) (aCons (eC (.int 900)) aNil))) (eCall fLen (aCons (eVar 1) aNil))))
    (sRet (eBin addD (eBin addD (eSl (eVar 1) oNone (oSome (eVar 2))) (eTup (aCons (eCall R_ (aCons (eVar 0) (aCons (eBin ixD (eVar 1) (eVar 2)) aNil))) aNil))) (eSl (eVar 1) (oSome (eBin addD (eVar 2) (eC (.int 1)))) oNone)))))
noncomputable def D__law_changed : Nat → DF
  | 0 => dBad
  | j + 1 => runD 3 2 (S__law_changed (D__law_changed j))
theorem sc__law_changed : FnScope ["box", "thing", "at"] ["box", "thing"] (defScope st__law_changed) := ⟨rfl, rfl, rfl, by decide +kernel, rfl, by decide +kernel, by decide +kernel⟩
theorem bd__law_changed (Z : Fr G) (h__law_draw : Fn G 1 "_law_draw" 2 D__law_draw) (h__law_other : Fn G 2 "_law_other" 2 D__law_other) (j : Nat) (R_ : DF) (h_rec : Fn G (2 + j) "_law_changed" 2 R_) (W : XK) : SSs (G.cn ["box", "thing", "at"] (defScope st__law_changed) (2 + j) W) (defBody st__law_changed) (S__law_changed R_) :=
  (ss_cons (ss_if (SW.st (sw_or (st_not (st_tru (se_isI "tuple" Z.f_isinstance Z.f_tuple (se_var 1)))) (sw_or (st_eq (se_var 1) (se_tup sa_nil)) (sw_or1 (st_eq (se_call h__law_draw (sa_cons (se_var 0) (sa_cons se_int sa_nil)) (aCons_len (aCons_len aNil_len)) (Nat.le_trans (Nat.le_of_ble_eq_true rfl) (Nat.le_add_right _ _))) se_int))))) (ss_one (ss_ret (se_call h__law_other (sa_cons (se_var 0) (sa_cons (se_var 1) sa_nil)) (aCons_len (aCons_len aNil_len)) (Nat.le_trans (Nat.le_of_ble_eq_true rfl) (Nat.le_add_right _ _))))) ss_nil)
    (ss_cons (ss_set 2 (se_mod (se_call h__law_draw (sa_cons (se_var 0) (sa_cons se_int sa_nil)) (aCons_len (aCons_len aNil_len)) (Nat.le_trans (Nat.le_of_ble_eq_true rfl) (Nat.le_add_right _ _))) (se_len Z.f_len (se_var 1))))
    (ss_one (ss_ret (se_plus (se_plus (se_slice (se_var 1) so_none (so_some (se_var 2))) (se_tup (sa_cons (se_call h_rec (sa_cons (se_var 0) (sa_cons (se_ix (se_var 1) (se_var 2)) sa_nil)) (aCons_len (aCons_len aNil_len)) (Nat.le_refl _)) sa_nil))) (se_slice (se_var 1) (so_some (se_plus (se_var 2) se_int)) so_none))))))
theorem ok__law_changed (Z : Fr G) (h__law_draw : Fn G 1 "_law_draw" 2 D__law_draw) (h__law_other : Fn G 2 "_law_other" 2 D__law_other) (F : Df G df__law_changed) (j : Nat) : Fn G (2 + j) "_law_changed" 2 (D__law_changed j) := by
  obtain ⟨fd, F, hg⟩ := F
  induction j with
  | zero => exact fn_zero (ps := ["box", "thing"]) F hg (fun _ _ _ _ _ _ us hl => match us, hl with | [_, _], _ => rfl)
  | succ j ih => exact fn_mk F sc__law_changed hg (fun W => bd__law_changed Z h__law_draw h__law_other j (D__law_changed j) ih W) (fun _ _ _ _ _ _ us hl => match us, hl with | [_, _], _ => rfl)
noncomputable def b__law_is_lots_1 : DS := (sIf (tOr' (tNot' (tru (eUn (isI "tuple") (eVar 1)))) (tOr' (tst (eBin neD (eCall fLen (aCons (eVar 1) aNil)) (eC (.int 3)))) (tOr' (tNot' (tru (eCall D__law_whole (aCons (eBin ixD (eVar 1) (eC (.int 0))) (aCons (eC (.int 0)) (aCons (eC (.int 99)) aNil)))))) (tOr' (tNot' (tru (eCall D__law_whole (aCons (eBin ixD (eVar 1) (eC (.int 1))) (aCons (eC (.int 0)) (aCons (eC (.int 999)) aNil)))))) (tNot' (tru (eCall D__law_whole (aCons (eBin ixD (eVar 1) (eC (.int 2))) (aCons (eC (.int 0)) (aCons (eC (.int 99)) aNil)))))))))) (sRet (eC (.bl false))) sSkip)
noncomputable def S__law_is_lots : DS := (sSeq (sIf (tOr' (tNot' (tru (eUn (isI "tuple") (eVar 0)))) (tOr' (tst (eBin neD (eCall fLen (aCons (eVar 0) aNil)) (eC (.int 2)))) (tOr' (tNot' (tru (eCall (D__law_like 10) (aCons (eBin ixD (eVar 0) (eC (.int 0))) (aCons (eC (.str "lots")) aNil))))) (tOr' (tNot' (tru (eUn (isI "tuple") (eBin ixD (eVar 0) (eC (.int 1)))))) (tNot' (tst (eChain leD leD (eC (.int 1)) (eCall fLen (aCons (eBin ixD (eVar 0) (eC (.int 1))) aNil)) (eC (.int 12))))))))) (sRet (eC (.bl false))) sSkip)
    (sSeq (sFor (iAnyD (eBin ixD (eVar 0) (eC (.int 1)))) (gVar 1) b__law_is_lots_1)
    (sRet (eC (.bl true)))))
noncomputable def D__law_is_lots : DF := runD 2 1 S__law_is_lots
theorem sc__law_is_lots : FnScope ["thing", "row"] ["thing"] (defScope st__law_is_lots) := ⟨rfl, rfl, rfl, by decide +kernel, rfl, by decide +kernel, by decide +kernel⟩
theorem bd__law_is_lots (Z : Fr G) (h__law_like : Fn G 10 "_law_like" 2 (D__law_like 10)) (h__law_whole : Fn G 1 "_law_whole" 3 D__law_whole) (W : XK) : SSs (G.cn ["thing", "row"] (defScope st__law_is_lots) 10 W) (defBody st__law_is_lots) S__law_is_lots :=
  (ss_cons (ss_if (SW.st (sw_or (st_not (st_tru (se_isI "tuple" Z.f_isinstance Z.f_tuple (se_var 0)))) (sw_or (st_ne (se_len Z.f_len (se_var 0)) se_int) (sw_or (st_not (st_tru (se_call h__law_like (sa_cons (se_ix (se_var 0) se_int) (sa_cons se_str sa_nil)) (aCons_len (aCons_len aNil_len)) (Nat.le_of_ble_eq_true rfl)))) (sw_or (st_not (st_tru (se_isI "tuple" Z.f_isinstance Z.f_tuple (se_ix (se_var 0) se_int)))) (sw_or1 (st_not (st_chain or_leD or_leD bd_leD bd_leD se_int (se_len Z.f_len (se_ix (se_var 0) se_int)) se_int)))))))) (ss_one (ss_ret se_bl)) ss_nil)
    (ss_cons (ss_for (si_any (se_ix (se_var 0) se_int)) (sg_var 1) (ss_one (ss_if (SW.st (sw_or (st_not (st_tru (se_isI "tuple" Z.f_isinstance Z.f_tuple (se_var 1)))) (sw_or (st_ne (se_len Z.f_len (se_var 1)) se_int) (sw_or (st_not (st_tru (se_call h__law_whole (sa_cons (se_ix (se_var 1) se_int) (sa_cons se_int (sa_cons se_int sa_nil))) (aCons_len (aCons_len (aCons_len aNil_len))) (Nat.le_of_ble_eq_true rfl)))) (sw_or (st_not (st_tru (se_call h__law_whole (sa_cons (se_ix (se_var 1) se_int) (sa_cons se_int (sa_cons se_int sa_nil))) (aCons_len (aCons_len (aCons_len aNil_len))) (Nat.le_of_ble_eq_true rfl)))) (sw_or1 (st_not (st_tru (se_call h__law_whole (sa_cons (se_ix (se_var 1) se_int) (sa_cons se_int (sa_cons se_int sa_nil))) (aCons_len (aCons_len (aCons_len aNil_len))) (Nat.le_of_ble_eq_true rfl)))))))))) (ss_one (ss_ret se_bl)) ss_nil)))
    (ss_one (ss_ret se_bl))))
theorem ok__law_is_lots (Z : Fr G) (h__law_like : Fn G 10 "_law_like" 2 (D__law_like 10)) (h__law_whole : Fn G 1 "_law_whole" 3 D__law_whole) (F : Df G df__law_is_lots) : Fn G 11 "_law_is_lots" 1 D__law_is_lots := by
  obtain ⟨fd, F, hg⟩ := F
  exact fn_mk F sc__law_is_lots hg (fun W => bd__law_is_lots Z h__law_like h__law_whole W) (fun _ _ _ _ _ _ us hl => match us, hl with | [_], _ => rfl)
noncomputable def c__law_kept_1 : DE := (eComp (iRng2D (eVar 1) (eVar 2)) (gVar 3) tYesD (eBin ixD (eBin ixD (eBin ixD (eVar 0) (eC (.int 1))) (eVar 3)) (eC (.int 2))) [3])
noncomputable def c__law_kept_2 : DE := (gc (eCall (f1 sumD) (aCons c__law_kept_1 aNil)))
noncomputable def S__law_kept : DS := (sRet (eBin iMul (eBin ixD (eBin ixD (eBin ixD (eVar 0) (eC (.int 1))) (eVar 2)) (eC (.int 0))) c__law_kept_2))
noncomputable def D__law_kept : DF := runD 4 3 S__law_kept
theorem sc__law_kept : FnScope ["lots", "first", "last", "day"] ["lots", "first", "last"] (defScope st__law_kept) := ⟨rfl, rfl, rfl, by decide +kernel, rfl, by decide +kernel, by decide +kernel⟩
theorem bd__law_kept (Z : Fr G) (W : XK) : SSs (G.cn ["lots", "first", "last", "day"] (defScope st__law_kept) 0 W) (defBody st__law_kept) S__law_kept :=
  (ss_one (ss_ret (se_mul (se_ix (se_ix (se_ix (se_var 0) se_int) (se_var 2)) se_int) (se_gc (se_sum Z.f_sum (se_comp (own := [("day", 3)]) (si_range2 (se_var 1) (se_var 2) (hm := Z.f_range)) (blkOk_by (by kernel_rfl)) (sgv_var 3) sts_nil (se_ix (se_ix (se_ix (se_var 0) se_int) (se_var 3)) se_int)))))))
theorem ok__law_kept (Z : Fr G) (F : Df G df__law_kept) : Fn G 1 "_law_kept" 3 D__law_kept := by
  obtain ⟨fd, F, hg⟩ := F
  exact fn_mk F sc__law_kept hg (fun W => bd__law_kept Z W) (fun _ _ _ _ _ _ us hl => match us, hl with | [_, _, _], _ => rfl)
noncomputable def c__law_cost_1 : DE := (eComp (iAnyD (eVar 1)) (gVar 3) tYesD (eBin ixD (eBin ixD (eBin ixD (eVar 0) (eC (.int 1))) (eVar 3)) (eC (.int 1))) [3])
noncomputable def c__law_cost_2 : DE := (gc (eCall (f1 sumD) (aCons c__law_cost_1 aNil)))
noncomputable def c__law_cost_3 : DE := (eComp (iAnyD (eVar 1)) (gVar 5) (tst (eBin leD (eVar 5) (eVar 3))) (eVar 5) [5])
noncomputable def t__law_cost_1 : DT := (gcT (tst (eBin eqD (eVar 4) (eLst aNil))))
noncomputable def b__law_cost_1 : DS := (sIf (tst (eBin gtD (eBin ixD (eBin ixD (eBin ixD (eVar 0) (eC (.int 1))) (eVar 3)) (eC (.int 0))) (eC (.int 0)))) (sSeq (sSet 4 c__law_cost_3)
    (sSeq (sIf t__law_cost_1 (sRet (eC .non)) sSkip)
    (sSet 2 (eBin addD (eVar 2) (eCall D__law_kept (aCons (eVar 0) (aCons (eBin ixD (eVar 4) (eUn negD (eC (.int 1)))) (aCons (eVar 3) aNil)))))))) sSkip)
noncomputable def S__law_cost : DS := (sSeq (sSet 2 c__law_cost_2)
    (sSeq (sFor (iRng1D (eCall fLen (aCons (eBin ixD (eVar 0) (eC (.int 1))) aNil))) (gVar 3) b__law_cost_1)
    (sRet (eVar 2))))
noncomputable def D__law_cost : DF := runD 6 2 S__law_cost
theorem sc__law_cost : FnScope ["lots", "made", "total", "day", "ahead", "other"] ["lots", "made"] (defScope st__law_cost) := ⟨rfl, rfl, rfl, by decide +kernel, rfl, by decide +kernel, by decide +kernel⟩
theorem bd__law_cost (Z : Fr G) (h__law_kept : Fn G 1 "_law_kept" 3 D__law_kept) (W : XK) : SSs (G.cn ["lots", "made", "total", "day", "ahead", "other"] (defScope st__law_cost) 1 W) (defBody st__law_cost) S__law_cost :=
  (ss_cons (ss_set 2 (se_gc (se_sum Z.f_sum (se_comp (own := [("day", 3)]) (si_any (se_var 1)) (blkOk_by (by kernel_rfl)) (sgv_var 3) sts_nil (se_ix (se_ix (se_ix (se_var 0) se_int) (se_var 3)) se_int)))))
    (ss_cons (ss_for (si_range1 (se_len Z.f_len (se_ix (se_var 0) se_int)) (hm := Z.f_range)) (sg_var 3) (ss_one (ss_if (st_gt (se_ix (se_ix (se_ix (se_var 0) se_int) (se_var 3)) se_int) se_int) (ss_cons (ss_setLc 4 (own := [("other", 5)]) (si_any (se_var 1)) (blkOk_by (by kernel_rfl)) (sgv_var 5) (sts_one (st_le (se_var 5) (se_var 3))) (se_var 5) (hsw := sw_yes))
    (ss_cons (ss_if (st_gc (st_eq (se_var 4) (se_lst sa_nil))) (ss_one (ss_ret se_non)) ss_nil)
    (ss_one (ss_set 2 (se_plus (se_var 2) (se_call h__law_kept (sa_cons (se_var 0) (sa_cons (se_ix (se_var 4) (se_neg se_int)) (sa_cons (se_var 3) sa_nil))) (aCons_len (aCons_len (aCons_len aNil_len))) (Nat.le_of_ble_eq_true rfl))))))) ss_nil)))
    (ss_one (ss_ret (se_var 2)))))
theorem ok__law_cost (Z : Fr G) (h__law_kept : Fn G 1 "_law_kept" 3 D__law_kept) (F : Df G df__law_cost) : Fn G 2 "_law_cost" 2 D__law_cost := by
  obtain ⟨fd, F, hg⟩ := F
  exact fn_mk F sc__law_cost hg (fun W => bd__law_cost Z h__law_kept W) (fun _ _ _ _ _ _ us hl => match us, hl with | [_, _], _ => rfl)
noncomputable def c__law_paper_1 : DE := (eComp (iAnyD (eBin ixD (eVar 1) (eC (.int 0)))) (gVar 3) (tNot' (tru (eCall D__law_whole (aCons (eVar 3) (aCons (eC (.int 0)) (aCons (eBin iSub (eVar 2) (eC (.int 1))) aNil)))))) (eC (.int 1)) [3])
noncomputable def t__law_paper_1 : DT := (gcT (tst (eBin neD c__law_paper_1 (eLst aNil))))
noncomputable def c__law_paper_2 : DE := (eComp (iAnyD (eBin ixD (eVar 1) (eC (.int 1)))) (gVar 5) (tNot' (tru (eCall D__law_whole (aCons (eVar 5) (aCons (eC (.int 0)) (aCons (eC .non) aNil)))))) (eC (.int 1)) [5])
noncomputable def t__law_paper_2 : DT := (gcT (tst (eBin neD c__law_paper_2 (eLst aNil))))
noncomputable def c__law_paper_3 : DE := (eComp (iRng1D (eVar 2)) (gVar 3) (tAnd' (tst (eBin eqD (eBin ixD (eBin ixD (eBin ixD (eVar 0) (eC (.int 1))) (eVar 3)) (eC (.int 0))) (eC (.int 0)))) (tst (eBin neD (eBin ixD (eBin ixD (eVar 1) (eC (.int 1))) (eVar 3)) (eC (.int 0))))) (eC (.int 1)) [3])
noncomputable def t__law_paper_3 : DT := (gcT (tst (eBin neD c__law_paper_3 (eLst aNil))))
noncomputable def c__law_paper_4 : DE := (eComp (iRng2D (eVar 3) (eVar 2)) (gVar 6) tYesD (eCall (f2 max2D) (aCons (eC (.int 0)) (aCons (eBin iSub (eBin ixD (eBin ixD (eVar 1) (eC (.int 1))) (eVar 6)) (eCall D__law_kept (aCons (eVar 0) (aCons (eVar 3) (aCons (eVar 6) aNil))))) aNil))) [6])
noncomputable def c__law_paper_5 : DE := (gc (eCall (f1 sumD) (aCons c__law_paper_4 aNil)))
noncomputable def t__law_paper_4 : DT := (gcT (tst (eBin gtD c__law_paper_5 (eBin ixD (eBin ixD (eBin ixD (eVar 0) (eC (.int 1))) (eVar 3)) (eC (.int 1))))))
noncomputable def b__law_paper_1 : DS := (sIf t__law_paper_4 (sRet (eC (.bl false))) sSkip)
noncomputable def S__law_paper : DS := (sSeq (sSet 2 (eCall fLen (aCons (eBin ixD (eVar 0) (eC (.int 1))) aNil)))
    (sSeq (sIf (tOr' (tNot' (tru (eUn (isI "tuple") (eVar 1)))) (tOr' (tst (eBin neD (eCall fLen (aCons (eVar 1) aNil)) (eC (.int 2)))) (tOr' (tNot' (tru (eUn (isI "tuple") (eBin ixD (eVar 1) (eC (.int 0)))))) (tOr' (tNot' (tru (eUn (isI "tuple") (eBin ixD (eVar 1) (eC (.int 1)))))) (tst (eBin neD (eCall fLen (aCons (eBin ixD (eVar 1) (eC (.int 1))) aNil)) (eVar 2))))))) (sRet (eC (.bl false))) sSkip)
    (sSeq (sIf (tOr' t__law_paper_1 (tOr' (tNot' (tru (eCall D__law_ascending (aCons (eBin ixD (eVar 1) (eC (.int 0))) aNil)))) t__law_paper_2)) (sRet (eC (.bl false))) sSkip)
    (sSeq (sIf t__law_paper_3 (sRet (eC (.bl false))) sSkip)
    (sSeq (sFor (iRng1D (eVar 2)) (gVar 3) b__law_paper_1)
    (sSeq (sSet 4 (eCall D__law_cost (aCons (eVar 0) (aCons (eBin ixD (eVar 1) (eC (.int 0))) aNil))))
    (sRet (eAndV (eUn notN (eVar 4)) (eBin eqD (eVar 4) (eCall (f1 sumD) (aCons (eBin ixD (eVar 1) (eC (.int 1))) aNil)))))))))))
noncomputable def D__law_paper : DF := runD 7 2 S__law_paper
theorem sc__law_paper : FnScope ["lots", "thing", "many", "day", "cost", "price", "later"] ["lots", "thing"] (defScope st__law_paper) := ⟨rfl, rfl, rfl, by decide +kernel, rfl, by decide +kernel, by decide +kernel⟩
theorem bd__law_paper (Z : Fr G) (h__law_whole : Fn G 1 "_law_whole" 3 D__law_whole) (h__law_ascending : Fn G 1 "_law_ascending" 1 D__law_ascending) (h__law_kept : Fn G 1 "_law_kept" 3 D__law_kept) (h__law_cost : Fn G 2 "_law_cost" 2 D__law_cost) (W : XK) : SSs (G.cn ["lots", "thing", "many", "day", "cost", "price", "later"] (defScope st__law_paper) 2 W) (defBody st__law_paper) S__law_paper :=
  (ss_cons (ss_set 2 (se_len Z.f_len (se_ix (se_var 0) se_int)))
    (ss_cons (ss_if (SW.st (sw_or (st_not (st_tru (se_isI "tuple" Z.f_isinstance Z.f_tuple (se_var 1)))) (sw_or (st_ne (se_len Z.f_len (se_var 1)) se_int) (sw_or (st_not (st_tru (se_isI "tuple" Z.f_isinstance Z.f_tuple (se_ix (se_var 1) se_int)))) (sw_or (st_not (st_tru (se_isI "tuple" Z.f_isinstance Z.f_tuple (se_ix (se_var 1) se_int)))) (sw_or1 (st_ne (se_len Z.f_len (se_ix (se_var 1) se_int)) (se_var 2)))))))) (ss_one (ss_ret se_bl)) ss_nil)
    (ss_cons (ss_if (SW.st (sw_or (st_gc (st_ne (se_comp (own := [("day", 3)]) (si_any (se_ix (se_var 1) se_int)) (blkOk_by (by kernel_rfl)) (sgv_var 3) (sts_one (st_not (st_tru (se_call h__law_whole (sa_cons (se_var 3) (sa_cons se_int (sa_cons (se_sub (se_var 2) se_int) sa_nil))) (aCons_len (aCons_len (aCons_len aNil_len))) (Nat.le_of_ble_eq_true rfl))))) se_int) (se_lst sa_nil))) (sw_or (st_not (st_tru (se_call h__law_ascending (sa_cons (se_ix (se_var 1) se_int) sa_nil) (aCons_len aNil_len) (Nat.le_of_ble_eq_true rfl)))) (sw_or1 (st_gc (st_ne (se_comp (own := [("price", 5)]) (si_any (se_ix (se_var 1) se_int)) (blkOk_by (by kernel_rfl)) (sgv_var 5) (sts_one (st_not (st_tru (se_call h__law_whole (sa_cons (se_var 5) (sa_cons se_int (sa_cons se_non sa_nil))) (aCons_len (aCons_len (aCons_len aNil_len))) (Nat.le_of_ble_eq_true rfl))))) se_int) (se_lst sa_nil))))))) (ss_one (ss_ret se_bl)) ss_nil)
    (ss_cons (ss_if (st_gc (st_ne (se_comp (own := [("day", 3)]) (si_range1 (se_var 2) (hm := Z.f_range)) (blkOk_by (by kernel_rfl)) (sgv_var 3) (sts_one (SW.st (sw_and (st_eq (se_ix (se_ix (se_ix (se_var 0) se_int) (se_var 3)) se_int) se_int) (sw_and1 (st_ne (se_ix (se_ix (se_var 1) se_int) (se_var 3)) se_int))))) se_int) (se_lst sa_nil))) (ss_one (ss_ret se_bl)) ss_nil)
    (ss_cons (ss_for (si_range1 (se_var 2) (hm := Z.f_range)) (sg_var 3) (ss_one (ss_if (st_gc (st_gt (se_gc (se_sum Z.f_sum (se_comp (own := [("later", 6)]) (si_range2 (se_var 3) (se_var 2) (hm := Z.f_range)) (blkOk_by (by kernel_rfl)) (sgv_var 6) sts_nil (se_max2 Z.f_max se_int (se_sub (se_ix (se_ix (se_var 1) se_int) (se_var 6)) (se_call h__law_kept (sa_cons (se_var 0) (sa_cons (se_var 3) (sa_cons (se_var 6) sa_nil))) (aCons_len (aCons_len (aCons_len aNil_len))) (Nat.le_of_ble_eq_true rfl))))))) (se_ix (se_ix (se_ix (se_var 0) se_int) (se_var 3)) se_int))) (ss_one (ss_ret se_bl)) ss_nil)))
    (ss_cons (ss_set 4 (se_call h__law_cost (sa_cons (se_var 0) (sa_cons (se_ix (se_var 1) se_int) sa_nil)) (aCons_len (aCons_len aNil_len)) (Nat.le_of_ble_eq_true rfl)))
    (ss_one (ss_ret (se_and (se_notN (se_var 4)) (se_one (se_eq (se_var 4) (se_sum Z.f_sum (se_ix (se_var 1) se_int)))))))))))))
theorem ok__law_paper (Z : Fr G) (h__law_whole : Fn G 1 "_law_whole" 3 D__law_whole) (h__law_ascending : Fn G 1 "_law_ascending" 1 D__law_ascending) (h__law_kept : Fn G 1 "_law_kept" 3 D__law_kept) (h__law_cost : Fn G 2 "_law_cost" 2 D__law_cost) (F : Df G df__law_paper) : Fn G 3 "_law_paper" 2 D__law_paper := by
  obtain ⟨fd, F, hg⟩ := F
  exact fn_mk F sc__law_paper hg (fun W => bd__law_paper Z h__law_whole h__law_ascending h__law_kept h__law_cost W) (fun _ _ _ _ _ _ us hl => match us, hl with | [_, _], _ => rfl)
noncomputable def c_law_1 : DE := (eComp (iRng1D (eBin addD (eC (.int 1)) (eCall D__law_draw (aCons (eVar 1) (aCons (eC (.int 7)) aNil))))) (gVar 11) tYesD (eTup (aCons (eBin ixD (eLst (aCons (eC (.int 0)) (aCons (eC (.int 1)) (aCons (eC (.int 2)) (aCons (eC (.int 3)) (aCons (eC (.int 5)) aNil)))))) (eCall D__law_draw (aCons (eVar 1) (aCons (eC (.int 5)) aNil)))) (aCons (eCall D__law_draw (aCons (eVar 1) (aCons (eC (.int 12)) aNil))) (aCons (eCall D__law_draw (aCons (eVar 1) (aCons (eC (.int 4)) aNil))) aNil)))) [11])
noncomputable def c_law_2 : DE := (gc (eCall (f1 tupD) (aCons c_law_1 aNil)))
noncomputable def c_law_3 : DE := (eComp (iAnyD (eCall D__law_subsets (aCons (eVar 6) aNil))) (gVar 9) tYesD (eCall D__law_cost (aCons (eVar 4) (aCons (eVar 9) aNil))) [9])
noncomputable def c_law_4 : DE := (eComp (iAnyD (eVar 7)) (gVar 12) (tst (eUn notN (eVar 12))) (eVar 12) [12])
noncomputable def c_law_5 : DE := (gc (eCall (f1 (bestD PySem.W.minD)) (aCons c_law_4 aNil)))
noncomputable def t_law_1 : DT := (gcT (tst (eBin neD (eCall D__law_cost (aCons (eVar 4) (aCons (eBin ixD (eVar 5) (eC (.int 0))) aNil))) c_law_5)))
noncomputable def c_law_6 : DE := (eComp (iAnyD (eVar 6)) (gVar 13) (tst (eBin eqD (eCall D__law_draw (aCons (eVar 1) (aCons (eC (.int 2)) aNil))) (eC (.int 0)))) (eVar 13) [13])
noncomputable def c_law_7 : DE := (gc (eCall (f1 tupD) (aCons c_law_6 aNil)))
noncomputable def b_law_1 : DS := (sSeq (sSet 9 c_law_7)
    (sSeq (sIf (tNot' (tru (eCall (D__law_like 10) (aCons (eCall D_lots_cost (aCons (eVar 4) (aCons (eVar 9) aNil))) (aCons (eCall D__law_cost (aCons (eVar 4) (aCons (eVar 9) aNil))) aNil))))) (sRet (eC (.bl false))) sSkip)
    (sSeq (sIf (tNot' (tru (eCall (D__law_like 10) (aCons (eCall D_is_least_lots (aCons (eVar 4) (aCons (eTup (aCons (eVar 9) (aCons (eBin ixD (eVar 5) (eC (.int 1))) aNil))) aNil))) (aCons (eCall D__law_paper (aCons (eVar 4) (aCons (eTup (aCons (eVar 9) (aCons (eBin ixD (eVar 5) (eC (.int 1))) aNil))) aNil))) aNil))))) (sRet (eC (.bl false))) sSkip)
    (sSeq (sSet 10 (eCall (D__law_changed 10) (aCons (eVar 1) (aCons (eVar 5) aNil))))
    (sSeq (sIf (tNot' (tru (eCall (D__law_like 10) (aCons (eCall D_is_least_lots (aCons (eVar 4) (aCons (eVar 10) aNil))) (aCons (eCall D__law_paper (aCons (eVar 4) (aCons (eVar 10) aNil))) aNil))))) (sRet (eC (.bl false))) sSkip)
    (sSeq (sSet 10 (eIf (tst (eBin gtD (eVar 8) (eC (.int 0)))) (eCall (D__law_changed 10) (aCons (eVar 1) (aCons (eVar 4) aNil))) (eVar 4)))
    (sIf (tNot' (tru (eCall (D__law_like 10) (aCons (eCall D_is_lots (aCons (eVar 10) aNil)) (aCons (eCall D__law_is_lots (aCons (eVar 10) aNil)) aNil))))) (sRet (eC (.bl false))) sSkip)))))))
noncomputable def b_law_2 : DS := (sSeq (sSet 3 c_law_2)
    (sSeq (sSet 4 (eTup (aCons (eC (.str "lots")) (aCons (eVar 3) aNil))))
    (sSeq (sPar 5 6 (aCons (eCall D_least_lots (aCons (eVar 4) aNil)) (aCons (eLstRg (dRg1 (eCall fLen (aCons (eVar 3) aNil)))) aNil)))
    (sSeq (sIf (tOr' (tNot' (tru (eCall D__law_paper (aCons (eVar 4) (aCons (eVar 5) aNil))))) (tst (eUn (notBD true) (eCall D_is_least_lots (aCons (eVar 4) (aCons (eVar 5) aNil)))))) (sRet (eC (.bl false))) sSkip)
    (sSeq (sSet 7 c_law_3)
    (sSeq (sIf t_law_1 (sRet (eC (.bl false))) sSkip)
    (sFor (iRng1D (eC (.int 5))) (gVar 8) b_law_1)))))))
noncomputable def S_law : DS := (sSeq (sSet 1 (eLst (aCons (eCall D__law_digits (aCons (eVar 0) (aCons (eC (.int 0)) (aCons (eC (.int 63)) aNil)))) (aCons (eC (.int 0)) aNil))))
    (sSeq (sFor (iRng1D (eC (.int 2))) (gVar 2) b_law_2)
    (sRet (eC (.bl true)))))
noncomputable def D_law : DF := runD 14 1 S_law
theorem sc_law : FnScope ["script", "box", "turn", "rows", "lots", "told", "days", "costs", "step", "some", "thing", "k", "cost", "day"] ["script"] (defScope st_law) := ⟨rfl, rfl, rfl, by decide +kernel, rfl, by decide +kernel, by decide +kernel⟩
theorem bd_law (Z : Fr G) (h__law_digits : Fn G 2 "_law_digits" 3 D__law_digits) (h__law_draw : Fn G 1 "_law_draw" 2 D__law_draw) (h_least_lots : Fn G 4 "least_lots" 1 D_least_lots) (h__law_paper : Fn G 3 "_law_paper" 2 D__law_paper) (h_is_least_lots : Fn G 3 "is_least_lots" 2 D_is_least_lots) (h__law_subsets : Fn G 1 "_law_subsets" 1 D__law_subsets) (h__law_cost : Fn G 2 "_law_cost" 2 D__law_cost) (h__law_like : Fn G 10 "_law_like" 2 (D__law_like 10)) (h_lots_cost : Fn G 2 "lots_cost" 2 D_lots_cost) (h__law_changed : Fn G 12 "_law_changed" 2 (D__law_changed 10)) (h__law_is_lots : Fn G 11 "_law_is_lots" 1 D__law_is_lots) (h_is_lots : Fn G 4 "is_lots" 1 D_is_lots) (W : XK) : SSs (G.cn ["script", "box", "turn", "rows", "lots", "told", "days", "costs", "step", "some", "thing", "k", "cost", "day"] (defScope st_law) 12 W) (defBody st_law) S_law :=
  (ss_cons (ss_set 1 (se_lst (sa_cons (se_call h__law_digits (sa_cons (se_var 0) (sa_cons se_int (sa_cons se_int sa_nil))) (aCons_len (aCons_len (aCons_len aNil_len))) (Nat.le_of_ble_eq_true rfl)) (sa_cons se_int sa_nil))))
    (ss_cons (ss_for (si_range1 se_int (hm := Z.f_range)) (sg_var 2) (ss_cons (ss_set 3 (se_gc (se_tuple Z.f_tuple (se_comp (own := [("k", 11)]) (si_range1 (se_plus se_int (se_call h__law_draw (sa_cons (se_var 1) (sa_cons se_int sa_nil)) (aCons_len (aCons_len aNil_len)) (Nat.le_of_ble_eq_true rfl))) (hm := Z.f_range)) (blkOk_by (by kernel_rfl)) (sgv_var 11) sts_nil (se_tup (sa_cons (se_ix (se_lst (sa_cons se_int (sa_cons se_int (sa_cons se_int (sa_cons se_int (sa_cons se_int sa_nil)))))) (se_call h__law_draw (sa_cons (se_var 1) (sa_cons se_int sa_nil)) (aCons_len (aCons_len aNil_len)) (Nat.le_of_ble_eq_true rfl))) (sa_cons (se_call h__law_draw (sa_cons (se_var 1) (sa_cons se_int sa_nil)) (aCons_len (aCons_len aNil_len)) (Nat.le_of_ble_eq_true rfl)) (sa_cons (se_call h__law_draw (sa_cons (se_var 1) (sa_cons se_int sa_nil)) (aCons_len (aCons_len aNil_len)) (Nat.le_of_ble_eq_true rfl)) sa_nil))))))))
    (ss_cons (ss_set 4 (se_tup (sa_cons se_str (sa_cons (se_var 3) sa_nil))))
    (ss_cons (ss_par 5 6 (sa_cons (se_call h_least_lots (sa_cons (se_var 4) sa_nil) (aCons_len aNil_len) (Nat.le_of_ble_eq_true rfl)) (sa_cons (se_listRg Z.f_list (srg_1 (se_len Z.f_len (se_var 3)) Z.f_range)) sa_nil)) (hw := by rintro ⟨⟩ h; cases h; rfl))
    (ss_cons (ss_if (SW.st (sw_or (st_not (st_tru (se_call h__law_paper (sa_cons (se_var 4) (sa_cons (se_var 5) sa_nil)) (aCons_len (aCons_len aNil_len)) (Nat.le_of_ble_eq_true rfl)))) (sw_or1 (st_notB (se_call h_is_least_lots (sa_cons (se_var 4) (sa_cons (se_var 5) sa_nil)) (aCons_len (aCons_len aNil_len)) (Nat.le_of_ble_eq_true rfl)))))) (ss_one (ss_ret se_bl)) ss_nil)
    (ss_cons (ss_setLc 7 (own := [("some", 9)]) (si_any (se_call h__law_subsets (sa_cons (se_var 6) sa_nil) (aCons_len aNil_len) (Nat.le_of_ble_eq_true rfl))) (blkOk_by (by kernel_rfl)) (sgv_var 9) sts_nil (se_call h__law_cost (sa_cons (se_var 4) (sa_cons (se_var 9) sa_nil)) (aCons_len (aCons_len aNil_len)) (Nat.le_of_ble_eq_true rfl)) (hsw := sw_yes))
    (ss_cons (ss_if (st_gc (st_ne (se_call h__law_cost (sa_cons (se_var 4) (sa_cons (se_ix (se_var 5) se_int) sa_nil)) (aCons_len (aCons_len aNil_len)) (Nat.le_of_ble_eq_true rfl)) (se_gc (se_minL Z.f_min (se_comp (own := [("cost", 12)]) (si_any (se_var 7)) (blkOk_by (by kernel_rfl)) (sgv_var 12) (sts_one (st_notN (se_var 12))) (se_var 12)))))) (ss_one (ss_ret se_bl)) ss_nil)
    (ss_one (ss_for (si_range1 se_int (hm := Z.f_range)) (sg_var 8) (ss_cons (ss_set 9 (se_gc (se_tuple Z.f_tuple (se_comp (own := [("day", 13)]) (si_any (se_var 6)) (blkOk_by (by kernel_rfl)) (sgv_var 13) (sts_one (st_eq (se_call h__law_draw (sa_cons (se_var 1) (sa_cons se_int sa_nil)) (aCons_len (aCons_len aNil_len)) (Nat.le_of_ble_eq_true rfl)) se_int)) (se_var 13)))))
    (ss_cons (ss_if (st_not (st_tru (se_call h__law_like (sa_cons (se_call h_lots_cost (sa_cons (se_var 4) (sa_cons (se_var 9) sa_nil)) (aCons_len (aCons_len aNil_len)) (Nat.le_of_ble_eq_true rfl)) (sa_cons (se_call h__law_cost (sa_cons (se_var 4) (sa_cons (se_var 9) sa_nil)) (aCons_len (aCons_len aNil_len)) (Nat.le_of_ble_eq_true rfl)) sa_nil)) (aCons_len (aCons_len aNil_len)) (Nat.le_of_ble_eq_true rfl)))) (ss_one (ss_ret se_bl)) ss_nil)
    (ss_cons (ss_if (st_not (st_tru (se_call h__law_like (sa_cons (se_call h_is_least_lots (sa_cons (se_var 4) (sa_cons (se_tup (sa_cons (se_var 9) (sa_cons (se_ix (se_var 5) se_int) sa_nil))) sa_nil)) (aCons_len (aCons_len aNil_len)) (Nat.le_of_ble_eq_true rfl)) (sa_cons (se_call h__law_paper (sa_cons (se_var 4) (sa_cons (se_tup (sa_cons (se_var 9) (sa_cons (se_ix (se_var 5) se_int) sa_nil))) sa_nil)) (aCons_len (aCons_len aNil_len)) (Nat.le_of_ble_eq_true rfl)) sa_nil)) (aCons_len (aCons_len aNil_len)) (Nat.le_of_ble_eq_true rfl)))) (ss_one (ss_ret se_bl)) ss_nil)
    (ss_cons (ss_set 10 (se_call h__law_changed (sa_cons (se_var 1) (sa_cons (se_var 5) sa_nil)) (aCons_len (aCons_len aNil_len)) (Nat.le_of_ble_eq_true rfl)))
    (ss_cons (ss_if (st_not (st_tru (se_call h__law_like (sa_cons (se_call h_is_least_lots (sa_cons (se_var 4) (sa_cons (se_var 10) sa_nil)) (aCons_len (aCons_len aNil_len)) (Nat.le_of_ble_eq_true rfl)) (sa_cons (se_call h__law_paper (sa_cons (se_var 4) (sa_cons (se_var 10) sa_nil)) (aCons_len (aCons_len aNil_len)) (Nat.le_of_ble_eq_true rfl)) sa_nil)) (aCons_len (aCons_len aNil_len)) (Nat.le_of_ble_eq_true rfl)))) (ss_one (ss_ret se_bl)) ss_nil)
    (ss_cons (ss_set 10 (se_ifExp (st_gt (se_var 8) se_int) (se_call h__law_changed (sa_cons (se_var 1) (sa_cons (se_var 4) sa_nil)) (aCons_len (aCons_len aNil_len)) (Nat.le_of_ble_eq_true rfl)) (se_var 4)))
    (ss_one (ss_if (st_not (st_tru (se_call h__law_like (sa_cons (se_call h_is_lots (sa_cons (se_var 10) sa_nil) (aCons_len aNil_len) (Nat.le_of_ble_eq_true rfl)) (sa_cons (se_call h__law_is_lots (sa_cons (se_var 10) sa_nil) (aCons_len aNil_len) (Nat.le_of_ble_eq_true rfl)) sa_nil)) (aCons_len (aCons_len aNil_len)) (Nat.le_of_ble_eq_true rfl)))) (ss_one (ss_ret se_bl)) ss_nil)))))))))))))))))
    (ss_one (ss_ret se_bl))))
theorem law_body (w : World) (K : PySem.W.Frag) (mg : Str → Option Value) (base : Heap) (h1 : K.In base) (h2 : base.Ns mainGlobals mg) (c : He.SaysD hfa hfn K) (W : XK) : SSs ((⟨hR.prog, w, K, mg, base⟩ : Sg).cn ["script", "box", "turn", "rows", "lots", "told", "days", "costs", "step", "some", "thing", "k", "cost", "day"] (defScope st_law) 12 W) (defBody st_law) S_law := by
  have Z : Fr ⟨hR.prog, w, K, mg, base⟩ := ⟨He.free_ok h1 h2 (c.fact 27 (f := .free "all") rfl), He.free_ok h1 h2 (c.fact 28 (f := .free "any") rfl), He.free_ok h1 h2 (c.fact 29 (f := .free "bool") rfl), He.free_ok h1 h2 (c.fact 30 (f := .free "enumerate") rfl), He.free_ok h1 h2 (c.fact 31 (f := .free "int") rfl), He.free_ok h1 h2 (c.fact 32 (f := .free "isinstance") rfl), He.free_ok h1 h2 (c.fact 33 (f := .free "len") rfl), He.free_ok h1 h2 (c.fact 34 (f := .free "list") rfl), He.free_ok h1 h2 (c.fact 35 (f := .free "max") rfl), He.free_ok h1 h2 (c.fact 36 (f := .free "min") rfl), He.free_ok h1 h2 (c.fact 37 (f := .free "range") rfl), He.free_ok h1 h2 (c.fact 38 (f := .free "reversed") rfl), He.free_ok h1 h2 (c.fact 39 (f := .free "str") rfl), He.free_ok h1 h2 (c.fact 40 (f := .free "sum") rfl), He.free_ok h1 h2 (c.fact 41 (f := .free "tuple") rfl), He.free_ok h1 h2 (c.fact 42 (f := .free "zip") rfl), He.int_ok h1 h2 (c.fact 43 (f := .int "MOST_DAYS" 12) rfl), He.int_ok h1 h2 (c.fact 46 (f := .int "MOST_HOLD" 99) rfl), He.int_ok h1 h2 (c.fact 45 (f := .int "MOST_SETUP" 999) rfl), He.int_ok h1 h2 (c.fact 44 (f := .int "MOST_WANT" 99) rfl)⟩
  have h_is_whole := ok_is_whole Z (let ⟨fd, F⟩ := c.def_ 0 (d := df_is_whole) rfl; ⟨fd, F, He.glo_ok h1 h2 (c.fact 0 (f := .glo "is_whole") rfl)⟩)
  have h_is_between := ok_is_between Z h_is_whole (let ⟨fd, F⟩ := c.def_ 1 (d := df_is_between) rfl; ⟨fd, F, He.glo_ok h1 h2 (c.fact 1 (f := .glo "is_between") rfl)⟩)
  have h_is_pair := ok_is_pair Z (let ⟨fd, F⟩ := c.def_ 2 (d := df_is_pair) rfl; ⟨fd, F, He.glo_ok h1 h2 (c.fact 2 (f := .glo "is_pair") rfl)⟩)
  have h_is_ascending := ok_is_ascending Z (let ⟨fd, F⟩ := c.def_ 3 (d := df_is_ascending) rfl; ⟨fd, F, He.glo_ok h1 h2 (c.fact 3 (f := .glo "is_ascending") rfl)⟩)
  have h__is_day_row := ok__is_day_row Z h_is_between (let ⟨fd, F⟩ := c.def_ 4 (d := df__is_day_row) rfl; ⟨fd, F, He.glo_ok h1 h2 (c.fact 4 (f := .glo "_is_day_row") rfl)⟩)
  have h_is_lots := ok_is_lots Z h__is_day_row (let ⟨fd, F⟩ := c.def_ 5 (d := df_is_lots) rfl; ⟨fd, F, He.glo_ok h1 h2 (c.fact 5 (f := .glo "is_lots") rfl)⟩)
  have h__kept := ok__kept Z (let ⟨fd, F⟩ := c.def_ 6 (d := df__kept) rfl; ⟨fd, F, He.glo_ok h1 h2 (c.fact 6 (f := .glo "_kept") rfl)⟩)
  have h_lots_cost := ok_lots_cost Z h__kept (let ⟨fd, F⟩ := c.def_ 7 (d := df_lots_cost) rfl; ⟨fd, F, He.glo_ok h1 h2 (c.fact 7 (f := .glo "lots_cost") rfl)⟩)
  have h__from := ok__from Z h__kept (let ⟨fd, F⟩ := c.def_ 9 (d := df__from) rfl; ⟨fd, F, He.glo_ok h1 h2 (c.fact 9 (f := .glo "_from") rfl)⟩)
  have h__least_costs := ok__least_costs Z h__from (let ⟨fd, F⟩ := c.def_ 8 (d := df__least_costs) rfl; ⟨fd, F, He.glo_ok h1 h2 (c.fact 8 (f := .glo "_least_costs") rfl)⟩)
  have h_least_lots := ok_least_lots Z h__least_costs (let ⟨fd, F⟩ := c.def_ 10 (d := df_least_lots) rfl; ⟨fd, F, He.glo_ok h1 h2 (c.fact 10 (f := .glo "least_lots") rfl)⟩)
  have h__are_prices := ok__are_prices Z h_is_whole h__kept (let ⟨fd, F⟩ := c.def_ 11 (d := df__are_prices) rfl; ⟨fd, F, He.glo_ok h1 h2 (c.fact 11 (f := .glo "_are_prices") rfl)⟩)
  have h_is_least_lots := ok_is_least_lots Z h_is_pair h_is_between h_is_ascending h__are_prices h_lots_cost (let ⟨fd, F⟩ := c.def_ 12 (d := df_is_least_lots) rfl; ⟨fd, F, He.glo_ok h1 h2 (c.fact 12 (f := .glo "is_least_lots") rfl)⟩)
  have h__law_cell := ok__law_cell Z (let ⟨fd, F⟩ := c.def_ 13 (d := df__law_cell) rfl; ⟨fd, F, He.glo_ok h1 h2 (c.fact 13 (f := .glo "_law_cell") rfl)⟩)
  have h__law_digits := ok__law_digits Z h__law_cell (let ⟨fd, F⟩ := c.def_ 14 (d := df__law_digits) rfl; ⟨fd, F, He.glo_ok h1 h2 (c.fact 14 (f := .glo "_law_digits") rfl)⟩)
  have h__law_draw := ok__law_draw Z (let ⟨fd, F⟩ := c.def_ 15 (d := df__law_draw) rfl; ⟨fd, F, He.glo_ok h1 h2 (c.fact 15 (f := .glo "_law_draw") rfl)⟩)
  have h__law_like := ok__law_like Z (let ⟨fd, F⟩ := c.def_ 16 (d := df__law_like) rfl; ⟨fd, F, He.glo_ok h1 h2 (c.fact 16 (f := .glo "_law_like") rfl)⟩) 10
  have h__law_whole := ok__law_whole Z (let ⟨fd, F⟩ := c.def_ 17 (d := df__law_whole) rfl; ⟨fd, F, He.glo_ok h1 h2 (c.fact 17 (f := .glo "_law_whole") rfl)⟩)
  have h__law_subsets := ok__law_subsets Z (let ⟨fd, F⟩ := c.def_ 18 (d := df__law_subsets) rfl; ⟨fd, F, He.glo_ok h1 h2 (c.fact 18 (f := .glo "_law_subsets") rfl)⟩)
  have h__law_ascending := ok__law_ascending Z (let ⟨fd, F⟩ := c.def_ 19 (d := df__law_ascending) rfl; ⟨fd, F, He.glo_ok h1 h2 (c.fact 19 (f := .glo "_law_ascending") rfl)⟩)
  have h__law_other := ok__law_other Z h__law_draw (let ⟨fd, F⟩ := c.def_ 20 (d := df__law_other) rfl; ⟨fd, F, He.glo_ok h1 h2 (c.fact 20 (f := .glo "_law_other") rfl)⟩)
  have h__law_changed := ok__law_changed Z h__law_draw h__law_other (let ⟨fd, F⟩ := c.def_ 21 (d := df__law_changed) rfl; ⟨fd, F, He.glo_ok h1 h2 (c.fact 21 (f := .glo "_law_changed") rfl)⟩) 10
  have h__law_is_lots := ok__law_is_lots Z h__law_like h__law_whole (let ⟨fd, F⟩ := c.def_ 22 (d := df__law_is_lots) rfl; ⟨fd, F, He.glo_ok h1 h2 (c.fact 22 (f := .glo "_law_is_lots") rfl)⟩)
  have h__law_kept := ok__law_kept Z (let ⟨fd, F⟩ := c.def_ 23 (d := df__law_kept) rfl; ⟨fd, F, He.glo_ok h1 h2 (c.fact 23 (f := .glo "_law_kept") rfl)⟩)
  have h__law_cost := ok__law_cost Z h__law_kept (let ⟨fd, F⟩ := c.def_ 24 (d := df__law_cost) rfl; ⟨fd, F, He.glo_ok h1 h2 (c.fact 24 (f := .glo "_law_cost") rfl)⟩)
  have h__law_paper := ok__law_paper Z h__law_whole h__law_ascending h__law_kept h__law_cost (let ⟨fd, F⟩ := c.def_ 25 (d := df__law_paper) rfl; ⟨fd, F, He.glo_ok h1 h2 (c.fact 25 (f := .glo "_law_paper") rfl)⟩)
  exact bd_law Z h__law_digits h__law_draw h_least_lots h__law_paper h_is_least_lots h__law_subsets h__law_cost h__law_like h_lots_cost h__law_changed h__law_is_lots h_is_lots W
theorem from_law (T : ∀ ns : List Int, ns.length ≤ 63 → ∃ m, runD 14 1 S_law [.ref 0] [.rol (ns.map DV.int)] = .ok (.bl true) m) : PySem.Challenge.rw_shoplands_k22_whole_lots.Holds :=
  holds_of 12 ⟨rfl, by decide, by decide⟩ ["script", "box", "turn", "rows", "lots", "told", "days", "costs", "step", "some", "thing", "k", "cost", "day"] S_law sc_law law_body T
end
end My

end
section
set_option Elab.async false
set_option linter.all false
set_option maxRecDepth 100000
set_option maxHeartbeats 4000000
set_option autoImplicit false
namespace My
open PySem PySem.Spec L2 DL
abbrev Row := Int × Int × Int
def rowAt (rows : List Row) (l : Nat) : Row := rows.getD l (0, 0, 0)
def encR (r : Row) : DV := .tup [.int r.1, .int r.2.1, .int r.2.2]
def encL (rows : List Row) : DV := .tup [.str "lots", .tup (rows.map encR)]
def hs (rows : List Row) (f l : Nat) : Int := (((rows.drop f).take (l - f)).map (·.2.2)).sum
def want (rows : List Row) (l : Nat) : Int := (rowAt rows l).1
def setup (rows : List Row) (l : Nat) : Int := (rowAt rows l).2.1
def kept (rows : List Row) (f l : Nat) : Int := want rows l * hs rows f l
structure Okr (rows : List Row) : Prop where
  len : rows.length ≤ 1000
  bnd : ∀ r ∈ rows, 0 ≤ r.1 ∧ r.1 < 1000 ∧ 0 ≤ r.2.1 ∧ 0 ≤ r.2.2
theorem row_at {rows : List Row} {l : Nat} (h : l < rows.length) : (rows.map encR)[l]? = some (encR (rowAt rows l)) := by
  simp [rowAt, List.getElem?_map, List.getElem?_eq_getElem h, List.getD_eq_getElem?_getD]
theorem row_mem {rows : List Row} {l : Nat} (h : l < rows.length) : rowAt rows l ∈ rows := by
  simp [rowAt, List.getD_eq_getElem?_getD, List.getElem?_eq_getElem h]
theorem filt_all {α : Type} (xs : List α) : xs.filter (fun _ => true) = xs := List.filter_eq_self.mpr fun _ _ => rfl
@[simp] theorem ix_L (rows : List Row) (m : Mem) : ixD (encL rows) (.int 1) m = .ok (.tup (rows.map encR)) m := by simp [encL]
@[simp] theorem ix_R0 (r : Row) (m : Mem) : ixD (encR r) (.int 0) m = .ok (.int r.1) m := by simp [encR]
@[simp] theorem ix_R1 (r : Row) (m : Mem) : ixD (encR r) (.int 1) m = .ok (.int r.2.1) m := by simp [encR]
@[simp] theorem ix_R2 (r : Row) (m : Mem) : ixD (encR r) (.int 2) m = .ok (.int r.2.2) m := by simp [encR]
theorem ix_rows {rows : List Row} {l : Nat} (h : l < rows.length) (m : Mem) : ixD (.tup (rows.map encR)) (.int (l : Int)) m = .ok (encR (rowAt rows l)) m := by
  rw [ixD_tup, DL.atI_nat, row_at h]
theorem loR (r : Row) (n : Nat) : (encR r).lo n := ⟨trivial, trivial, trivial, trivial⟩
theorem loL (rows : List Row) (n : Nat) : (encL rows).lo n := ⟨trivial, loAll_iff.mpr (fun d hd => by obtain ⟨r, _, rfl⟩ := List.mem_map.mp hd; exact loR r n), trivial⟩
theorem kept_eq {rows : List Row} (ok : Okr rows) {f l : Nat} (hl : l < rows.length) (m : Mem) : D__kept [encL rows, .int (f : Int), .int (l : Int)] m = .ok (.int (kept rows f l)) m := by
  refine run_pure rfl ?_ trivial
  have hc : ∀ m, c__kept_2 [some (encL rows), some (.int (f : Int)), some (.int (l : Int)), none] m = .ok (.int (hs rows f l)) m := fun m => by
    have := ok.len
    refine (comp_sum (m1 := m) (gs := []) (xs := (rows.drop f).take (l - f)) (g := encR) (fun _ => true) (fun r => r.2.2) ?_ (guard_nil m) (by simp; omega) (Grow.refl m) ?_).trans (by rw [filt_all]; rfl)
    · rw [iAny_tup (eSl_tup (ds := rows.map encR) (a := some (f : Int)) (b := some (l : Int)) (by simp) (by simp [oSome]) (by simp [oSome])), cutL_nat]
      simp [List.map_take, List.map_drop]
    · intro x _ m' _
      simp
  have := ok.bnd _ (row_mem hl)
  simp [S__kept, envOf, hc, ix_rows hl]
  exact ⟨.inl ⟨by omega, by omega⟩, rfl, Grow.refl m⟩
/-- the plain data of rows -/
def dat (rows : List Row) : Lots.LD := ⟨rows.length, want rows, setup rows, fun t => ((rows.take t).map (·.2.2)).sum⟩
theorem hs_eq (rows : List Row) {f l : Nat} (h : f ≤ l) : hs rows f l = (dat rows).P l - (dat rows).P f := by
  have e : rows.take l = rows.take f ++ (rows.drop f).take (l - f) := by
    conv => lhs; rw [show l = f + (l - f) by omega]
    exact List.take_add ..
  show _ = ((rows.take l).map (·.2.2)).sum - ((rows.take f).map (·.2.2)).sum
  rw [e, List.map_append, List.sum_append]
  unfold hs; omega
theorem kept_K (rows : List Row) {f l : Nat} (h : f ≤ l) : kept rows f l = (dat rows).K f l := by unfold kept Lots.LD.K; rw [hs_eq rows h]; rfl
theorem dat_ok {rows : List Row} (ok : Okr rows) : (dat rows).Ok := by
  have r0 : ∀ l, 0 ≤ (rowAt rows l).1 ∧ 0 ≤ (rowAt rows l).2.1 ∧ 0 ≤ (rowAt rows l).2.2 := fun l => by
    by_cases h : l < rows.length
    · have := ok.bnd _ (row_mem h); exact ⟨by omega, by omega, by omega⟩
    · have : rowAt rows l = (0, 0, 0) := by simp [rowAt, List.getD_eq_getElem?_getD, List.getElem?_eq_none (Nat.le_of_not_lt h)]
      rw [this]; simp
  refine ⟨fun t => (r0 t).1, fun t => (r0 t).2.1, fun t => ?_⟩
  show ((rows.take t).map (·.2.2)).sum ≤ ((rows.take (t + 1)).map (·.2.2)).sum
  by_cases h : t < rows.length
  · rw [List.take_add_one, List.getElem?_eq_getElem h, List.map_append, List.sum_append]
    have := ok.bnd _ (List.getElem_mem h)
    simp; omega
  · rw [List.take_of_length_le (by omega), List.take_of_length_le (by omega)]; exact Int.le_refl _
def encD (made : List Nat) : DV := .tup (made.map fun (x : Nat) => .int (x : Int))
theorem sum_rs (g : Nat → Int) (i : Nat) : ((List.range (i + 1)).map g).sum = ((List.range i).map g).sum + g i := by rw [List.range_succ]; simp
theorem lots_cost_eq {rows : List Row} (ok : Okr rows) {made : List Nat} (hl : made.length ≤ 1000) (hm : ∀ x ∈ made, x < rows.length) (hc : ∀ u, u < rows.length → 0 < want rows u → ∃ x ∈ made, x ≤ u) (m : Mem) :
    D_lots_cost [encL rows, encD made] m = .ok (.int (Lots.cost (dat rows) made rows.length)) m := by
  refine run_pure rfl ?_ trivial
  have c2 : ∀ m, c_lots_cost_2 [some (encL rows), some (encD made), none, none, none, none, none] m = .ok (.int (made.map (setup rows)).sum) m := fun m => by
    refine (comp_sum (m1 := m) (gs := []) (xs := made) (g := fun x => .int (x : Int)) (fun _ => true) (setup rows) ?_ (guard_nil m) (by omega) (Grow.refl m) ?_).trans (by rw [filt_all])
    · rw [iAny_tup (m1 := m) (ds := made.map fun (x : Nat) => .int (x : Int)) (by simp [encD])]
    · intro x hx m' _
      simp [ix_rows (hm x hx), setup]
  have c3 : ∀ (day : Nat) x2 x4 x5 m, c_lots_cost_3 [some (encL rows), some (encD made), x2, some (.int (day : Int)), x4, x5, none] m = .ok (.ref m.length) (m ++ [.lst ((made.filter fun x => decide (x ≤ day)).map fun (x : Nat) => .int (x : Int))]) := fun day x2 x4 x5 m => by
    refine comp_pure (gs := []) (xs := made) (g := fun x => .int (x : Int)) (fun x => decide (x ≤ day)) (fun (x : Nat) => .int (x : Int)) ?_ (guard_nil m) (by omega) ?_
    · rw [iAny_tup (m1 := m) (ds := made.map fun (x : Nat) => .int (x : Int)) (by simp [encD])]
    · intro x hx m' _
      simp [tst]
  simp [S_lots_cost, envOf, c2]
  refine sFor_inv (fun _ i env m' => ∃ x3 x4 x5, env = [some (encL rows), some (encD made), some (.int ((made.map (setup rows)).sum + ((List.range i).map fun u => (dat rows).K (Lots.lastOf made u) u).sum)), x3, x4, x5, none] ∧ Grow m m') ?_
  rw [iEnum_tup (m1 := m) (ds := rows.map encR) (by simp)]
  simp only [sat_ok]
  refine ⟨⟨none, none, none, by simp, Grow.refl m⟩, fun i env m' _ => guard_nil m', ?_, ?_⟩
  · rintro i d env m' hd ⟨x3, x4, x5, rfl, hg⟩
    obtain ⟨r, hr, rfl⟩ := enm_get hd
    have hi : i < rows.length := by have := (List.getElem?_eq_some_iff.mp hr).1; simpa using this
    rw [row_at hi] at hr
    cases hr
    simp only [Nat.zero_add]
    simp [b_lots_cost_1]
    by_cases hw : 0 < (rowAt rows i).1
    · have hw2 : 0 < want rows i := hw
      rw [if_pos hw, c3]
      obtain ⟨x, hx, hxi⟩ := hc i hi hw
      have hne : (made.filter fun x => decide (x ≤ i)) ≠ [] := by
        intro e
        have : x ∈ made.filter fun x => decide (x ≤ i) := List.mem_filter.mpr ⟨hx, by simpa using hxi⟩
        rw [e] at this; cases this
      generalize he : (made.filter fun x => decide (x ≤ i)) = ah at hne
      have hlast : Lots.lastOf made i = ah.getLast hne := by
        unfold Lots.lastOf; rw [he, List.getLast?_eq_some_getLast hne]; rfl
      have hle : Lots.lastOf made i ≤ i := by
        rw [hlast]
        have : ah.getLast hne ∈ made.filter fun x => decide (x ≤ i) := by rw [he]; exact List.getLast_mem hne
        simpa using (List.mem_filter.mp this).2
      simp [truD]
      rw [if_neg hne, ixD_ref (xs := ah.map fun (x : Nat) => .int (x : Int)) (by simp), DL.atI_last, List.getLast?_map, List.getLast?_eq_some_getLast hne, ← hlast]
      simp [kept_eq ok hi]
      rw [sum_rs, kept_K rows hle]
      exact ⟨by omega, hg.trans (Grow.app _ _)⟩
    · have hw2 : want rows i = 0 := by have := ok.bnd _ (row_mem hi); unfold want; omega
      rw [if_neg hw, sum_rs, Lots.K_zero (D := dat rows) hw2]
      exact ⟨by omega, hg⟩
  · rintro env m' ⟨x3, x4, x5, rfl, hg⟩
    simp [Lots.cost, enm_len, Fl.val]
    exact ⟨rfl, hg⟩
def encC (cs : List Int) : MO := .lst (cs.map .int)
theorem from_eq {rows : List Row} (ok : Okr rows) {f day : Nat} (hf : f ≤ day) (hd : day < rows.length) {cs : List Int} {k : Nat} {m : Mem} (hk : m[k]? = some (encC cs)) {c : Int} (hc : cs[f]? = some c) :
    D__from [encL rows, .ref k, .int (f : Int), .int (day : Int)] m = .ok (.int (c + setup rows f + (dat rows).SK f (day + 1))) m := by
  refine run_pure rfl ?_ trivial
  have c2 : ∀ m, c__from_2 [some (encL rows), some (.ref k), some (.int (f : Int)), some (.int (day : Int)), none, none] m = .ok (.int ((dat rows).SK f (day + 1))) m := fun m => by
    have := ok.len
    refine (comp_sum (m1 := m) (gs := []) (xs := List.range (day + 1 - f)) (g := fun i => .int ((f + i : Nat) : Int)) (fun _ => true) (fun i => (dat rows).K f (f + i)) ?_ (guard_nil m) (by simp; omega) (Grow.refl m) ?_).trans (by rw [filt_all]; rfl)
    · rw [rng2_eq (m1 := m) (m2 := m) (a := f) (b := day + 1) (by simp) (by simp) (by omega) (by omega)]
    · intro x hx m' _
      have := List.mem_range.mp hx
      have e := kept_eq ok (f := f) (l := f + x) (by omega) m'
      rw [kept_K rows (by omega)] at e
      simp only [Int.natCast_add] at e
      simp [e]
  have hc' : (cs.map DV.int)[f]? = some (.int c) := by simp [hc]
  simp [S__from, envOf, c2, ix_rows (show f < rows.length by omega), ixD_ref hk, DL.atI_nat, hc]
  exact ⟨rfl, Grow.refl m⟩
def encO : Option Nat → DV
  | none => .non
  | some f => .int (f : Int)
def fnC (cs : List Int) (t : Nat) : Int := cs.getD t 0
def fnL (ls : List (Option Nat)) (t : Nat) : Option Nat := ls.getD t none
/-- min over ways -/
theorem minD_ways : ∀ (xs : List (Int × Nat)) (x : Int × Nat), ∃ y, (y = x ∨ y ∈ xs) ∧ PySem.W.minD (.tuple [.int x.1, .int (x.2 : Int)]) (xs.map fun p => .tuple [.int p.1, .int (p.2 : Int)]) = .tuple [.int y.1, .int (y.2 : Int)] ∧ y.1 ≤ x.1 ∧ ∀ z ∈ xs, y.1 ≤ z.1
  | [], x => ⟨x, .inl rfl, rfl, Int.le_refl _, by simp⟩
  | z :: xs, x => by
    have e : PySem.W.minD (.tuple [.int x.1, .int (x.2 : Int)]) ((z :: xs).map fun p => .tuple [.int p.1, .int (p.2 : Int)]) = PySem.W.minD (if PySem.W.dataLt (.tuple [.int z.1, .int (z.2 : Int)]) (.tuple [.int x.1, .int (x.2 : Int)]) then .tuple [.int z.1, .int (z.2 : Int)] else .tuple [.int x.1, .int (x.2 : Int)]) (xs.map fun p => .tuple [.int p.1, .int (p.2 : Int)]) := rfl
    rw [e, PySem.W.dataLt_ii]
    by_cases h : z.1 < x.1 ∨ (z.1 = x.1 ∧ (z.2 : Int) < x.2)
    · rw [if_pos (by simpa using h)]
      obtain ⟨y, h1, h2, h3, h4⟩ := minD_ways xs z
      refine ⟨y, .inr ?_, h2, by omega, fun q hq => ?_⟩
      · rcases h1 with h1 | h1
        · rw [h1]; exact List.mem_cons_self
        · exact List.mem_cons_of_mem _ h1
      · rcases List.mem_cons.mp hq with h5 | h5
        · rw [h5]; exact h3
        · exact h4 q h5
    · rw [if_neg (by simpa using h)]
      obtain ⟨y, h1, h2, h3, h4⟩ := minD_ways xs x
      refine ⟨y, h1.imp_right (List.mem_cons_of_mem _), h2, h3, fun q hq => ?_⟩
      rcases List.mem_cons.mp hq with h5 | h5
      · rw [h5]; omega
      · exact h4 q h5

structure Built (rows : List Row) (i : Nat) (cs : List Int) (ls : List (Option Nat)) : Prop where
  lc : cs.length = i + 1
  ll : ls.length = i + 1
  C : Lots.LC { dat rows with n := i } (fnC cs) (fnL ls)
theorem fnC_old {cs : List Int} {c : Int} {t : Nat} (h : t < cs.length) : fnC (cs ++ [c]) t = fnC cs t := by
  simp [fnC, List.getD_eq_getElem?_getD, List.getElem?_append_left h]
theorem fnL_old {cs : List (Option Nat)} {c : Option Nat} {t : Nat} (h : t < cs.length) : fnL (cs ++ [c]) t = fnL cs t := by
  simp [fnL, List.getD_eq_getElem?_getD, List.getElem?_append_left h]
theorem fnC_new {cs : List Int} {c : Int} {t : Nat} (h : t = cs.length) : fnC (cs ++ [c]) t = c := by
  subst h; simp [fnC]
theorem fnL_new {cs : List (Option Nat)} {c : Option Nat} {t : Nat} (h : t = cs.length) : fnL (cs ++ [c]) t = c := by
  subst h; simp [fnL]
theorem Built.next {rows : List Row} {i : Nat} {cs : List Int} {ls : List (Option Nat)} (B : Built rows i cs ls) {c : Int} {o : Option Nat}
    (h : (want rows i = 0 ∧ c = fnC cs i ∧ o = none) ∨ (want rows i ≠ 0 ∧ (∃ f, f ≤ i ∧ o = some f ∧ c = fnC cs f + setup rows f + (dat rows).SK f (i + 1)) ∧ ∀ g, g ≤ i → c ≤ fnC cs g + setup rows g + (dat rows).SK g (i + 1))) : Built rows (i + 1) (cs ++ [c]) (ls ++ [o]) := by
  have hc := B.lc
  have hl := B.ll
  refine ⟨by simp [hc], by simp [hl], ?_, fun d hd => ?_⟩
  · rw [fnC_old (by omega)]; exact B.C.c0
  · have hd' : d < i + 1 := hd
    by_cases e : d = i
    · subst e
      rw [fnC_new (t := d + 1) (by omega), fnL_new (t := d + 1) (by omega)]
      rcases h with ⟨h1, h2, h3⟩ | ⟨h1, ⟨f, hf, h2, h3⟩, h4⟩
      · left
        rw [fnC_old (by omega)]; exact ⟨h1, h2, h3⟩
      · right
        refine ⟨h1, ⟨f, hf, h2, ?_⟩, fun g hg => ?_⟩
        · rw [fnC_old (by omega)]; exact h3
        · rw [fnC_old (by omega)]; exact h4 g hg
    · rw [fnC_old (by omega), fnL_old (by omega)]
      rcases B.C.st d (show d < i by omega) with ⟨h1, h2, h3⟩ | ⟨h1, ⟨f, hf, h2, h3⟩, h4⟩
      · left
        rw [fnC_old (by omega)]; exact ⟨h1, h2, h3⟩
      · right
        refine ⟨h1, ⟨f, hf, h2, ?_⟩, fun g hg => ?_⟩
        · rw [fnC_old (by omega)]; exact h3
        · rw [fnC_old (by omega)]; exact h4 g hg
theorem fnC_get {cs : List Int} {t : Nat} (h : t < cs.length) : cs[t]? = some (fnC cs t) := by simp [fnC, List.getD_eq_getElem?_getD, List.getElem?_eq_getElem h]
theorem fnL_get {cs : List (Option Nat)} {t : Nat} (h : t < cs.length) : cs[t]? = some (fnL cs t) := by simp [fnL, List.getD_eq_getElem?_getD, List.getElem?_eq_getElem h]
end My

end
section
set_option Elab.async false
set_option linter.all false
set_option maxRecDepth 100000
set_option maxHeartbeats 4000000
set_option autoImplicit false
namespace My
open PySem PySem.Spec L2 DL
theorem least_costs_eq {rows : List Row} (ok : Okr rows) (m : Mem) : ∃ m', D__least_costs [encL rows] m = .ok (.tup [.ref m.length, .ref (m.length + 1)]) m' ∧ ∃ cs ls g, Built rows rows.length cs ls ∧ m' = m ++ encC cs :: .lst (ls.map encO) :: g := by
  have hlen := ok.len
  refine run_sat rfl (fun h => ?_) ?_
  · have : m.length < m.length := h.1
    omega
  simp [S__least_costs, envOf]
  refine sFor_inv (fun _ i env m' => ∃ x3 x4 x5, env = [some (encL rows), some (.ref m.length), some (.ref (m.length + 1)), x3, x4, x5, none] ∧ ∃ cs ls g, Built rows i cs ls ∧ m' = m ++ encC cs :: .lst (ls.map encO) :: g) ?_
  rw [iEnum_tup (m1 := m ++ [.lst [.int 0], .lst [.non]]) (ds := rows.map encR) (by simp)]
  simp only [sat_ok]
  refine ⟨⟨none, none, none, rfl, [0], [none], [], ⟨rfl, rfl, rfl, fun d hd => absurd hd (Nat.not_lt_zero _)⟩, rfl⟩, fun i env m' _ => guard_nil m', ?_, ?_⟩
  · rintro i d env m' hd ⟨x3, x4, x5, rfl, cs, ls, g, B, rfl⟩
    obtain ⟨r, hr, rfl⟩ := enm_get hd
    have hi : i < rows.length := by have := (List.getElem?_eq_some_iff.mp hr).1; simpa using this
    rw [row_at hi] at hr
    cases hr
    have hc := B.lc
    have hl := B.ll
    have hce : cs.getLast? = some (fnC cs i) := by rw [List.getLast?_eq_getElem?, hc]; exact fnC_get (by omega)
    simp only [Nat.zero_add]
    have g0 : (m ++ encC cs :: .lst (ls.map encO) :: g)[m.length]? = some (.lst (cs.map .int)) := at0
    have g1 : (m ++ encC cs :: .lst (ls.map encO) :: g)[m.length + 1]? = some (.lst (ls.map encO)) := at1
    have last : atI (cs.map DV.int) (-1) = some (.int (fnC cs i)) := by rw [DL.atI_last, List.getLast?_map, hce]; rfl
    have fin : ∀ (c : Int) (o : Option Nat) l, (((m ++ encC cs :: .lst (ls.map encO) :: g) ++ l).set m.length (.lst (cs.map .int ++ [.int c]))).set (m.length + 1) (.lst (ls.map encO ++ [encO o])) = m ++ encC (cs ++ [c]) :: .lst ((ls ++ [o]).map encO) :: (g ++ l) := by
      intro c o l
      simp [encC]
    generalize hmm : m ++ encC cs :: .lst (ls.map encO) :: g = mm at g0 g1 fin
    have h01 : m.length ≠ m.length + 1 := by omega
    simp [b__least_costs_1]
    by_cases hw : (rowAt rows i).1 = 0
    · rw [if_pos hw]
      rw [eAppend_eq (m2 := mm) (k := m.length) (ds := cs.map .int) (es := cs.map .int) (y := .int (fnC cs i)) (by simp) g0 (by simp [ixD_ref g0, last]) g0 (by simp; omega)]
      simp only [sat_ok]
      have g1' : (mm.set m.length (.lst (cs.map .int ++ [.int (fnC cs i)])))[m.length + 1]? = some (.lst (ls.map encO)) := by rw [List.getElem?_set_ne h01]; exact g1
      rw [eAppend_eq (k := m.length + 1) (ds := ls.map encO) (es := ls.map encO) (y := .non) (by simp) g1' (by simp) g1' (by simp; omega)]
      simp only [sat_ok]
      have := fin (fnC cs i) none []
      simp only [List.append_nil] at this
      exact ⟨_, _, B.next (.inl ⟨hw, rfl, rfl⟩), _, this⟩
    · rw [if_neg hw]
      have c1 : c__least_costs_1 [some (encL rows), some (.ref m.length), some (.ref (m.length + 1)), some (.int (i : Int)), some (encR (rowAt rows i)), x5, none] mm = .ok (.ref mm.length) (mm ++ [.lst ((List.range (i + 1)).map fun f => .tup [.int (fnC cs f + setup rows f + (dat rows).SK f (i + 1)), .int (f : Int)])]) := by
        refine (comp_pure (m1 := mm) (gs := []) (xs := List.range (i + 1)) (g := fun f => .int (f : Int)) (fun _ => true) (fun f => .tup [.int (fnC cs f + setup rows f + (dat rows).SK f (i + 1)), .int (f : Int)]) ?_ (guard_nil mm) (by simp; omega) ?_).trans (by rw [filt_all])
        · rw [rng1_eq (m1 := mm) (n := i + 1) (by simp) (by omega)]
        · intro f hf m' hg
          have hf' := List.mem_range.mp hf
          simp [from_eq ok (f := f) (day := i) (by omega) hi (hg.get g0) (fnC_get (cs := cs) (t := f) (by omega))]
      rw [c1]
      simp only [sat_ok]
      obtain ⟨y, hy1, hy2, hy3, hy4⟩ := minD_ways ((List.range (i + 1)).tail.map fun f => (fnC cs f + setup rows f + (dat rows).SK f (i + 1), f)) (fnC cs 0 + setup rows 0 + (dat rows).SK 0 (i + 1), 0)
      have hr : List.range (i + 1) = 0 :: (List.range (i + 1)).tail := by rw [List.range_succ_eq_map]; rfl
      have ymem : y.2 ≤ i ∧ y.1 = fnC cs y.2 + setup rows y.2 + (dat rows).SK y.2 (i + 1) := by
        rcases hy1 with h | h
        · rw [h]; exact ⟨Nat.zero_le _, rfl⟩
        · obtain ⟨f, hf, rfl⟩ := List.mem_map.mp h
          have := List.mem_range.mp (List.mem_of_mem_tail hf)
          exact ⟨by omega, rfl⟩
      have yle : ∀ f, f ≤ i → y.1 ≤ fnC cs f + setup rows f + (dat rows).SK f (i + 1) := by
        intro f hf
        have : f ∈ List.range (i + 1) := List.mem_range.mpr (by omega)
        rw [hr] at this
        rcases List.mem_cons.mp this with h | h
        · rw [h]; exact hy3
        · exact hy4 _ (List.mem_map.mpr ⟨f, h, rfl⟩)
      have best : ∀ m2 : Mem, m2[mm.length]? = some (.lst ((List.range (i + 1)).map fun f => .tup [.int (fnC cs f + setup rows f + (dat rows).SK f (i + 1)), .int (f : Int)])) → bestD PySem.W.minD (.ref mm.length) m2 = .ok (.tup [.int y.1, .int (y.2 : Int)]) m2 := by
        intro m2 h
        rw [hr] at h
        refine best_pairs (p := (fnC cs 0 + setup rows 0 + (dat rows).SK 0 (i + 1), 0)) (ps := (List.range (i + 1)).tail.map fun (f : Nat) => (fnC cs f + setup rows f + (dat rows).SK f (i + 1), (f : Int))) (y := (y.1, (y.2 : Int))) ?_ _ ?_
        · rw [h]; simp [Function.comp_def]
        · rw [← hy2]; simp [Function.comp_def]
      have hkl : m.length + 1 < mm.length := by have := (List.getElem?_eq_some_iff.mp g1).1; exact this
      generalize hW : MO.lst ((List.range (i + 1)).map fun f => DV.tup [.int (fnC cs f + setup rows f + (dat rows).SK f (i + 1)), .int (f : Int)]) = Wl at best
      have G0 : (mm ++ [Wl])[m.length]? = some (.lst (cs.map .int)) := by rw [List.getElem?_append_left (by omega)]; exact g0
      have G1 : (mm ++ [Wl])[m.length + 1]? = some (.lst (ls.map encO)) := by rw [List.getElem?_append_left (by omega)]; exact g1
      have GW : (mm ++ [Wl])[mm.length]? = some Wl := by simp
      have F := fin y.1 (some y.2) [Wl]
      have hln : (mm ++ [Wl]).length = mm.length + 1 := by simp
      generalize mm ++ [Wl] = m2 at G0 G1 GW F hln
      rw [eAppend_eq (m2 := m2) (k := m.length) (ds := cs.map .int) (es := cs.map .int) (y := .int y.1) (by simp) G0 (by simp [best m2 GW]) G0 (by simp; omega)]
      simp only [sat_ok]
      have G1' : (m2.set m.length (.lst (cs.map .int ++ [.int y.1])))[m.length + 1]? = some (.lst (ls.map encO)) := by rw [List.getElem?_set_ne h01]; exact G1
      have GW' : (m2.set m.length (.lst (cs.map .int ++ [.int y.1])))[mm.length]? = some Wl := by rw [List.getElem?_set_ne (by omega)]; exact GW
      rw [eAppend_eq (k := m.length + 1) (ds := ls.map encO) (es := ls.map encO) (y := .int (y.2 : Int)) (by simp) G1' (by simp [best _ GW']) G1' (by simp; omega)]
      simp only [sat_ok]
      exact ⟨cs ++ [y.1], ls ++ [some y.2], B.next (.inr ⟨hw, ⟨y.2, ymem.1, rfl, ymem.2⟩, yle⟩), g ++ [Wl], F⟩
  · rintro env m' ⟨x3, x4, x5, rfl, cs, ls, g, B, rfl⟩
    simp
    rw [enm_len] at B
    exact ⟨rfl, cs, ls, by simpa using B, rfl, rfl⟩
end My

end
section
set_option Elab.async false
set_option linter.all false
set_option maxRecDepth 100000
set_option maxHeartbeats 4000000
set_option autoImplicit false
namespace My
open PySem PySem.Spec L2 DL
def natD (xs : List Nat) : List DV := xs.map fun (x : Nat) => .int (x : Int)
theorem ls_at {ls : List (Option Nat)} {t : Nat} (h : t < ls.length) : (ls.map encO)[t]? = some (encO (fnL ls t)) := by rw [List.getElem?_map, fnL_get h]; rfl
theorem back_eq {rows : List Row} {cs : List Int} {ls : List (Option Nat)} (hn : rows.length ≤ 1000) (B : Built rows rows.length cs ls) {M : Mem} {k1 k2 : Nat} (g2 : M[k2]? = some (.lst (ls.map encO))) :
    ∀ day acc, day ≤ rows.length → acc.length + day ≤ 1000 → (sWhile (tst (eBin gtD (eVar 4) (eC (.int 0)))) b_least_lots_1 [some (encL rows), some (.ref k1), some (.ref k2), some (.ref M.length), some (.int (day : Int)), none, none] (M ++ [.lst (natD acc)])).sat
      fun fl m' => fl = .nx [some (encL rows), some (.ref k1), some (.ref k2), some (.ref M.length), some (.int 0), none, none] ∧ m' = M ++ [.lst (natD (acc ++ (Lots.trace (fnL ls) day).reverse))] := by
  intro day
  have hk2 : k2 < M.length := (List.getElem?_eq_some_iff.mp g2).1
  have G : ∀ l, (M ++ l)[k2]? = some (.lst (ls.map encO)) := fun l => by rw [List.getElem?_append_left hk2]; exact g2
  induction day using Nat.strongRecOn with
  | ind day ih =>
    intro acc hd ha
    refine while_step ?_
    cases day with
    | zero => simp [Lots.trace]
    | succ d =>
      have hd' : d < rows.length := hd
      have hp : (0 : Int) < (d : Int) + 1 := by omega
      have hll := B.ll
      have hat : atI (ls.map encO) ((d : Int) + 1) = some (encO (fnL ls (d + 1))) := by
        have := DL.atI_nat (ls.map encO) (d + 1)
        simp only [Int.natCast_add, Int.cast_ofNat_Int] at this
        rw [this]; exact ls_at (by omega)
      rw [Lots.trace]
      simp [b_least_lots_1, ixD_ref (G _), hat, hp]
      rcases B.C.st d hd' with ⟨_, _, h3⟩ | ⟨_, ⟨f, hf, h3, _⟩, _⟩
      · rw [h3]
        simp [encO]
        have := ih d (by omega) acc (by omega) (by omega)
        exact this
      · rw [h3]
        simp [encO, hf]
        rw [eAppend_eq (k := M.length) (m2 := M ++ [.lst (natD acc)]) (ds := natD acc) (es := natD acc) (y := .int (f : Int)) (by simp) (by simp) (by simp [ixD_ref (G _), hat, h3, encO]) (by simp) (by simp [natD]; omega)]
        simp only [sat_ok]
        have e : (M ++ [MO.lst (natD acc)]).set M.length (.lst (natD acc ++ [.int (f : Int)])) = M ++ [.lst (natD (acc ++ [f]))] := by simp [natD]
        rw [e]
        simp [ixD_ref (G _), hat, h3, encO]
        have := ih f (by omega) (acc ++ [f]) (by omega) (by simp; omega)
        simp only [List.append_assoc, List.singleton_append] at this
        exact this
def encP (cs : List Int) (n : Nat) : DV := .tup ((List.range n).map fun i => .int (fnC cs (i + 1) - fnC cs i))
theorem least_lots_eq {rows : List Row} (ok : Okr rows) (m : Mem) : ∃ cs ls, Built rows rows.length cs ls ∧ D_least_lots [encL rows] m = .ok (.tup [encD (Lots.trace (fnL ls) rows.length), encP cs rows.length]) m := by
  have hn := ok.len
  obtain ⟨m1, e1, cs, ls, g, B, rfl⟩ := least_costs_eq ok m
  refine ⟨cs, ls, B, run_pure rfl ?_ ?_⟩
  · have g0 : (m ++ encC cs :: .lst (ls.map encO) :: g)[m.length]? = some (.lst (cs.map .int)) := at0
    have g1 : (m ++ encC cs :: .lst (ls.map encO) :: g)[m.length + 1]? = some (.lst (ls.map encO)) := at1
    have gr : Grow m (m ++ encC cs :: .lst (ls.map encO) :: g) := Grow.app _ _
    generalize m ++ encC cs :: .lst (ls.map encO) :: g = M at g0 g1 gr e1
    have hlc := B.lc
    simp [S_least_lots, envOf, e1]
    refine (back_eq hn B g1 rows.length [] (Nat.le_refl _) (by simpa using hn)).mono ?_
    rintro fl m' ⟨rfl, rfl⟩
    simp
    have hk : m.length < M.length := (List.getElem?_eq_some_iff.mp g0).1
    generalize hM2 : M ++ [MO.lst (natD (Lots.trace (fnL ls) rows.length).reverse)] = M2
    have G0 : M2[m.length]? = some (.lst (cs.map .int)) := by rw [← hM2, List.getElem?_append_left hk]; exact g0
    have G3 : M2[M.length]? = some (.lst (natD (Lots.trace (fnL ls) rows.length).reverse)) := by rw [← hM2]; simp
    have GR : Grow m M2 := by rw [← hM2]; exact gr.trans (Grow.app _ _)
    have c1 : c_least_lots_1 [some (encL rows), some (.ref m.length), some (.ref (m.length + 1)), some (.ref M.length), some (.int 0), none, none] M2 = .ok (.ref M2.length) (M2 ++ [.lst ((List.range rows.length).map fun i => .int (fnC cs (i + 1) - fnC cs i))]) := by
      refine (comp_pure (m1 := M2) (gs := []) (xs := List.range rows.length) (g := fun f => .int (f : Int)) (fun _ => true) (fun i => .int (fnC cs (i + 1) - fnC cs i)) ?_ (guard_nil _) (by simp; omega) ?_).trans (by rw [filt_all])
      · rw [rng1_eq (m1 := M2) (n := rows.length) (by simp) (by omega)]
      · intro f hf m' hg
        have hf' := List.mem_range.mp hf
        have h1 : atI (cs.map DV.int) (f : Int) = some (.int (fnC cs f)) := by rw [DL.atI_nat, List.getElem?_map, fnC_get (by omega)]; rfl
        have h2 : atI (cs.map DV.int) ((f : Int) + 1) = some (.int (fnC cs (f + 1))) := by
          have := DL.atI_nat (cs.map DV.int) (f + 1)
          simp only [Int.natCast_add, Int.cast_ofNat_Int] at this
          rw [this, List.getElem?_map, fnC_get (by omega)]; rfl
        simp [ixD_ref (hg.get G0), h1, h2]
    rw [c1]
    have G3' : (M2 ++ [.lst ((List.range rows.length).map fun i => .int (fnC cs (i + 1) - fnC cs i))])[M.length]? = some (.lst (natD (Lots.trace (fnL ls) rows.length).reverse)) := (Grow.app _ _).get G3
    simp [revD, lstOf, G3', tupD, seqOf]
    refine ⟨?_, GR.trans (Grow.app _ _)⟩
    simp [Fl.val, encD, encP, natD]
  · refine ⟨?_, ?_, trivial⟩
    · exact loAll_iff.mpr fun d hd => by obtain ⟨x, _, rfl⟩ := List.mem_map.mp hd; trivial
    · exact loAll_iff.mpr fun d hd => by obtain ⟨x, _, rfl⟩ := List.mem_map.mp hd; trivial
end My

end
section
set_option Elab.async false
set_option linter.all false
set_option maxRecDepth 100000
set_option maxHeartbeats 4000000
set_option autoImplicit false
namespace My
open PySem PySem.Spec L2 DL
theorem is_whole_int (i : Int) (m : Mem) : D_is_whole [.int i] m = .ok (.bl true) m := by
  refine run_pure rfl ?_ trivial
  simp [S_is_whole, envOf]
  exact ⟨rfl, Grow.refl m⟩
theorem is_between_int (i a b : Int) (m : Mem) : D_is_between [.int i, .int a, .int b] m = .ok (.bl (decide (a ≤ i ∧ i ≤ b))) m := by
  refine run_pure rfl ?_ trivial
  simp [S_is_between, envOf, is_whole_int]
  by_cases h : a ≤ i
  · simp [h]; exact ⟨rfl, Grow.refl m⟩
  · simp [h]; exact ⟨rfl, Grow.refl m⟩
theorem is_pair_two (a b : DV) (m : Mem) : D_is_pair [.tup [a, b]] m = .ok (.bl true) m := by
  refine run_pure rfl ?_ trivial
  simp [S_is_pair, envOf]
  exact ⟨rfl, Grow.refl m⟩
theorem asc_eq {made : List Nat} (h : made.Pairwise (· < ·)) (hl : made.length ≤ 1000000) (m : Mem) : D_is_ascending [encD made] m = .ok (.bl true) m := by
  refine run_pure rfl ?_ trivial
  have c2 : ∀ m, c_is_ascending_2 [some (encD made), none] m = .ok (.bl true) m := fun m => by
    refine (comp_all (m1 := m) (gs := []) (xs := List.range (made.length - 1)) (g := fun i => .int (i : Int)) (fun _ => true) (fun _ => true) ?_ (guard_nil m) (by simp; omega) (Grow.refl m) ?_).trans (by simp)
    · rw [rng1_z (m1 := m) (z := (made.length : Int) - 1) (by simp [encD]) (by omega) (by omega), rng0, show ((made.length : Int) - 1).toNat = made.length - 1 by omega]
    · intro i hi m' _
      have hi' := List.mem_range.mp hi
      have h1 : atI (made.map fun (x : Nat) => DV.int (x : Int)) (i : Int) = some (.int ((made[i]'(by omega) : Nat) : Int)) := by rw [DL.atI_nat, List.getElem?_map, List.getElem?_eq_getElem (by omega)]; rfl
      have h2 : atI (made.map fun (x : Nat) => DV.int (x : Int)) ((i : Int) + 1) = some (.int ((made[i + 1]'(by omega) : Nat) : Int)) := by
        have := DL.atI_nat (made.map fun (x : Nat) => DV.int (x : Int)) (i + 1)
        simp only [Int.natCast_add, Int.cast_ofNat_Int] at this
        rw [this, List.getElem?_map, List.getElem?_eq_getElem (by omega)]; rfl
      have h3 : made[i]'(by omega) < made[i + 1]'(by omega) := List.pairwise_iff_getElem.mp h i (i + 1) (by omega) (by omega) (by omega)
      simp [encD, h1, h2, h3]
  simp [S_is_ascending, envOf, c2]
  exact ⟨rfl, Grow.refl m⟩
theorem zp_eq : ∀ xs ys : List DV, zp xs ys = (xs.zip ys).map fun p => .tup [p.1, p.2]
  | [], _ => by simp [zp]
  | _ :: _, [] => by simp [zp]
  | x :: xs, y :: ys => by simp [zp, zp_eq xs ys]
theorem rows_range (rows : List Row) : rows.map encR = (List.range rows.length).map fun i => encR (rowAt rows i) := by
  apply List.ext_getElem
  · simp
  · intro i h1 h2
    have hi : i < rows.length := by simpa using h1
    simp [rowAt, List.getD_eq_getElem?_getD, List.getElem?_eq_getElem hi]
theorem tele (g : Nat → Int) (n : Nat) : ((List.range n).map fun i => g (i + 1) - g i).sum = g n - g 0 := by
  induction n with
  | zero => simp
  | succ n ih => rw [sum_rs (fun i => g (i + 1) - g i), ih]; omega
theorem prices_eq {rows : List Row} (ok : Okr rows) {cs : List Int} {ls : List (Option Nat)} (B : Built rows rows.length cs ls) (m : Mem) : D__are_prices [encL rows, encP cs rows.length] m = .ok (.bl true) m := by
  have hn := ok.len
  have o := dat_ok ok
  have c : Lots.LC (dat rows) (fnC cs) (fnL ls) := B.C
  refine run_pure rfl ?_ trivial
  have c2 : ∀ m, c__are_prices_2 [some (encL rows), some (encP cs rows.length), none, none, none, none, none, none] m = .ok (.bl true) m := fun m => by
    refine (comp_all (m1 := m) (gs := []) (xs := List.range rows.length) (g := fun i => .int (fnC cs (i + 1) - fnC cs i)) (fun _ => true) (fun _ => true) ?_ (guard_nil m) (by simp; omega) (Grow.refl m) ?_).trans (by simp)
    · rw [iAny_tup (m1 := m) (ds := (List.range rows.length).map fun i => .int (fnC cs (i + 1) - fnC cs i)) (by simp [encP])]
    · intro i hi m' _
      have hi' := List.mem_range.mp hi
      have := c.mono o (d := i) hi'
      simp [eAndV, is_whole_int]
      omega
  have c4 : ∀ m, c__are_prices_4 [some (encL rows), some (encP cs rows.length), none, none, none, none, none, none] m = .ok (.bl false) m := fun m => by
    refine (comp_any (m1 := m) (gs := []) (xs := List.range rows.length) (g := fun i => .tup [.int (fnC cs (i + 1) - fnC cs i), encR (rowAt rows i)]) (fun _ => true) (fun _ => false) ?_ (guard_nil m) (by simp; omega) (Grow.refl m) ?_).trans (by simp)
    · have : iZipD (eVar 1) (eBin ixD (eVar 0) (eC (.int 1))) [some (encL rows), some (encP cs rows.length), none, none, none, none, none, none] m = .ok ⟨zp ((List.range rows.length).map fun i => .int (fnC cs (i + 1) - fnC cs i)) (rows.map encR), []⟩ m := by
        unfold iZipD
        simp [encP]
      rw [this, zp_eq, rows_range, List.zip_map', List.map_map]
      rfl
    · intro i hi m' _
      have hi' := List.mem_range.mp hi
      simp [eAndV]
      by_cases hw : (rowAt rows i).1 = 0
      · have hc : fnC cs (i + 1) = fnC cs i := by
          rcases c.st i hi' with ⟨_, h, _⟩ | ⟨h, _⟩
          · exact h
          · exact absurd hw h
        simp [hc]
      · by_cases hz : fnC cs (i + 1) - fnC cs i = 0 <;> simp [hz, hw]
  have c5 : ∀ (day : Nat) x4 m, day < rows.length → c__are_prices_5 [some (encL rows), some (encP cs rows.length), some (.int (rows.length : Int)), some (.int (day : Int)), x4, none, none, none] m = .ok (.ref m.length) (m ++ [.lst (((List.range (rows.length - day)).map fun k => max 0 (fnC cs (day + k + 1) - fnC cs (day + k) - (dat rows).K day (day + k))).map .int)]) := fun day x4 m hd => by
    refine (comp_pure (m1 := m) (gs := []) (xs := List.range (rows.length - day)) (g := fun k => .int ((day + k : Nat) : Int)) (fun _ => true) (fun k => .int (max 0 (fnC cs (day + k + 1) - fnC cs (day + k) - (dat rows).K day (day + k)))) ?_ (guard_nil m) (by simp; omega) ?_).trans (by rw [filt_all, List.map_map]; rfl)
    · rw [rng2_eq (m1 := m) (m2 := m) (a := day) (b := rows.length) (by simp) (by simp) (by omega) (by omega)]
    · intro k hk m' _
      have hk' := List.mem_range.mp hk
      have e := kept_eq ok (f := day) (l := day + k) (by omega) m'
      rw [kept_K rows (by omega)] at e
      have h1 : atI ((List.range rows.length).map fun i => DV.int (fnC cs (i + 1) - fnC cs i)) ((day + k : Nat) : Int) = some (.int (fnC cs (day + k + 1) - fnC cs (day + k))) := by
        rw [DL.atI_nat, List.getElem?_map, List.getElem?_range (by omega)]; rfl
      simp only [Int.natCast_add] at e h1
      have h2 : ∀ m, ixD (encP cs rows.length) (.int ((day : Int) + (k : Int))) m = .ok (.int (fnC cs (day + k + 1) - fnC cs (day + k))) m := fun m => by rw [encP, ixD_tup, h1]
      simp [e, h2]
  have hlen : fLen [encP cs rows.length] m = .ok (.int (rows.length : Int)) m := by simp [encP]
  have htup : isI "tuple" (encP cs rows.length) m = .ok (.bl true) m := by simp [encP]
  simp [S__are_prices, envOf, c2, c4, hlen, htup]
  refine sFor_of (rng1_eq (m1 := m) (n := rows.length) (by simp) (by omega)) (fun i env m' => ∃ x3 x4, env = [some (encL rows), some (encP cs rows.length), some (.int (rows.length : Int)), x3, x4, none, none, none] ∧ Grow m m') ⟨none, none, rfl, Grow.refl m⟩ (fun i env m' _ => guard_nil m') ?_ ?_
  · rintro i d env m' hd ⟨x3, x4, rfl, hg⟩
    have hi : i < rows.length := by have := (List.getElem?_eq_some_iff.mp hd).1; simpa using this
    rw [List.getElem?_map, List.getElem?_range hi] at hd
    cases hd
    have hdual := c.dual o (i := i) rows.length (by omega) (Nat.le_refl _)
    have hs : ∀ js : List Int, sumD (.ref m'.length) (m' ++ [.lst (js.map .int)]) = .ok (.int js.sum) (m' ++ [.lst (js.map .int)]) := fun js => sumD_at at0
    have hlt : ¬ (rowAt rows i).2.1 < Lots.over (dat rows) (fnC cs) i rows.length := by
      have : (dat rows).s i = (rowAt rows i).2.1 := rfl
      omega
    unfold Lots.over at hlt
    have hb := c5 i x4 m' hi
    generalize (List.range (rows.length - i)).map (fun k => max 0 (fnC cs (i + k + 1) - fnC cs (i + k) - (dat rows).K i (i + k))) = js at hlt hb
    simp [b__are_prices_1, hb, hs, ix_rows hi]
    rw [if_neg hlt]
    exact hg.trans (Grow.app _ _)
  · rintro env m' ⟨x3, x4, rfl, hg⟩
    simp
    exact ⟨rfl, hg⟩
end My

end
section
set_option Elab.async false
set_option linter.all false
set_option maxRecDepth 100000
set_option maxHeartbeats 4000000
set_option autoImplicit false
namespace My
open PySem PySem.Spec L2 DL
theorem trace_len {L : Nat → Option Nat} : ∀ t, (Lots.trace L t).length ≤ t := by
  intro t
  induction t using Nat.strongRecOn with
  | ind t ih =>
    cases t with
    | zero => rw [Lots.trace]; simp
    | succ t =>
      rw [Lots.trace]
      cases L (t + 1) with
      | none => exact Nat.le_trans (ih t (by omega)) (by omega)
      | some f =>
        by_cases h : f ≤ t
        · simp only [dif_pos h]
          have := ih f (by omega)
          simp; omega
        · simp only [dif_neg h]; simp
theorem cost_made {rows : List Row} (ok : Okr rows) {cs : List Int} {ls : List (Option Nat)} (B : Built rows rows.length cs ls) (m : Mem) : D_lots_cost [encL rows, encD (Lots.trace (fnL ls) rows.length)] m = .ok (.int (fnC cs rows.length)) m := by
  have hn := ok.len
  have c : Lots.LC (dat rows) (fnC cs) (fnL ls) := B.C
  have p := c.trace_plan rows.length (Nat.le_refl _)
  have hl := trace_len (L := fnL ls) rows.length
  rw [lots_cost_eq ok (by omega) p.lt p.cov, p.eq]
theorem least_true {rows : List Row} (ok : Okr rows) {cs : List Int} {ls : List (Option Nat)} (B : Built rows rows.length cs ls) (m : Mem) : D_is_least_lots [encL rows, .tup [encD (Lots.trace (fnL ls) rows.length), encP cs rows.length]] m = .ok (.bl true) m := by
  have hn := ok.len
  have c : Lots.LC (dat rows) (fnC cs) (fnL ls) := B.C
  have p := c.trace_plan rows.length (Nat.le_refl _)
  have hl := trace_len (L := fnL ls) rows.length
  have hcost := cost_made ok B
  have hlt := p.lt
  have hasc := p.asc
  refine run_pure rfl ?_ trivial
  generalize Lots.trace (fnL ls) rows.length = made at hl hlt hcost hasc
  have c2 : ∀ x3 m, c_is_least_lots_2 [some (encL rows), some (.tup [encD made, encP cs rows.length]), some (encD made), x3, none] m = .ok (.bl true) m := fun x3 m => by
    refine (comp_all (m1 := m) (gs := []) (xs := made) (g := fun (x : Nat) => .int (x : Int)) (fun _ => true) (fun _ => true) ?_ (guard_nil m) (by omega) (Grow.refl m) ?_).trans (by simp)
    · rw [iAny_tup (m1 := m) (ds := made.map fun (x : Nat) => .int (x : Int)) (by simp [encD])]
    · intro x hx m' _
      have := hlt x hx
      have : x < rows.length := this
      simp [is_between_int]
      omega
  have hs : ∀ m, sumD (encP cs rows.length) m = .ok (.int (fnC cs rows.length)) m := fun m => by
    have e : encP cs rows.length = .tup (((List.range rows.length).map fun i => fnC cs (i + 1) - fnC cs i).map .int) := by simp [encP, Function.comp_def]
    rw [e, sumD_tup, tele, c.c0]; simp
  have ht1 : ∀ m, isI "tuple" (encD made) m = .ok (.bl true) m := fun m => by simp [encD]
  simp [S_is_least_lots, envOf, is_pair_two, ht1, c2, asc_eq hasc (by omega), prices_eq ok B, hcost, hs]
  exact ⟨rfl, Grow.refl m⟩
end My

end
section
set_option Elab.async false
set_option linter.all false
set_option maxRecDepth 100000
set_option maxHeartbeats 4000000
set_option autoImplicit false
/-! digits and draws of the script -/
namespace My
open PySem PySem.Spec L2 DL
theorem run_lst {N n : Nat} {S : DS} {ds : List DV} {m : Mem} {es : List DV} (hn : ds.length = n) (hl : ∀ k, loAll k es) (h : (S (envOf N ds) m).sat fun fl m' => fl.val = some (.ref m.length) ∧ m' = m ++ [.lst es]) : runD N n S ds m = .ok (.ref m.length) (m ++ [.lst es]) := by
  obtain ⟨fl, m', e, h1, rfl⟩ := h.ex
  unfold runD
  rw [if_pos hn, e]
  have hlo : ¬ (DV.ref m.length).lo m.length := fun h => by have : m.length < m.length := h; omega
  have hg : (m ++ [MO.lst es])[m.length]? = some (.lst es) := at0
  cases fl with
  | rt d =>
    cases h1
    simp only [Out.bind_ok, gcO, if_pos (Grow.app m [.lst es]).old, if_neg hlo, hg, if_pos (And.intro (Nat.le_refl m.length) (show (MO.lst es).lo m.length from hl _))]
    simp
  | nx e => cases h1
  | bk e => cases h1
  | ct e => cases h1
theorem loI (is : List Int) (k : Nat) : loAll k (is.map .int) := loAll_iff.mpr fun d hd => by obtain ⟨x, _, rfl⟩ := List.mem_map.mp hd; trivial
theorem cell_eq {ns : List Int} {m : Mem} (h0 : m[0]? = some (.rol (ns.map .int))) (k : Nat) : ∃ c, D__law_cell [.ref 0, .int (k : Int)] m = .ok (.int c) m := by
  by_cases h : k < ns.length
  · refine ⟨ns[k], run_pure rfl ?_ trivial⟩
    have h1 : atI (ns.map DV.int) (k : Int) = some (.int ns[k]) := by rw [DL.atI_nat, List.getElem?_map, List.getElem?_eq_getElem h]; rfl
    simp [S__law_cell, envOf, fLen_rol h0, h, ixD_rol h0, h1]
    exact ⟨rfl, Grow.refl m⟩
  · refine ⟨0, run_pure rfl ?_ trivial⟩
    simp [S__law_cell, envOf, fLen_rol h0, h]
    exact ⟨rfl, Grow.refl m⟩
@[simp] theorem cm_r7 (i : Int) : CMul i 7 = True := eq_true (.inr ⟨by omega, by omega⟩)
@[simp] theorem cm_r16807 (i : Int) : CMul i 16807 = True := eq_true (.inr ⟨by omega, by omega⟩)
@[simp] theorem cm_r48271 (i : Int) : CMul i 48271 = True := eq_true (.inr ⟨by omega, by omega⟩)
@[simp] theorem cm_r69621 (i : Int) : CMul i 69621 = True := eq_true (.inr ⟨by omega, by omega⟩)
@[simp] theorem cm_l2 (i : Int) : CMul 2 i = True := eq_true (.inl ⟨by omega, by omega⟩)
@[simp] theorem cm_l7 (i : Int) : CMul 7 i = True := eq_true (.inl ⟨by omega, by omega⟩)
@[simp] theorem cd_997 (i : Int) : CDiv i 997 = True := eq_true ⟨by omega, by omega⟩
@[simp] theorem cd_1000 (i : Int) : CDiv i 1000 = True := eq_true ⟨by omega, by omega⟩
@[simp] theorem cp_1018 : CPow 10 18 = True := eq_true ⟨by omega, by omega, by decide⟩
theorem app_last {A B : DE} {env : DL.Env} {m : Mem} {is : List Int} {y : Int} (hA : A env (m ++ [.lst (is.map .int)]) = .ok (.ref m.length) (m ++ [.lst (is.map .int)])) (hB : B env (m ++ [.lst (is.map .int)]) = .ok (.int y) (m ++ [.lst (is.map .int)])) (hl : is.length ≤ 1000000) :
    eAppend A B env (m ++ [.lst (is.map .int)]) = .ok .non (m ++ [.lst ((is ++ [y]).map .int)]) := by
  rw [eAppend_eq hA at0 hB at0 (by rw [List.length_map]; omega)]
  simp
theorem digits_eq {ns : List Int} {m : Mem} (h0 : m[0]? = some (.rol (ns.map .int))) (a b : Nat) (ha : a ≤ 1000) (hb : b ≤ 1000) : ∃ is : List Int, D__law_digits [.ref 0, .int (a : Int), .int (b : Int)] m = .ok (.ref m.length) (m ++ [.lst (is.map .int)]) := by
  suffices h : ∃ is : List Int, (S__law_digits (envOf 8 [.ref 0, .int (a : Int), .int (b : Int)]) m).sat fun fl m' => fl.val = some (.ref m.length) ∧ m' = m ++ [.lst (is.map .int)] by
    obtain ⟨is, h⟩ := h
    exact ⟨is, run_lst rfl (loI is) h⟩
  suffices h : (S__law_digits (envOf 8 [.ref 0, .int (a : Int), .int (b : Int)]) m).sat fun fl m' => ∃ is : List Int, fl.val = some (.ref m.length) ∧ m' = m ++ [.lst (is.map .int)] by
    obtain ⟨fl, m', e, is, h1, h2⟩ := h.ex
    exact ⟨is, by rw [e]; exact ⟨h1, h2⟩⟩
  have hm : ∀ l, (m ++ l)[0]? = some (.rol (ns.map .int)) := fun l => (Grow.app m l).get h0
  simp [S__law_digits, envOf]
  refine sFor_of (rng2_eq (m1 := m ++ [.lst []]) (m2 := m ++ [.lst []]) (a := a) (b := b) (by simp) (by simp) (by omega) (by omega))
    (fun i env m' => ∃ x4 x5 x6 x7, ∃ is : List Int, env = [some (.ref 0), some (.int (a : Int)), some (.int (b : Int)), some (.ref m.length), x4, x5, x6, x7] ∧ is.length ≤ 1560 ∧ m' = m ++ [.lst (is.map .int)])
    ⟨none, none, none, none, [], rfl, by simp, rfl⟩ (fun i env m' _ => guard_nil m') ?_ ?_
  · rintro i d env m' hd ⟨x4, x5, x6, x7, is, rfl, his, rfl⟩
    have hi : i < b - a := by have := (List.getElem?_eq_some_iff.mp hd).1; simpa using this
    rw [List.getElem?_map, List.getElem?_range hi] at hd
    cases hd
    obtain ⟨c, hc⟩ := cell_eq (hm [.lst (is.map .int)]) (a + i)
    simp only [Int.natCast_add] at hc ⊢
    have hlen : ∀ js : List Int, fLen [.ref m.length] (m ++ [.lst (js.map .int)]) = .ok (.int js.length) (m ++ [.lst (js.map .int)]) := fun js => by rw [fLen_ref (xs := js.map .int) at0]; simp
    simp [b__law_digits_3, hc, hlen]
    have one : ∀ (c : Int) (k : Int), is.length ≤ 1500 → (sFor (iRng1D (eC (.int 60))) (gVar 6) b__law_digits_1 [some (.ref 0), some (.int (a : Int)), some (.int (b : Int)), some (.ref m.length), some (.int k), some (.int c), x6, x7] (m ++ [.lst (is.map .int)])).sat fun fl m' => ∃ env, fl = .nx env ∧ ∃ x4 x5 x6 x7, ∃ is : List Int, env = [some (.ref 0), some (.int (a : Int)), some (.int (b : Int)), some (.ref m.length), x4, x5, x6, x7] ∧ is.length ≤ 1560 ∧ m' = m ++ [.lst (is.map .int)] := by
      intro c k hle
      refine sFor_of (rng1_eq (m1 := m ++ [.lst (is.map .int)]) (n := 60) (by simp) (by omega))
        (fun j env m' => ∃ c x6, ∃ js : List Int, env = [some (.ref 0), some (.int (a : Int)), some (.int (b : Int)), some (.ref m.length), some (.int k), some (.int c), x6, x7] ∧ js.length ≤ 1500 + j ∧ m' = m ++ [.lst (js.map .int)]) ⟨c, x6, is, rfl, hle, rfl⟩ (fun i env m' _ => guard_nil m') ?_ ?_
      · rintro j d env m' hd ⟨c, x6, js, rfl, hjs, rfl⟩
        have hj : j < 60 := by have := (List.getElem?_eq_some_iff.mp hd).1; simpa using this
        simp [b__law_digits_1]
        by_cases h : 0 < c
        · rw [if_pos h, app_last (y := c % 1000) (by simp) (by simp) (by omega)]
          simp only [sat_ok]
          exact ⟨js ++ [c % 1000], by simp; omega, rfl⟩
        · rw [if_neg h]
          exact ⟨js, by omega, rfl⟩
      · rintro env m' ⟨c, x6, js, rfl, hjs, rfl⟩
        exact ⟨_, rfl, _, _, _, _, js, rfl, by simpa using hjs, rfl⟩
    have two : ∀ (c : Int) (k : Int) (s : Int), is.length ≤ 1500 → (sFor (iRng1D (eC (.int 12))) (gVar 6) b__law_digits_2 [some (.ref 0), some (.int (a : Int)), some (.int (b : Int)), some (.ref m.length), some (.int k), some (.int c), x6, some (.int s)] (m ++ [.lst (is.map .int)])).sat fun fl m' => ∃ env, fl = .nx env ∧ ∃ x4 x5 x6 x7, ∃ is : List Int, env = [some (.ref 0), some (.int (a : Int)), some (.int (b : Int)), some (.ref m.length), x4, x5, x6, x7] ∧ is.length ≤ 1560 ∧ m' = m ++ [.lst (is.map .int)] := by
      intro c k s hle
      refine sFor_of (rng1_eq (m1 := m ++ [.lst (is.map .int)]) (n := 12) (by simp) (by omega))
        (fun j env m' => ∃ s x6, ∃ js : List Int, env = [some (.ref 0), some (.int (a : Int)), some (.int (b : Int)), some (.ref m.length), some (.int k), some (.int c), x6, some (.int s)] ∧ js.length ≤ 1500 + j ∧ m' = m ++ [.lst (js.map .int)]) ⟨s, x6, is, rfl, hle, rfl⟩ (fun i env m' _ => guard_nil m') ?_ ?_
      · rintro j d env m' hd ⟨s, x6, js, rfl, hjs, rfl⟩
        have hj : j < 12 := by have := (List.getElem?_eq_some_iff.mp hd).1; simpa using this
        rw [List.getElem?_map, List.getElem?_range hj] at hd
        cases hd
        simp [b__law_digits_2]
        rw [app_last (y := ((s * 16807 + 7 * (j : Int) + 1) % 2147483647) / 997 % 1000) (by simp) (by simp) (by omega)]
        simp only [sat_ok]
        exact ⟨js ++ [((s * 16807 + 7 * (j : Int) + 1) % 2147483647) / 997 % 1000], by simp; omega, rfl⟩
      · rintro env m' ⟨s, x6, js, rfl, hjs, rfl⟩
        have : js.length ≤ 1512 := by simpa using hjs
        exact ⟨_, rfl, _, _, _, _, js, rfl, by omega, rfl⟩
    by_cases hc0 : c < 0
    · rw [if_pos hc0]
      by_cases hl : (1500 : Int) < is.length
      · rw [if_pos hl]; exact ⟨rfl, is, rfl⟩
      · rw [if_neg hl]
        by_cases hb : (1000000000000000000 : Int) ≤ 1 - 2 * c
        · rw [if_pos hb]
          refine (one _ _ (by omega)).mono ?_
          rintro fl m' ⟨env, rfl, y4, y5, y6, y7, js, rfl, h1, rfl⟩
          exact ⟨⟨_, _, _, _, rfl⟩, js, h1, rfl⟩
        · rw [if_neg hb]
          refine (two _ _ _ (by omega)).mono ?_
          rintro fl m' ⟨env, rfl, y4, y5, y6, y7, js, rfl, h1, rfl⟩
          exact ⟨⟨_, _, _, _, rfl⟩, js, h1, rfl⟩
    · rw [if_neg hc0]
      by_cases hl : (1500 : Int) < is.length
      · rw [if_pos hl]; exact ⟨rfl, is, rfl⟩
      · rw [if_neg hl]
        by_cases hb : (1000000000000000000 : Int) ≤ c
        · rw [if_pos hb]
          refine (one _ _ (by omega)).mono ?_
          rintro fl m' ⟨env, rfl, y4, y5, y6, y7, js, rfl, h1, rfl⟩
          exact ⟨⟨_, _, _, _, rfl⟩, js, h1, rfl⟩
        · rw [if_neg hb]
          refine (two _ _ _ (by omega)).mono ?_
          rintro fl m' ⟨env, rfl, y4, y5, y6, y7, js, rfl, h1, rfl⟩
          exact ⟨⟨_, _, _, _, rfl⟩, js, h1, rfl⟩
  · rintro env m' ⟨x4, x5, x6, x7, is, rfl, his, rfl⟩
    simp
    exact ⟨rfl, is, rfl⟩
/-- a draw: some number below, the box one further -/
theorem draw_eq {m : Mem} {bk dk : Nat} {is : List Int} {a : Nat} (hb : m[bk]? = some (.lst [.ref dk, .int (a : Int)])) (hd : m[dk]? = some (.lst (is.map .int))) (hne : bk ≠ dk) {j : Int} (hj : 0 < j) :
    ∃ v, 0 ≤ v ∧ v < j ∧ D__law_draw [.ref bk, .int j] m = .ok (.int v) (m.set bk (.lst [.ref dk, .int ((a + 1 : Nat) : Int)])) := by
  have hbl : bk < m.length := (List.getElem?_eq_some_iff.mp hb).1
  have hdl : dk < m.length := (List.getElem?_eq_some_iff.mp hd).1
  have hgc : ∀ v : Int, gcO m (.ok (.int v) (m.set bk (.lst [.ref dk, .int ((a + 1 : Nat) : Int)]))) = .ok (.int v) (m.set bk (.lst [.ref dk, .int ((a + 1 : Nat) : Int)])) := by
    intro v
    have ho : OldOk m (m.set bk (.lst [.ref dk, .int ((a + 1 : Nat) : Int)])) := by
      refine ⟨by simp, fun i hi => ?_⟩
      by_cases e : bk = i
      · subst e
        exact .inr ⟨.lst [.ref dk, .int ((a + 1 : Nat) : Int)], List.getElem?_set_self hbl, hdl, trivial, trivial⟩
      · exact .inl (List.getElem?_set_ne e)
    unfold gcO
    simp only [if_pos ho, if_pos (lo_int m.length v)]
    rw [List.take_of_length_le (by simp)]
  have hdr : (m.set bk (.lst [.ref dk, .int ((a + 1 : Nat) : Int)]))[dk]? = some (.lst (is.map .int)) := by rw [List.getElem?_set_ne hne]; exact hd
  have hbr : (m.set bk (.lst [.ref dk, .int ((a + 1 : Nat) : Int)]))[bk]? = some (.lst [.ref dk, .int ((a + 1 : Nat) : Int)]) := by rw [List.getElem?_set_self hbl]
  have hset : ∀ v, setL (.ref bk) (.int 1) v m = .ok () (m.set bk (.lst [.ref dk, v])) := by
    intro v
    simp only [setL, hb]
    rfl
  have h0 : ixD (.ref bk) (.int 1) m = .ok (.int (a : Int)) m := by rw [ixD_ref hb]; rfl
  have key : ∃ v, 0 ≤ v ∧ v < j ∧ (S__law_draw (envOf 3 [.ref bk, .int j]) m).sat fun fl m' => fl.val = some (.int v) ∧ m' = m.set bk (.lst [.ref dk, .int ((a + 1 : Nat) : Int)]) := by
    simp only [Int.natCast_add, Int.cast_ofNat_Int] at hdr hbr ⊢
    by_cases hlt : a < is.length
    · refine ⟨is[a] % j, Int.emod_nonneg _ (by omega), Int.emod_lt_of_pos _ hj, ?_⟩
      have h1 : atI (is.map DV.int) (a : Int) = some (.int is[a]) := by rw [DL.atI_nat, List.getElem?_map, List.getElem?_eq_getElem hlt]; rfl
      have h2 : ixD (.ref bk) (.int 0) (m.set bk (.lst [.ref dk, .int ((a : Int) + 1)])) = .ok (.ref dk) (m.set bk (.lst [.ref dk, .int ((a : Int) + 1)])) := by rw [ixD_ref hbr]; rfl
      simp [S__law_draw, envOf, h0, gSetL, hset, h2, fLen_ref hdr, hlt, ixD_ref hdr, h1, hj]
      rfl
    · refine ⟨(a : Int) * 7 % j, Int.emod_nonneg _ (by omega), Int.emod_lt_of_pos _ hj, ?_⟩
      have h2 : ixD (.ref bk) (.int 0) (m.set bk (.lst [.ref dk, .int ((a : Int) + 1)])) = .ok (.ref dk) (m.set bk (.lst [.ref dk, .int ((a : Int) + 1)])) := by rw [ixD_ref hbr]; rfl
      simp [S__law_draw, envOf, h0, gSetL, hset, h2, fLen_ref hdr, hlt, hj]
      rfl
  obtain ⟨v, h1, h2, h3⟩ := key
  refine ⟨v, h1, h2, ?_⟩
  obtain ⟨fl, m', e, h4, rfl⟩ := h3.ex
  show runD 3 2 S__law_draw _ _ = _
  unfold runD
  rw [if_pos (show [DV.ref bk, DV.int j].length = 2 from rfl), e]
  cases fl with
  | rt d => cases h4; exact hgc v
  | nx e => cases h4
  | bk e => cases h4
  | ct e => cases h4
end My

end
section
set_option Elab.async false
set_option linter.all false
set_option maxRecDepth 100000
set_option maxHeartbeats 4000000
set_option autoImplicit false
namespace My
open PySem PySem.Spec L2 DL
theorem whole_th {n : Nat} {d : DV} {m : Mem} (h : Th m n d) : D_is_whole [d] m = .ok (.bl d.isIntB) m := by
  refine run_pure rfl ?_ trivial
  simp [S_is_whole, envOf, isI_th_int h, isI_th_bool h]
  cases d <;> simp [DV.isIntLike, DV.isBlB, DV.isIntB, Fl.val] <;> exact Grow.refl m
theorem between_th {n : Nat} {d : DV} {m : Mem} (h : Th m n d) (a b : Int) : D_is_between [d, .int a, .int b] m = .ok (.bl (d.btw a b)) m := by
  refine run_pure rfl ?_ trivial
  simp [S_is_between, envOf, whole_th h]
  cases d with
  | int i =>
    simp [DV.isIntB, DV.btw]
    by_cases h1 : a ≤ i
    · simp [h1, Fl.val]; exact Grow.refl m
    · simp [h1, Fl.val]; exact Grow.refl m
  | _ => simp [DV.isIntB, DV.btw, Fl.val] <;> exact Grow.refl m
theorem lwhole_th {n : Nat} {d : DV} {m : Mem} (h : Th m n d) (a b : Int) : D__law_whole [d, .int a, .int b] m = .ok (.bl (d.btw a b)) m := by
  refine run_pure rfl ?_ trivial
  simp [S__law_whole, envOf, isI_th_int h, isI_th_bool h]
  cases d with
  | int i =>
    simp [DV.isIntLike, DV.isBlB, DV.btw]
    by_cases h1 : a ≤ i
    · simp [h1, Fl.val]; exact Grow.refl m
    · simp [h1, Fl.val]; exact Grow.refl m
  | _ => simp [DV.isIntLike, DV.isBlB, DV.btw, Fl.val] <;> exact Grow.refl m
theorem lwhole_from {n : Nat} {d : DV} {m : Mem} (h : Th m n d) (a : Int) : D__law_whole [d, .int a, .non] m = .ok (.bl (d.from a)) m := by
  refine run_pure rfl ?_ trivial
  simp [S__law_whole, envOf, isI_th_int h, isI_th_bool h]
  cases d with
  | int i =>
    simp [DV.isIntLike, DV.isBlB, DV.from]
    by_cases h1 : a ≤ i
    · simp [h1, Fl.val]; exact Grow.refl m
    · simp [h1, Fl.val]; exact Grow.refl m
  | _ => simp [DV.isIntLike, DV.isBlB, DV.from, Fl.val] <;> exact Grow.refl m
/-- the row of a day -/
def rowB : DV → Bool
  | .tup [a, b, c] => a.btw 0 99 && (b.btw 0 999 && c.btw 0 99)
  | _ => false
theorem row_th {n : Nat} {d : DV} {m : Mem} (h : Th m n d) : D__is_day_row [d] m = .ok (.bl (rowB d)) m := by
  refine run_pure rfl ?_ trivial
  cases d with
  | tup ds =>
    cases n with
    | zero => exact h.elim
    | succ n =>
      match ds, h with
      | [], h => simp [S__is_day_row, envOf, rowB, Fl.val]; exact Grow.refl m
      | [a], h => simp [S__is_day_row, envOf, rowB, Fl.val]; exact Grow.refl m
      | [a, b], h => simp [S__is_day_row, envOf, rowB, Fl.val]; exact Grow.refl m
      | [a, b, c], h =>
        have ha := h.2 a (by simp)
        have hb := h.2 b (by simp)
        have hc := h.2 c (by simp)
        simp [S__is_day_row, envOf, rowB, between_th ha, between_th hb, between_th hc]
        cases a.btw 0 99 <;> cases b.btw 0 999 <;> simp [Fl.val] <;> exact Grow.refl m
      | a :: b :: c :: e :: r, h =>
        have : ¬ ((r.length : Int) + 1 + 1 + 1 + 1 = 3) := by omega
        simp [S__is_day_row, envOf, rowB, this, Fl.val]; exact Grow.refl m
  | ref k => simp [S__is_day_row, envOf, isI_th_tuple h, DV.isTupB, rowB, Fl.val]; exact Grow.refl m
  | _ => simp [S__is_day_row, envOf, isI_th_tuple h, DV.isTupB, rowB, Fl.val]; exact Grow.refl m
def lotsB : DV → Bool
  | .tup [x, .tup rs] => x.isS "lots" && (decide (1 ≤ rs.length) && decide (rs.length ≤ 12) && rs.all rowB)
  | _ => false
theorem fit_lots : strFit "lots" := by
  constructor <;> decide +kernel
theorem lots_th {n : Nat} {d : DV} {m : Mem} (h : Th m n d) (hn : n ≤ 60) : D_is_lots [d] m = .ok (.bl (lotsB d)) m := by
  refine run_pure rfl ?_ trivial
  cases d with
  | tup ds =>
    cases n with
    | zero => exact h.elim
    | succ n =>
      match ds, h with
      | [], h => simp [S_is_lots, envOf, lotsB, Fl.val]; exact Grow.refl m
      | [a], h => simp [S_is_lots, envOf, lotsB, Fl.val]; exact Grow.refl m
      | [x, y], h =>
        have hx := h.2 x (by simp)
        have hy := h.2 y (by simp)
        cases y with
        | tup rs =>
          have hall : ∀ m, Grow m m → Th m (n + 1) (.tup [x, .tup rs]) → c_is_lots_2 [some (.tup [x, .tup rs]), none] m = .ok (.bl (rs.all rowB)) m := fun m _ h => by
            have hy := h.2 (.tup rs) (by simp)
            cases n with
            | zero => exact hy.elim
            | succ n =>
              refine (comp_all (m1 := m) (gs := []) (xs := rs) (g := id) (fun _ => true) rowB ?_ (guard_nil m) (by have := hy.1; omega) (Grow.refl m) ?_).trans (by rw [List.filter_eq_self.mpr fun _ _ => rfl])
              · rw [iAny_tup (m1 := m) (ds := rs) (by simp), List.map_id]
              · intro r hr m' hg
                simp [row_th ((hy.2 r hr).grow hg)]
          have hc := hall m (Grow.refl m) h
          simp [S_is_lots, envOf, lotsB, th_ne_str hx (by omega) fit_lots, hc]
          by_cases h1 : x.isS "lots" = true
          · simp [h1]
            by_cases h2 : 1 ≤ rs.length
            · have h2' : (1 : Int) ≤ (rs.length : Int) := by omega
              by_cases h3 : rs.length ≤ 12
              · have h3' : (rs.length : Int) ≤ 12 := by omega
                simp [h2, h2', h3, h3', Fl.val]; exact Grow.refl m
              · have h3' : ¬ (rs.length : Int) ≤ 12 := by omega
                simp [h2, h2', h3, h3', Fl.val]; exact Grow.refl m
            · have h2' : ¬ (1 : Int) ≤ (rs.length : Int) := by omega
              simp [h2, h2', Fl.val]; exact Grow.refl m
          · simp [h1, Fl.val]; exact Grow.refl m
        | ref k =>
          simp [S_is_lots, envOf, lotsB, th_ne_str hx (by omega) fit_lots, isI_th_tuple hy, DV.isTupB]
          by_cases h1 : x.isS "lots" = true <;> simp [h1, Fl.val] <;> exact Grow.refl m
        | _ =>
          simp [S_is_lots, envOf, lotsB, th_ne_str hx (by omega) fit_lots, isI_th_tuple hy, DV.isTupB]
          by_cases h1 : x.isS "lots" = true <;> simp [h1, Fl.val] <;> exact Grow.refl m
      | a :: b :: c :: r, h =>
        have : ¬ ((r.length : Int) + 1 + 1 + 1 = 2) := by omega
        simp [S_is_lots, envOf, lotsB, this, Fl.val]; exact Grow.refl m
  | ref k => simp [S_is_lots, envOf, isI_th_tuple h, DV.isTupB, lotsB, Fl.val]; exact Grow.refl m
  | _ => simp [S_is_lots, envOf, isI_th_tuple h, DV.isTupB, lotsB, Fl.val]; exact Grow.refl m
end My

end
section
set_option Elab.async false
set_option linter.all false
set_option maxRecDepth 100000
set_option maxHeartbeats 4000000
set_option autoImplicit false
namespace My
open PySem PySem.Spec L2 DL
theorem join_one (y : Str) : Txt.join (Str.ofString "") [y] = y := by
  rw [TL.join_eq]
  simp [Str.join]
theorem like_str {n : Nat} {x : DV} {z : Str} {m : Mem} (h : Th m n x) (hn : n ≤ 60) (hz : strFit z) (j : Nat) : D__law_like (j + 1) [x, .str z] m = .ok (.bl (x.isS z)) m := by
  refine run_pure rfl ?_ trivial
  have hs : ∀ y m, x = .str y → c__law_like_4 [some (.str y), some (.str z), none] m = .ok (.bl (y == z)) m := by
    intro y m e
    subst e
    have hy : strFit y := by simpa using h
    have c3 : c__law_like_3 [some (.str y), some (.str z), none] m = .ok (.str y) m := by
      refine gc_pure (m' := m ++ [.lst [.str y]]) ?_ (Grow.app _ _) trivial
      have hl : y.length ≤ 16777216 := by have := hy.2; omega
      have hl2 : y.length + (Str.ofString "").length ≤ 16777216 := by
        have e0 : (Str.ofString "").length = 0 := by decide
        omega
      simp [eJoin, joinD, seqOf, strsOf, join_one, hl2]
    refine gc_pure (m' := m) ?_ (Grow.refl m) trivial
    simp [c3]
    exact th_eq_str (n := 0) (by simpa using hy) (by omega) hz
  have t1 : isI "tuple" (.str z) m = .ok (.bl false) m := isI_th_tuple (n := 0) (by simpa using hz)
  have t2 : isI "str" (.str z) m = .ok (.bl true) m := isI_th_str (n := 0) (by simpa using hz)
  cases x with
  | str y => simp [S__law_like, envOf, t1, t2, isBD, isI_th_str h, DV.isStrB, hs y m rfl, DV.isS]; exact ⟨rfl, Grow.refl m⟩
  | ref k => simp [S__law_like, envOf, t1, t2, isBD, isI_th_str h, DV.isStrB, DV.isS]; exact ⟨rfl, Grow.refl m⟩
  | _ => simp [S__law_like, envOf, t1, t2, isBD, isI_th_str h, DV.isStrB, DV.isS]; exact ⟨rfl, Grow.refl m⟩
theorem like_bl (a b : Bool) (m : Mem) (j : Nat) : D__law_like (j + 1) [.bl a, .bl b] m = .ok (.bl (a == b)) m := by
  refine run_pure rfl ?_ trivial
  have t1 : isI "tuple" (.bl b) m = .ok (.bl false) m := isI_th_tuple (n := 0) (by simp)
  cases a <;> cases b <;> simp [S__law_like, envOf, t1, isBD, Fl.val] <;> exact Grow.refl m
def optD : Option Int → DV
  | none => .non
  | some i => .int i
theorem like_opt (a b : Option Int) (m : Mem) (j : Nat) : D__law_like (j + 1) [optD a, optD b] m = .ok (.bl (decide (a = b))) m := by
  refine run_pure rfl ?_ trivial
  have t1 : ∀ b, isI "tuple" (optD b) m = .ok (.bl false) m := fun b => by cases b <;> exact isI_th_tuple (n := 0) (by simp [optD])
  have t2 : ∀ b, isI "str" (.int b) m = .ok (.bl false) m := fun b => isI_th_str (n := 0) (by simp)
  have t3 : isI "int" .non m = .ok (.bl false) m := isI_th_int (n := 0) (by simp)
  cases b with
  | none => cases a <;> simp [S__law_like, envOf, t1, optD, Fl.val, isI_th_tuple (m := m) (n := 0) (d := .non) (by simp), DV.isTupB] <;> exact Grow.refl m
  | some b =>
    cases a with
    | none => simp [S__law_like, envOf, optD, Fl.val, isI_th_tuple (m := m) (n := 0) (d := .int b) (by simp), DV.isTupB, isBD, t2, t3]; exact Grow.refl m
    | some a =>
      simp [S__law_like, envOf, optD, Fl.val, isI_th_tuple (m := m) (n := 0) (d := .int b) (by simp), DV.isTupB, isBD, t2]
      exact Grow.refl m

theorem lrow_step {n : Nat} {d : DV} {m : Mem} (h : Th m n d) (x0 : DV) : (b__law_is_lots_1 [some x0, some d] m).sat fun fl m' => m' = m ∧ fl = (if rowB d then .nx [some x0, some d] else .rt (.bl false)) := by
  cases d with
  | tup ds =>
    cases n with
    | zero => exact h.elim
    | succ n =>
      match ds, h with
      | [], h => simp [b__law_is_lots_1, rowB]
      | [a], h => simp [b__law_is_lots_1, rowB]
      | [a, b], h => simp [b__law_is_lots_1, rowB]
      | [a, b, c], h =>
        have ha := h.2 a (by simp)
        have hb := h.2 b (by simp)
        have hc := h.2 c (by simp)
        simp [b__law_is_lots_1, rowB, lwhole_th ha, lwhole_th hb, lwhole_th hc]
        cases a.btw 0 99 <;> cases b.btw 0 999 <;> cases c.btw 0 99 <;> simp
      | a :: b :: c :: e :: r, h =>
        have : ¬ ((r.length : Int) + 1 + 1 + 1 + 1 = 3) := by omega
        simp [b__law_is_lots_1, rowB, this]
  | ref k => simp [b__law_is_lots_1, isI_th_tuple h, DV.isTupB, rowB]
  | _ => simp [b__law_is_lots_1, isI_th_tuple h, DV.isTupB, rowB]
theorem llots_th {n : Nat} {d : DV} {m : Mem} (h : Th m n d) (hn : n ≤ 60) : D__law_is_lots [d] m = .ok (.bl (lotsB d)) m := by
  refine run_pure rfl ?_ trivial
  cases d with
  | tup ds =>
    cases n with
    | zero => exact h.elim
    | succ n =>
      match ds, h with
      | [], h => simp [S__law_is_lots, envOf, lotsB, Fl.val]; exact Grow.refl m
      | [a], h => simp [S__law_is_lots, envOf, lotsB, Fl.val]; exact Grow.refl m
      | [x, y], h =>
        have hx := h.2 x (by simp)
        have hy := h.2 y (by simp)
        have hlk := like_str hx (by omega) fit_lots 9
        cases y with
        | tup rs =>
          simp [S__law_is_lots, envOf, lotsB, hlk]
          by_cases h1 : x.isS "lots" = true
          · simp [h1]
            by_cases h2 : 1 ≤ rs.length
            · have h2' : (1 : Int) ≤ (rs.length : Int) := by omega
              by_cases h3 : rs.length ≤ 12
              · have h3' : (rs.length : Int) ≤ 12 := by omega
                simp [h2, h2', h3, h3']
                have hr : ∀ r ∈ rs, Th m n r := fun r hr => by
                  cases n with
                  | zero => exact hy.elim
                  | succ n => exact (hy.2 r hr).up
                refine sFor_of (iAny_tup (m1 := m) (ds := rs) (by simp)) (fun i env m' => m' = m ∧ (∃ o, env = [some (.tup [x, .tup rs]), o]) ∧ (rs.take i).all rowB = true) ⟨rfl, ⟨none, rfl⟩, by simp⟩ (fun i env m' _ => guard_nil m') ?_ ?_
                · rintro i r env m' hd ⟨rfl, ⟨o, rfl⟩, ht⟩
                  simp only [gVar_eq, sat_ok]
                  refine (lrow_step (hr r (List.mem_of_getElem? hd)) _).mono ?_
                  rintro fl m2 ⟨rfl, rfl⟩
                  by_cases hb : rowB r = true
                  · simp [hb]
                    intro q hq
                    rw [List.take_add_one, hd] at hq
                    rcases List.mem_append.mp hq with g | g
                    · exact List.all_eq_true.mp ht q g
                    · simp at g; rw [g]; exact hb
                  · simp [hb, Fl.val]
                    refine ⟨⟨r, List.mem_of_getElem? hd, by simpa using hb⟩, Grow.refl _⟩
                · rintro env m' ⟨rfl, ⟨o, rfl⟩, ht⟩
                  rw [List.take_length] at ht
                  rw [ht]
                  simp [Fl.val]
                  exact Grow.refl _
              · have h3' : ¬ (rs.length : Int) ≤ 12 := by omega
                simp [h2, h2', h3, h3', Fl.val]; exact Grow.refl m
            · have h2' : ¬ (1 : Int) ≤ (rs.length : Int) := by omega
              simp [h2, h2', Fl.val]; exact Grow.refl m
          · simp [h1, Fl.val]; exact Grow.refl m
        | ref k =>
          simp [S__law_is_lots, envOf, lotsB, hlk, isI_th_tuple hy, DV.isTupB]
          by_cases h1 : x.isS "lots" = true <;> simp [h1, Fl.val] <;> exact Grow.refl m
        | _ =>
          simp [S__law_is_lots, envOf, lotsB, hlk, isI_th_tuple hy, DV.isTupB]
          by_cases h1 : x.isS "lots" = true <;> simp [h1, Fl.val] <;> exact Grow.refl m
      | a :: b :: c :: r, h =>
        have : ¬ ((r.length : Int) + 1 + 1 + 1 = 2) := by omega
        simp [S__law_is_lots, envOf, lotsB, this, Fl.val]; exact Grow.refl m
  | ref k => simp [S__law_is_lots, envOf, isI_th_tuple h, DV.isTupB, lotsB, Fl.val]; exact Grow.refl m
  | _ => simp [S__law_is_lots, envOf, isI_th_tuple h, DV.isTupB, lotsB, Fl.val]; exact Grow.refl m
end My

end
section
set_option Elab.async false
set_option linter.all false
set_option maxRecDepth 100000
set_option maxHeartbeats 4000000
set_option autoImplicit false
namespace My
open PySem PySem.Spec L2 DL
theorem gcT_grow {T : DT} {env : DL.Env} {m m' : Mem} {b : Bool} (h : T env m = .ok b m') (g : Grow m m') : gcT T env m = .ok b m := by
  unfold gcT
  rw [h]
  simp only [if_pos g.old, g.take]
theorem P_step (rows : List Row) (t : Nat) : (dat rows).P (t + 1) = (dat rows).P t + (rowAt rows t).2.2 := by
  show ((rows.take (t + 1)).map (·.2.2)).sum = ((rows.take t).map (·.2.2)).sum + _
  by_cases h : t < rows.length
  · have e : rowAt rows t = rows[t] := by simp [rowAt, List.getD_eq_getElem?_getD, List.getElem?_eq_getElem h]
    rw [List.take_add_one, List.getElem?_eq_getElem h, List.map_append, List.sum_append, e]
    simp only [Option.toList_some, List.map_cons, List.map_nil, List.sum_cons, List.sum_nil, Int.add_zero]
  · rw [List.take_of_length_le (by omega), List.take_of_length_le (by omega)]
    simp [rowAt, List.getD_eq_getElem?_getD, List.getElem?_eq_none (Nat.le_of_not_lt h)]
theorem P_sum (rows : List Row) (f : Nat) : ∀ n : Nat, ((List.range n).map fun i => (rowAt rows (f + i)).2.2).sum = (dat rows).P (f + n) - (dat rows).P f
  | 0 => by simp
  | n + 1 => by
    rw [sum_rs (fun i => (rowAt rows (f + i)).2.2), P_sum rows f n, ← Nat.add_assoc, P_step]; omega
theorem lkept_eq {rows : List Row} (ok : Okr rows) {f l : Nat} (hf : f ≤ l) (hl : l < rows.length) (m : Mem) : D__law_kept [encL rows, .int (f : Int), .int (l : Int)] m = .ok (.int ((dat rows).K f l)) m := by
  refine run_pure rfl ?_ trivial
  have hc : ∀ m, c__law_kept_2 [some (encL rows), some (.int (f : Int)), some (.int (l : Int)), none] m = .ok (.int ((dat rows).P l - (dat rows).P f)) m := fun m => by
    have := ok.len
    refine (comp_sum (m1 := m) (gs := []) (xs := List.range (l - f)) (g := fun i => .int ((f + i : Nat) : Int)) (fun _ => true) (fun i => (rowAt rows (f + i)).2.2) ?_ (guard_nil m) (by simp; omega) (Grow.refl m) ?_).trans (by rw [filt_all, P_sum, show f + (l - f) = l by omega])
    · rw [rng2_eq (m1 := m) (m2 := m) (a := f) (b := l) (by simp) (by simp) (by omega) (by omega)]
    · intro x hx m' _
      have := List.mem_range.mp hx
      have e := ix_rows (rows := rows) (l := f + x) (by omega) m'
      simp only [Int.natCast_add] at e
      simp [e]
  have := ok.bnd _ (row_mem hl)
  simp [S__law_kept, envOf, hc, ix_rows hl]
  exact ⟨.inl ⟨by omega, by omega⟩, rfl, Grow.refl m⟩
def Cov (rows : List Row) (made : List Nat) : Prop := ∀ u, u < rows.length → 0 < want rows u → ∃ x ∈ made, x ≤ u
open Classical in
noncomputable def costO (rows : List Row) (made : List Nat) : Option Int := if Cov rows made then some (Lots.cost (dat rows) made rows.length) else none
theorem least_of {p : Nat → Prop} : ∀ n, p n → ∃ u, u ≤ n ∧ p u ∧ ∀ v, v < u → ¬ p v := by
  intro n
  induction n using Nat.strongRecOn with
  | ind n ih =>
    intro hn
    by_cases h : ∃ v, v < n ∧ p v
    · obtain ⟨v, h1, h2⟩ := h
      obtain ⟨u, h3, h4, h5⟩ := ih v h1 h2
      exact ⟨u, by omega, h4, h5⟩
    · exact ⟨n, Nat.le_refl _, hn, fun v hv hp => h ⟨v, hv, hp⟩⟩
theorem not_cov {rows : List Row} {made : List Nat} (h : ¬ Cov rows made) : ∃ u, u < rows.length ∧ 0 < want rows u ∧ (∀ x ∈ made, u < x) ∧ ∀ v, v < u → 0 < want rows v → ∃ x ∈ made, x ≤ v := by
  have : ∃ u, u < rows.length ∧ 0 < want rows u ∧ ∀ x ∈ made, u < x := by
    apply Classical.byContradiction
    intro g
    refine h fun u hu hw => Classical.byContradiction fun q => g ⟨u, hu, hw, fun x hx => ?_⟩
    rcases Nat.lt_or_ge u x with r | r
    · exact r
    · exact absurd ⟨x, hx, r⟩ q
  obtain ⟨u0, h0⟩ := this
  obtain ⟨u, h1, ⟨h2, h3, h4⟩, h5⟩ := least_of (p := fun u => u < rows.length ∧ 0 < want rows u ∧ ∀ x ∈ made, u < x) u0 h0
  refine ⟨u, h2, h3, h4, fun v hv hw => Classical.byContradiction fun q => h5 v hv ⟨by omega, hw, fun x hx => ?_⟩⟩
  rcases Nat.lt_or_ge v x with r | r
  · exact r
  · exact absurd ⟨x, hx, r⟩ q
theorem ahead_ne {made : List Nat} {i : Nat} (h : ∃ x ∈ made, x ≤ i) : (made.filter fun x => decide (x ≤ i)) ≠ [] := by
  obtain ⟨x, hx, hxi⟩ := h
  intro e
  have : x ∈ made.filter fun x => decide (x ≤ i) := List.mem_filter.mpr ⟨hx, by simpa using hxi⟩
  rw [e] at this; cases this
theorem ahead_nil {made : List Nat} {i : Nat} (h : ∀ x ∈ made, i < x) : (made.filter fun x => decide (x ≤ i)) = [] := by
  rw [List.filter_eq_nil_iff]
  intro x hx
  have := h x hx
  simp; omega
theorem last_of {made : List Nat} {i : Nat} (hne : (made.filter fun x => decide (x ≤ i)) ≠ []) : Lots.lastOf made i = (made.filter fun x => decide (x ≤ i)).getLast hne ∧ Lots.lastOf made i ≤ i := by
  have h1 : Lots.lastOf made i = (made.filter fun x => decide (x ≤ i)).getLast hne := by
    unfold Lots.lastOf; rw [List.getLast?_eq_some_getLast hne]; rfl
  refine ⟨h1, ?_⟩
  rw [h1]
  simpa using (List.mem_filter.mp (List.getLast_mem hne)).2
theorem lots_cost_no {rows : List Row} (ok : Okr rows) {made : List Nat} (hl : made.length ≤ 1000) (hm : ∀ x ∈ made, x < rows.length) (hc : ¬ Cov rows made) (m : Mem) :
    D_lots_cost [encL rows, encD made] m = .ok .non m := by
  obtain ⟨u, hu, hwu, hun, hcov⟩ := not_cov hc
  refine run_pure rfl ?_ trivial
  have c2 : ∀ m, c_lots_cost_2 [some (encL rows), some (encD made), none, none, none, none, none] m = .ok (.int (made.map (setup rows)).sum) m := fun m => by
    refine (comp_sum (m1 := m) (gs := []) (xs := made) (g := fun x => .int (x : Int)) (fun _ => true) (setup rows) ?_ (guard_nil m) (by omega) (Grow.refl m) ?_).trans (by rw [filt_all])
    · rw [iAny_tup (m1 := m) (ds := made.map fun (x : Nat) => .int (x : Int)) (by simp [encD])]
    · intro x hx m' _
      simp [ix_rows (hm x hx), setup]
  have c3 : ∀ (day : Nat) x2 x4 x5 m, c_lots_cost_3 [some (encL rows), some (encD made), x2, some (.int (day : Int)), x4, x5, none] m = .ok (.ref m.length) (m ++ [.lst ((made.filter fun x => decide (x ≤ day)).map fun (x : Nat) => .int (x : Int))]) := fun day x2 x4 x5 m => by
    refine comp_pure (gs := []) (xs := made) (g := fun x => .int (x : Int)) (fun x => decide (x ≤ day)) (fun (x : Nat) => .int (x : Int)) ?_ (guard_nil m) (by omega) ?_
    · rw [iAny_tup (m1 := m) (ds := made.map fun (x : Nat) => .int (x : Int)) (by simp [encD])]
    · intro x hx m' _
      simp [tst]
  simp [S_lots_cost, envOf, c2]
  refine sFor_of (iEnum_tup (m1 := m) (ds := rows.map encR) (by simp)) (fun i env m' => i ≤ u ∧ ∃ (v : Int) (x3 x4 x5 : Option DV), env = [some (encL rows), some (encD made), some (.int v), x3, x4, x5, none] ∧ Grow m m') ⟨Nat.zero_le _, _, none, none, none, rfl, Grow.refl m⟩ (fun i env m' _ => guard_nil m') ?_ ?_
  · rintro i d env m' hd ⟨hiu, v, x3, x4, x5, rfl, hg⟩
    obtain ⟨r, hr, rfl⟩ := enm_get hd
    have hi : i < rows.length := by omega
    rw [row_at hi] at hr
    cases hr
    simp only [Nat.zero_add]
    simp [b_lots_cost_1]
    by_cases hw : 0 < (rowAt rows i).1
    · rw [if_pos hw, c3]
      by_cases e : i = u
      · subst e
        rw [ahead_nil hun]
        simp [truD, Fl.val]
        exact hg.trans (Grow.app _ _)
      · have hne := ahead_ne (hcov i (by omega) hw)
        obtain ⟨hlast, hle⟩ := last_of hne
        generalize (made.filter fun x => decide (x ≤ i)) = ah at hne hlast
        simp [truD]
        rw [if_neg hne, ixD_ref (xs := ah.map fun (x : Nat) => .int (x : Int)) (by simp), DL.atI_last, List.getLast?_map, List.getLast?_eq_some_getLast hne, ← hlast]
        simp [kept_eq ok hi]
        exact ⟨by omega, hg.trans (Grow.app _ _)⟩
    · rw [if_neg hw]
      have : i ≠ u := by rintro rfl; exact hw hwu
      exact ⟨by omega, hg⟩
  · rintro env m' ⟨hiu, v, x3, x4, x5, rfl, hg⟩
    rw [enm_len, List.length_map] at hiu
    omega
theorem lots_cost_all {rows : List Row} (ok : Okr rows) {made : List Nat} (hl : made.length ≤ 1000) (hm : ∀ x ∈ made, x < rows.length) (m : Mem) : D_lots_cost [encL rows, encD made] m = .ok (optD (costO rows made)) m := by
  by_cases hc : Cov rows made
  · rw [lots_cost_eq ok hl hm hc, costO, if_pos hc]; rfl
  · rw [lots_cost_no ok hl hm hc, costO, if_neg hc]; rfl
end My

end
section
set_option Elab.async false
set_option linter.all false
set_option maxRecDepth 100000
set_option maxHeartbeats 4000000
set_option autoImplicit false
namespace My
open PySem PySem.Spec L2 DL
theorem lcost_step {rows : List Row} (ok : Okr rows) {made : List Nat} (hl : made.length ≤ 1000) {i : Nat} (hi : i < rows.length) (v : Int) (x4 : Option DV) (m : Mem) :
    (b__law_cost_1 [some (encL rows), some (encD made), some (.int v), some (.int (i : Int)), x4, none] m).sat fun fl m' => Grow m m' ∧
      (((0 < want rows i ∧ ∀ x ∈ made, i < x) ∧ fl = .rt .non) ∨ ((0 < want rows i → ∃ x ∈ made, x ≤ i) ∧ ∃ y4, fl = .nx [some (encL rows), some (encD made), some (.int (v + (dat rows).K (Lots.lastOf made i) i)), some (.int (i : Int)), y4, none])) := by
  have c3 : ∀ x2 m, c__law_cost_3 [some (encL rows), some (encD made), x2, some (.int (i : Int)), x4, none] m = .ok (.ref m.length) (m ++ [.lst ((made.filter fun x => decide (x ≤ i)).map fun (x : Nat) => .int (x : Int))]) := fun x2 m => by
    refine comp_pure (gs := []) (xs := made) (g := fun x => .int (x : Int)) (fun x => decide (x ≤ i)) (fun (x : Nat) => .int (x : Int)) ?_ (guard_nil m) (by omega) ?_
    · rw [iAny_tup (m1 := m) (ds := made.map fun (x : Nat) => .int (x : Int)) (by simp [encD])]
    · intro x hx m' _
      simp [tst]
  simp [b__law_cost_1, ix_rows hi]
  by_cases hw : 0 < (rowAt rows i).1
  · have hw2 : 0 < want rows i := hw
    rw [if_pos hw, c3]
    have t1 : ∀ (ah : List Nat) x2 x3, t__law_cost_1 [some (encL rows), some (encD made), x2, x3, some (.ref m.length), none] (m ++ [.lst (ah.map fun (x : Nat) => .int (x : Int))]) = .ok ah.isEmpty (m ++ [.lst (ah.map fun (x : Nat) => .int (x : Int))]) := fun ah x2 x3 => by
      refine gcT_grow (m' := (m ++ [.lst (ah.map fun (x : Nat) => .int (x : Int))]) ++ [.lst []]) ?_ (Grow.app _ _)
      have e : ah.map (fun (x : Nat) => DV.int (x : Int)) = (ah.map fun (x : Nat) => (x : Int)).map .int := by rw [List.map_map]; rfl
      have h1 := eq_nilL (m := (m ++ [.lst (ah.map fun (x : Nat) => .int (x : Int))]) ++ [.lst []]) (k := m.length) (j := m.length + 1) (is := ah.map fun (x : Nat) => (x : Int)) (by rw [← e, List.append_assoc]; exact at0) (by rw [List.append_assoc]; exact at1)
      have hlen : (m ++ [MO.lst (ah.map fun (x : Nat) => DV.int (x : Int))]).length = m.length + 1 := by simp
      simp only [tst, eBin_eq, eVar_eq, eLst_eq, aNil_eq, Out.bind_ok, List.getElem?_cons_succ, List.getElem?_cons_zero, List.length_nil, szOk_0, if_true, hlen, h1]
      cases ah <;> rfl
    by_cases hc : ∀ x ∈ made, i < x
    · rw [ahead_nil hc]
      have t0 := t1 [] (some (.int v)) (some (.int (i : Int)))
      simp only [List.map_nil, List.isEmpty_nil] at t0
      simp [t0]
      exact ⟨Grow.app _ _, hw2, hc⟩
    · have hc2 : ∃ x ∈ made, x ≤ i := Classical.byContradiction fun q => hc fun x hx => by
        rcases Nat.lt_or_ge i x with r | r
        · exact r
        · exact absurd ⟨x, hx, r⟩ q
      have hne := ahead_ne hc2
      obtain ⟨hlast, hle⟩ := last_of hne
      generalize (made.filter fun x => decide (x ≤ i)) = ah at hne hlast
      have he : ah.isEmpty = false := by cases ah with
        | nil => exact absurd rfl hne
        | cons _ _ => rfl
      simp [t1, he]
      rw [ixD_ref (xs := ah.map fun (x : Nat) => .int (x : Int)) (by simp), DL.atI_last, List.getLast?_map, List.getLast?_eq_some_getLast hne, ← hlast]
      simp [lkept_eq ok hle hi]
      exact ⟨Grow.app _ _, fun _ => hc2⟩
  · rw [if_neg hw]
    have hw0 : want rows i = 0 := by have := ok.bnd _ (row_mem hi); unfold want; omega
    have hk : (dat rows).K (Lots.lastOf made i) i = 0 := Lots.K_zero (D := dat rows) hw0
    rw [hk, Int.add_zero]
    exact ⟨Grow.refl m, fun h => by omega, rfl⟩
theorem lcost_all {rows : List Row} (ok : Okr rows) {made : List Nat} (hl : made.length ≤ 1000) (hm : ∀ x ∈ made, x < rows.length) (m : Mem) : D__law_cost [encL rows, encD made] m = .ok (optD (costO rows made)) m := by
  have hn := ok.len
  refine run_pure rfl ?_ (by cases costO rows made <;> trivial)
  have c2 : ∀ m, c__law_cost_2 [some (encL rows), some (encD made), none, none, none, none] m = .ok (.int (made.map (setup rows)).sum) m := fun m => by
    refine (comp_sum (m1 := m) (gs := []) (xs := made) (g := fun x => .int (x : Int)) (fun _ => true) (setup rows) ?_ (guard_nil m) (by omega) (Grow.refl m) ?_).trans (by rw [filt_all])
    · rw [iAny_tup (m1 := m) (ds := made.map fun (x : Nat) => .int (x : Int)) (by simp [encD])]
    · intro x hx m' _
      simp [ix_rows (hm x hx), setup]
  simp [S__law_cost, envOf, c2]
  refine sFor_of (rng1_eq (m1 := m) (n := rows.length) (by simp) (by omega)) (fun i env m' => (∀ u, u < i → 0 < want rows u → ∃ x ∈ made, x ≤ u) ∧ ∃ x3 x4, env = [some (encL rows), some (encD made), some (.int ((made.map (setup rows)).sum + ((List.range i).map fun u => (dat rows).K (Lots.lastOf made u) u).sum)), x3, x4, none] ∧ Grow m m') ⟨fun u hu => by omega, none, none, by simp, Grow.refl m⟩ (fun i env m' _ => guard_nil m') ?_ ?_
  · rintro i d env m' hd ⟨hcov, x3, x4, rfl, hg⟩
    have hi : i < rows.length := by have := (List.getElem?_eq_some_iff.mp hd).1; simpa using this
    rw [List.getElem?_map, List.getElem?_range hi] at hd
    cases hd
    simp only [gVar_eq, sat_ok]
    refine (lcost_step ok hl hi _ x4 m').mono ?_
    rintro fl m2 ⟨g2, ⟨⟨h1, h2⟩, rfl⟩ | ⟨h1, y4, rfl⟩⟩
    · have : ¬ Cov rows made := fun c => by
        obtain ⟨x, hx, hxi⟩ := c i hi h1
        have := h2 x hx
        omega
      simp [costO, this, optD, Fl.val]
      exact hg.trans g2
    · refine ⟨fun u hu hw => ?_, some (.int (i : Int)), y4, ?_, hg.trans g2⟩
      · by_cases e : u = i
        · subst e; exact h1 hw
        · exact hcov u (by omega) hw
      · rw [sum_rs, Int.add_assoc]
  · rintro env m' ⟨hcov, x3, x4, rfl, hg⟩
    rw [List.length_map, List.length_range] at hcov ⊢
    have hC : Cov rows made := hcov
    simp [costO, hC, optD, Lots.cost, Fl.val]
    exact ⟨rfl, hg⟩
end My

end
section
set_option Elab.async false
set_option linter.all false
set_option maxRecDepth 100000
set_option maxHeartbeats 4000000
set_option autoImplicit false
namespace My
open PySem PySem.Spec L2 DL
def pr (prices : List Int) (i : Nat) : Int := prices.getD i 0
def overP (rows : List Row) (prices : List Int) (i : Nat) : Int := ((List.range (rows.length - i)).map fun k => max 0 (pr prices (i + k) - (dat rows).K i (i + k))).sum
def encI (prices : List Int) : DV := .tup (prices.map .int)
theorem encI_range (prices : List Int) : prices.map DV.int = (List.range prices.length).map fun i => DV.int (pr prices i) := by
  apply List.ext_getElem
  · simp
  · intro i h1 h2
    have hi : i < prices.length := by simpa using h1
    simp [pr, List.getD_eq_getElem?_getD, List.getElem?_eq_getElem hi]
theorem pr_at {prices : List Int} {i : Nat} (h : i < prices.length) : atI (prices.map DV.int) (i : Int) = some (.int (pr prices i)) := by
  rw [DL.atI_nat, List.getElem?_map, List.getElem?_eq_getElem h]
  simp [pr, List.getD_eq_getElem?_getD, List.getElem?_eq_getElem h]
structure Right (rows : List Row) (prices : List Int) : Prop where
  zero : ∀ i, i < rows.length → want rows i = 0 → pr prices i = 0
  over : ∀ i, i < rows.length → overP rows prices i ≤ setup rows i
open Classical in
theorem prices_ints {rows : List Row} (ok : Okr rows) {prices : List Int} (hpl : prices.length = rows.length) (hnn : ∀ p ∈ prices, 0 ≤ p) (m : Mem) : D__are_prices [encL rows, encI prices] m = .ok (.bl (decide (Right rows prices))) m := by
  have hn := ok.len
  refine run_pure rfl ?_ trivial
  have c2 : ∀ m, c__are_prices_2 [some (encL rows), some (encI prices), none, none, none, none, none, none] m = .ok (.bl true) m := fun m => by
    refine (comp_all (m1 := m) (gs := []) (xs := prices) (g := .int) (fun _ => true) (fun _ => true) ?_ (guard_nil m) (by omega) (Grow.refl m) ?_).trans (by simp)
    · rw [iAny_tup (m1 := m) (ds := prices.map .int) (by simp [encI])]
    · intro i hi m' _
      have := hnn i hi
      simp [eAndV, is_whole_int, this]
  have c4 : ∀ m, c__are_prices_4 [some (encL rows), some (encI prices), none, none, none, none, none, none] m = .ok (.bl ((List.range rows.length).any fun i => !decide (pr prices i = 0) && decide (want rows i = 0))) m := fun m => by
    refine (comp_any (m1 := m) (gs := []) (xs := List.range rows.length) (g := fun i => .tup [.int (pr prices i), encR (rowAt rows i)]) (fun _ => true) (fun i => !decide (pr prices i = 0) && decide (want rows i = 0)) ?_ (guard_nil m) (by simp; omega) (Grow.refl m) ?_).trans (by rw [filt_all])
    · have : iZipD (eVar 1) (eBin ixD (eVar 0) (eC (.int 1))) [some (encL rows), some (encI prices), none, none, none, none, none, none] m = .ok ⟨zp (prices.map .int) (rows.map encR), []⟩ m := by
        unfold iZipD
        simp [encI]
      rw [this, zp_eq, rows_range, encI_range, hpl, List.zip_map', List.map_map]
      rfl
    · intro i hi m' _
      simp [eAndV]
      by_cases hz : pr prices i = 0
      · simp [hz]
      · simp [hz, want]
        exact decide_eq_decide.mpr Iff.rfl
  have c5 : ∀ (day : Nat) x4 m, day < rows.length → c__are_prices_5 [some (encL rows), some (encI prices), some (.int (rows.length : Int)), some (.int (day : Int)), x4, none, none, none] m = .ok (.ref m.length) (m ++ [.lst (((List.range (rows.length - day)).map fun k => max 0 (pr prices (day + k) - (dat rows).K day (day + k))).map .int)]) := fun day x4 m hd => by
    refine (comp_pure (m1 := m) (gs := []) (xs := List.range (rows.length - day)) (g := fun k => .int ((day + k : Nat) : Int)) (fun _ => true) (fun k => .int (max 0 (pr prices (day + k) - (dat rows).K day (day + k)))) ?_ (guard_nil m) (by simp; omega) ?_).trans (by rw [filt_all, List.map_map]; rfl)
    · rw [rng2_eq (m1 := m) (m2 := m) (a := day) (b := rows.length) (by simp) (by simp) (by omega) (by omega)]
    · intro k hk m' _
      have hk' := List.mem_range.mp hk
      have e := kept_eq ok (f := day) (l := day + k) (by omega) m'
      rw [kept_K rows (by omega)] at e
      have h1 := pr_at (prices := prices) (i := day + k) (by omega)
      simp only [Int.natCast_add] at e h1
      have h2 : ∀ m, ixD (encI prices) (.int ((day : Int) + (k : Int))) m = .ok (.int (pr prices (day + k))) m := fun m => by rw [encI, ixD_tup, h1]
      simp [e, h2]
  have hlen : fLen [encI prices] m = .ok (.int (rows.length : Int)) m := by simp [encI, hpl]
  have htup : isI "tuple" (encI prices) m = .ok (.bl true) m := by simp [encI]
  simp only [S__are_prices, envOf, sSeq_sat]
  by_cases hz : (List.range rows.length).any (fun i => !decide (pr prices i = 0) && decide (want rows i = 0)) = true
  · have hno : ¬ Right rows prices := fun R => by
      obtain ⟨i, hi, h⟩ := List.any_eq_true.mp hz
      have hi' := List.mem_range.mp hi
      simp at h
      exact h.1 (R.zero i hi' h.2)
    have c4' : ∀ m, c__are_prices_4 [some (encL rows), some (encI prices), none, none, none, none, none, none] m = .ok (.bl true) m := fun m => by rw [c4, hz]
    simp [c2, c4', hlen, htup, hno, Fl.val]
    exact Grow.refl m
  · have c4' : ∀ m, c__are_prices_4 [some (encL rows), some (encI prices), none, none, none, none, none, none] m = .ok (.bl false) m := fun m => by rw [c4]; simp only [Bool.not_eq_true] at hz; rw [hz]
    have hzero : ∀ i, i < rows.length → want rows i = 0 → pr prices i = 0 := fun i hi hw => Classical.byContradiction fun q => hz (List.any_eq_true.mpr ⟨i, List.mem_range.mpr hi, by simp [q, hw]⟩)
    simp [c2, c4', hlen, htup]
    refine sFor_of (rng1_eq (m1 := m) (n := rows.length) (by simp) (by omega)) (fun i env m' => (∀ j, j < i → overP rows prices j ≤ setup rows j) ∧ ∃ x3 x4, env = [some (encL rows), some (encI prices), some (.int (rows.length : Int)), x3, x4, none, none, none] ∧ Grow m m') ⟨fun j hj => by omega, none, none, rfl, Grow.refl m⟩ (fun i env m' _ => guard_nil m') ?_ ?_
    · rintro i d env m' hd ⟨hov, x3, x4, rfl, hg⟩
      have hi : i < rows.length := by have := (List.getElem?_eq_some_iff.mp hd).1; simpa using this
      rw [List.getElem?_map, List.getElem?_range hi] at hd
      cases hd
      have hs : ∀ js : List Int, sumD (.ref m'.length) (m' ++ [.lst (js.map .int)]) = .ok (.int js.sum) (m' ++ [.lst (js.map .int)]) := fun js => sumD_at at0
      have hb := c5 i x4 m' hi
      have hdef : overP rows prices i = ((List.range (rows.length - i)).map fun k => max 0 (pr prices (i + k) - (dat rows).K i (i + k))).sum := rfl
      generalize (List.range (rows.length - i)).map (fun k => max 0 (pr prices (i + k) - (dat rows).K i (i + k))) = js at hdef hb
      simp [b__are_prices_1, hb, hs, ix_rows hi, ← hdef]
      by_cases hlt : (rowAt rows i).2.1 < overP rows prices i
      · rw [if_pos hlt]
        have hno : ¬ Right rows prices := fun R => by
          have h1 := R.over i hi
          have h2 : setup rows i = (rowAt rows i).2.1 := rfl
          omega
        simp [hno, Fl.val]
        exact hg.trans (Grow.app _ _)
      · rw [if_neg hlt]
        refine ⟨fun j hj => ?_, hg.trans (Grow.app _ _)⟩
        by_cases e : j = i
        · subst e
          have h2 : setup rows j = (rowAt rows j).2.1 := rfl
          omega
        · exact hov j (by omega)
    · rintro env m' ⟨hov, x3, x4, rfl, hg⟩
      rw [List.length_map, List.length_range] at hov
      have hR : Right rows prices := ⟨hzero, hov⟩
      simp [hR, Fl.val]
      exact hg
end My

end
section
set_option Elab.async false
set_option linter.all false
set_option maxRecDepth 100000
set_option maxHeartbeats 4000000
set_option autoImplicit false
namespace My
open PySem PySem.Spec L2 DL
theorem from_ints : ∀ ps : List DV, ps.all (DV.from 0) = true → ∃ prices : List Int, ps = prices.map .int ∧ ∀ p ∈ prices, 0 ≤ p
  | [], _ => ⟨[], rfl, by simp⟩
  | d :: ps, h => by
    rw [List.all_cons, Bool.and_eq_true] at h
    obtain ⟨prices, h1, h2⟩ := from_ints ps h.2
    cases d with
    | int i => exact ⟨i :: prices, by rw [h1]; rfl, by simpa [DV.from] using ⟨by simpa [DV.from] using h.1, h2⟩⟩
    | _ => simp [DV.from] at h
theorem all_from {prices : List Int} (h : ∀ p ∈ prices, 0 ≤ p) : (prices.map DV.int).all (DV.from 0) = true := by
  rw [List.all_eq_true]
  intro d hd
  obtain ⟨p, hp, rfl⟩ := List.mem_map.mp hd
  simpa [DV.from] using h p hp
theorem btw_nats (n : Nat) : ∀ ps : List DV, ps.all (DV.btw 0 ((n : Int) - 1)) = true → ∃ made : List Nat, ps = made.map (fun (x : Nat) => .int (x : Int)) ∧ ∀ x ∈ made, x < n
  | [], _ => ⟨[], rfl, by simp⟩
  | d :: ps, h => by
    rw [List.all_cons, Bool.and_eq_true] at h
    obtain ⟨made, h1, h2⟩ := btw_nats n ps h.2
    cases d with
    | int i =>
      have h3 : 0 ≤ i ∧ i ≤ (n : Int) - 1 := by simpa [DV.btw] using h.1
      refine ⟨i.toNat :: made, ?_, ?_⟩
      · rw [h1, List.map_cons]; congr 2; omega
      · intro x hx
        rcases List.mem_cons.mp hx with e | e
        · rw [e]; omega
        · exact h2 x e
    | _ => simp [DV.btw] at h
theorem all_btw {n : Nat} {made : List Nat} (h : ∀ x ∈ made, x < n) : (made.map fun (x : Nat) => DV.int (x : Int)).all (DV.btw 0 ((n : Int) - 1)) = true := by
  rw [List.all_eq_true]
  intro d hd
  obtain ⟨x, hx, rfl⟩ := List.mem_map.mp hd
  have := h x hx
  simp [DV.btw]; omega
/-- neighbours ascend -/
def adj (made : List Nat) : Prop := ∀ i (h : i + 1 < made.length), made[i] < made[i + 1]
theorem adj_iff (made : List Nat) : adj made ↔ made.Pairwise (· < ·) := by
  constructor
  · intro h
    rw [List.pairwise_iff_getElem]
    intro i j hi hj hij
    induction j with
    | zero => omega
    | succ j ih =>
      have h1 := h j hj
      by_cases e : i = j
      · subst e; exact h1
      · exact Nat.lt_trans (ih (by omega) (by omega)) h1
  · intro h i hi
    exact List.pairwise_iff_getElem.mp h i (i + 1) (by omega) hi (by omega)
open Classical in
theorem asc_gen {made : List Nat} (hl : made.length ≤ 1000000) (m : Mem) : D_is_ascending [encD made] m = .ok (.bl (decide (made.Pairwise (· < ·)))) m := by
  by_cases h : made.Pairwise (· < ·)
  · rw [asc_eq h hl]; simp [h]
  · refine run_pure rfl ?_ trivial
    have hna : ¬ adj made := fun a => h ((adj_iff made).mp a)
    obtain ⟨i0, hi0, hlt⟩ : ∃ i, ∃ h : i + 1 < made.length, ¬ made[i] < made[i + 1] := by
      apply Classical.byContradiction
      intro q
      exact hna fun i hi => Classical.byContradiction fun g => q ⟨i, hi, g⟩
    have c2 : ∀ m, c_is_ascending_2 [some (encD made), none] m = .ok (.bl false) m := fun m => by
      refine (comp_all (m1 := m) (gs := []) (xs := List.range (made.length - 1)) (g := fun i => .int (i : Int)) (fun _ => true) (fun i => decide (made.getD i 0 < made.getD (i + 1) 0)) ?_ (guard_nil m) (by simp; omega) (Grow.refl m) ?_).trans ?_
      · rw [rng1_z (m1 := m) (z := (made.length : Int) - 1) (by simp [encD]) (by omega) (by omega), rng0, show ((made.length : Int) - 1).toNat = made.length - 1 by omega]
      · intro i hi m' _
        have hi' := List.mem_range.mp hi
        have h1 : atI (made.map fun (x : Nat) => DV.int (x : Int)) (i : Int) = some (.int ((made.getD i 0 : Nat) : Int)) := by rw [DL.atI_nat, List.getElem?_map, List.getElem?_eq_getElem (by omega), List.getD_eq_getElem?_getD, List.getElem?_eq_getElem (by omega)]; rfl
        have h2 : atI (made.map fun (x : Nat) => DV.int (x : Int)) ((i : Int) + 1) = some (.int ((made.getD (i + 1) 0 : Nat) : Int)) := by
          have := DL.atI_nat (made.map fun (x : Nat) => DV.int (x : Int)) (i + 1)
          simp only [Int.natCast_add, Int.cast_ofNat_Int] at this
          rw [this, List.getElem?_map, List.getElem?_eq_getElem (by omega), List.getD_eq_getElem?_getD, List.getElem?_eq_getElem (by omega)]; rfl
        generalize made.getD i 0 = p at h1
        generalize made.getD (i + 1) 0 = q at h2
        simp [encD, h1, h2]
      · rw [filt_all]
        congr 2
        rw [List.all_eq_false]
        refine ⟨i0, List.mem_range.mpr (by omega), ?_⟩
        simp only [decide_eq_true_eq]
        rw [List.getD_eq_getElem?_getD, List.getElem?_eq_getElem (by omega), List.getD_eq_getElem?_getD, List.getElem?_eq_getElem hi0]
        exact hlt
    simp [S_is_ascending, envOf, c2, h, Fl.val]
    exact Grow.refl m
structure Prices (rows : List Row) (y : DV) (prices : List Int) : Prop where
  eq : y = encI prices
  len : prices.length = rows.length
  nn : ∀ p ∈ prices, 0 ≤ p
  right : Right rows prices
theorem encI_inj {a b : List Int} (h : a.map DV.int = b.map DV.int) : a = b := by
  have := congrArg (List.map fun d => match d with | DV.int i => i | _ => 0) h
  simpa [Function.comp_def] using this
open Classical in
theorem prices_th {rows : List Row} (ok : Okr rows) {n : Nat} {y : DV} {m : Mem} (h : Th m n y) : D__are_prices [encL rows, y] m = .ok (.bl (decide (∃ prices, Prices rows y prices))) m := by
  have hn := ok.len
  by_cases hy : ∃ ps, y = .tup ps
  · obtain ⟨ps, rfl⟩ := hy
    by_cases hlen : ps.length = rows.length
    · by_cases hf : ps.all (DV.from 0) = true
      · obtain ⟨prices, rfl, hnn⟩ := from_ints ps hf
        have hpl : prices.length = rows.length := by simpa using hlen
        have e := prices_ints ok hpl hnn m
        unfold encI at e
        rw [e]
        congr 2
        refine decide_eq_decide.mpr ⟨fun R => ⟨prices, rfl, hpl, hnn, R⟩, fun ⟨q, h1, _, _, R⟩ => ?_⟩
        unfold encI at h1
        injection h1 with h2
        rw [encI_inj h2]; exact R
      · have hno : ¬ ∃ prices, Prices rows (.tup ps) prices := by
          rintro ⟨q, h1, _, h3, _⟩
          unfold encI at h1
          injection h1 with h2
          exact hf (by rw [h2]; exact all_from h3)
        refine run_pure rfl ?_ trivial
        have c2 : ∀ m', Grow m m' → c__are_prices_2 [some (encL rows), some (.tup ps), none, none, none, none, none, none] m' = .ok (.bl (ps.all (DV.from 0))) m' := fun m' hg => by
          cases n with
          | zero => exact h.elim
          | succ n =>
            refine (comp_all (m1 := m') (gs := []) (xs := ps) (g := id) (fun _ => true) (DV.from 0) ?_ (guard_nil m') (by have := h.1; omega) (Grow.refl m') ?_).trans (by rw [filt_all])
            · rw [iAny_tup (m1 := m') (ds := ps) (by simp), List.map_id]
            · intro d hd m2 hg2
              have hd' := ((h.2 d hd).grow hg).grow hg2
              simp [eAndV, whole_th hd']
              cases d <;> simp [DV.isIntB, DV.from]
        have c2' := c2 m (Grow.refl m)
        simp only [Bool.not_eq_true] at hf
        rw [hf] at c2'
        simp [S__are_prices, envOf, c2', hlen, hno, Fl.val]
        exact Grow.refl m
    · have hno : ¬ ∃ prices, Prices rows (.tup ps) prices := by
        rintro ⟨q, h1, h2, _, _⟩
        unfold encI at h1
        injection h1 with h3
        exact hlen (by rw [h3]; simpa using h2)
      refine run_pure rfl ?_ trivial
      have : ¬ ((ps.length : Int) = (rows.length : Int)) := by omega
      simp [S__are_prices, envOf, this, hno, Fl.val]
      exact Grow.refl m
  · have hno : ¬ ∃ prices, Prices rows y prices := fun ⟨q, p⟩ => hy ⟨_, p.eq⟩
    have hb : y.isTupB = false := by cases y <;> first | rfl | exact absurd ⟨_, rfl⟩ hy
    refine run_pure rfl ?_ trivial
    simp [S__are_prices, envOf, isI_th_tuple h, hb, hno, Fl.val]
    exact Grow.refl m
end My

end
section
set_option Elab.async false
set_option linter.all false
set_option maxRecDepth 100000
set_option maxHeartbeats 4000000
set_option autoImplicit false
namespace My
open PySem PySem.Spec L2 DL
theorem asc_len {n : Nat} : ∀ {made : List Nat}, made.Pairwise (· < ·) → (∀ x ∈ made, x < n) → made.length ≤ n := by
  intro made h hl
  have key : ∀ (l : List Nat) (a : Nat), l.Pairwise (· < ·) → (∀ x ∈ l, a ≤ x ∧ x < n) → l.length + a ≤ n ∨ l = [] := by
    intro l
    induction l with
    | nil => intro a _ _; exact .inr rfl
    | cons x l ih =>
      intro a hp hb
      rw [List.pairwise_cons] at hp
      have hx := hb x List.mem_cons_self
      rcases ih (x + 1) hp.2 (fun y hy => ⟨hp.1 y hy, (hb y (List.mem_cons_of_mem _ hy)).2⟩) with g | g
      · left; simp only [List.length_cons]; omega
      · left; rw [g]; simp; omega
  rcases key made 0 h (fun x hx => ⟨Nat.zero_le _, hl x hx⟩) with g | g
  · omega
  · rw [g]; simp
theorem encD_inj {a b : List Nat} (h : (a.map fun (x : Nat) => DV.int (x : Int)) = b.map fun (x : Nat) => DV.int (x : Int)) : a = b := by
  have := congrArg (List.map fun d => match d with | DV.int i => i.toNat | _ => 0) h
  simpa [Function.comp_def] using this
structure Paper (rows : List Row) (d : DV) (made : List Nat) (prices : List Int) : Prop where
  eq : d = .tup [encD made, encI prices]
  lt : ∀ x ∈ made, x < rows.length
  asc : made.Pairwise (· < ·)
  pr : Prices rows (encI prices) prices
  cost : costO rows made = some prices.sum
theorem eq_opt (a : Option Int) (b : Int) (m : Mem) : eqD (optD a) (.int b) m = .ok (.bl (decide (a = some b))) m := by
  cases a with
  | none => rw [show optD none = DV.non from rfl, eqD_of (p := .none) (q := .int b) rfl rfl rfl rfl]; rfl
  | some a => simp [optD]
open Classical in
theorem least_th {rows : List Row} (ok : Okr rows) {n : Nat} {d : DV} {m : Mem} (h : Th m n d) : D_is_least_lots [encL rows, d] m = .ok (.bl (decide (∃ made prices, Paper rows d made prices))) m := by
  have hn := ok.len
  by_cases hd : ∃ a b, d = .tup [a, b]
  · obtain ⟨a, b, rfl⟩ := hd
    cases n with
    | zero => exact h.elim
    | succ n =>
    have ha := h.2 a (by simp)
    have hb := h.2 b (by simp)
    by_cases hat : ∃ ms, a = .tup ms
    · obtain ⟨ms, rfl⟩ := hat
      have hml : ms.length ≤ 100000 ∧ ∃ k, ∀ q ∈ ms, Th m k q := by
        cases n with
        | zero => exact ha.elim
        | succ n => exact ⟨ha.1, n, ha.2⟩
      obtain ⟨hml, k, hmt⟩ := hml
      have c2 : ∀ m' x1 x3, Grow m m' → c_is_least_lots_2 [some (encL rows), x1, some (.tup ms), x3, none] m' = .ok (.bl (ms.all (DV.btw 0 ((rows.length : Int) - 1)))) m' := fun m' x1 x3 hg => by
        refine (comp_all (m1 := m') (gs := []) (xs := ms) (g := id) (fun _ => true) (DV.btw 0 ((rows.length : Int) - 1)) ?_ (guard_nil m') (by omega) (Grow.refl m') ?_).trans (by rw [filt_all])
        · rw [iAny_tup (m1 := m') (ds := ms) (by simp), List.map_id]
        · intro q hq m2 hg2
          simp [between_th (((hmt q hq).grow hg).grow hg2)]
      have c2' := fun x1 x3 => c2 m x1 x3 (Grow.refl m)
      refine run_pure rfl ?_ trivial
      by_cases hall : ms.all (DV.btw 0 ((rows.length : Int) - 1)) = true
      · obtain ⟨made, rfl, hlt⟩ := btw_nats rows.length ms hall
        rw [hall] at c2'
        have hfold : ∀ (made : List Nat), DV.tup (made.map fun (x : Nat) => .int (x : Int)) = encD made := fun _ => rfl
        have hasc := asc_gen (made := made) (by simpa using (by have : (made.map fun (x : Nat) => DV.int (x : Int)).length ≤ 100000 := hml; simp at this; omega)) m
        rw [hfold] at c2' ⊢
        by_cases hp : made.Pairwise (· < ·)
        · have hlen := asc_len hp hlt
          have hcost := lots_cost_all ok (made := made) (by omega) hlt m
          have hpr := prices_th ok hb
          by_cases hx : ∃ prices, Prices rows b prices
          · obtain ⟨prices, P⟩ := hx
            have hbe := P.eq
            subst hbe
            have hpr' : D__are_prices [encL rows, encI prices] m = .ok (.bl true) m := by rw [hpr, decide_eq_true ⟨prices, P⟩]
            have hsum : sumD (encI prices) m = .ok (.int prices.sum) m := sumD_tup
            have hfin : decide (costO rows made = some prices.sum) = decide (∃ made' prices', Paper rows (.tup [encD made, encI prices]) made' prices') := by
              refine decide_eq_decide.mpr ⟨fun hc => ⟨made, prices, rfl, hlt, hp, P, hc⟩, fun ⟨made', prices', Q⟩ => ?_⟩
              have h1 := Q.eq
              simp only [DV.tup.injEq, List.cons.injEq, and_true] at h1
              obtain ⟨h2, h3⟩ := h1
              unfold encD at h2
              unfold encI at h3
              injection h2 with h2
              injection h3 with h3
              rw [encD_inj h2, encI_inj h3]
              exact Q.cost
            have ht1 : isI "tuple" (encD made) m = .ok (.bl true) m := by simp [encD]
            simp [S_is_least_lots, envOf, is_pair_two, c2', hasc, hp, hpr', hcost, hsum, eq_opt, hfin, Fl.val, ht1]
            exact Grow.refl m
          · have hpr' : D__are_prices [encL rows, b] m = .ok (.bl false) m := by rw [hpr, decide_eq_false hx]
            have hno : ¬ ∃ made' prices', Paper rows (.tup [encD made, b]) made' prices' := by
              rintro ⟨made', prices', Q⟩
              have h1 := Q.eq
              simp only [DV.tup.injEq, List.cons.injEq, and_true] at h1
              exact hx ⟨prices', by rw [h1.2]; exact Q.pr⟩
            have ht1 : isI "tuple" (encD made) m = .ok (.bl true) m := by simp [encD]
            simp [S_is_least_lots, envOf, is_pair_two, c2', hasc, hp, hpr', hno, Fl.val, ht1]
            exact Grow.refl m
        · have hno : ¬ ∃ made' prices', Paper rows (.tup [encD made, b]) made' prices' := by
            rintro ⟨made', prices', Q⟩
            have h1 := Q.eq
            simp only [DV.tup.injEq, List.cons.injEq, and_true] at h1
            have h2 := h1.1
            unfold encD at h2
            injection h2 with h2
            exact hp (by rw [encD_inj h2]; exact Q.asc)
          have ht1 : isI "tuple" (encD made) m = .ok (.bl true) m := by simp [encD]
          simp [S_is_least_lots, envOf, is_pair_two, c2', hasc, hp, hno, Fl.val, ht1]
          exact Grow.refl m
      · have hno : ¬ ∃ made' prices', Paper rows (.tup [.tup ms, b]) made' prices' := by
          rintro ⟨made', prices', Q⟩
          have h1 := Q.eq
          simp only [DV.tup.injEq, List.cons.injEq, and_true] at h1
          have h2 := h1.1
          unfold encD at h2
          injection h2 with h2
          exact hall (by rw [h2]; exact all_btw Q.lt)
        simp only [Bool.not_eq_true] at hall
        rw [hall] at c2'
        simp [S_is_least_lots, envOf, is_pair_two, c2', hno, Fl.val]
        exact Grow.refl m
    · have hno : ¬ ∃ made' prices', Paper rows (.tup [a, b]) made' prices' := by
        rintro ⟨made', prices', Q⟩
        have h1 := Q.eq
        simp only [DV.tup.injEq, List.cons.injEq, and_true] at h1
        exact hat ⟨_, h1.1⟩
      have hf : a.isTupB = false := by cases a <;> first | rfl | exact absurd ⟨_, rfl⟩ hat
      refine run_pure rfl ?_ trivial
      simp [S_is_least_lots, envOf, is_pair_two, isI_th_tuple ha, hf, hno, Fl.val]
      exact Grow.refl m
  · have hno : ¬ ∃ made' prices', Paper rows d made' prices' := fun ⟨_, _, Q⟩ => hd ⟨_, _, Q.eq⟩
    have hp : D_is_pair [d] m = .ok (.bl false) m := by
      refine run_pure rfl ?_ trivial
      cases d with
      | tup ds =>
        have : ¬ ((ds.length : Int) = 2) := by
          intro e
          have e2 : ds.length = 2 := by omega
          match ds, e2 with
          | [a, b], _ => exact hd ⟨a, b, rfl⟩
        simp [S_is_pair, envOf, this, Fl.val]; exact Grow.refl m
      | ref k => simp [S_is_pair, envOf, isI_th_tuple h, DV.isTupB, Fl.val]; exact Grow.refl m
      | _ => simp [S_is_pair, envOf, isI_th_tuple h, DV.isTupB, Fl.val]; exact Grow.refl m
    refine run_pure rfl ?_ trivial
    simp [S_is_least_lots, envOf, hp, hno, Fl.val]
    exact Grow.refl m
end My

end
section
set_option Elab.async false
set_option linter.all false
set_option maxRecDepth 100000
set_option maxHeartbeats 4000000
set_option autoImplicit false
namespace My
open PySem PySem.Spec L2 DL
/-- [1 for .. if ..] != [] -/
theorem none_ne {α : Type} {I : DI} {G : DG} {T : DT} {vs : List Nat} {env : DL.Env} {m m1 : Mem} {gs : List (Nat × MO)} {xs : List α} {g : α → DV} (t : α → Bool)
    (hI : I env m = .ok ⟨xs.map g, gs⟩ m1) (hg : guard gs m1) (hl : xs.length ≤ 16777216) (hm : Grow m m1)
    (hE : ∀ x ∈ xs, ∀ m', Grow m1 m' → (G (g x) (wipeD vs env) m').sat fun e1 m2 => m2 = m' ∧ T e1 m' = .ok (t x) m') :
    gcT (tst (eBin neD (eComp I G T (eC (.int 1)) vs) (eLst aNil))) env m = .ok (xs.any t) m := by
  have hc := comp_pure (E := eC (.int 1)) t (fun _ => DV.int 1) hI hg hl fun x hx m' hg' => (hE x hx m' hg').mono fun e1 m2 ⟨h1, h2⟩ => ⟨h1, h2, fun _ => rfl⟩
  refine gcT_grow (m' := (m1 ++ [.lst ((xs.filter t).map fun _ => DV.int 1)]) ++ [.lst []]) ?_ ((hm.trans (Grow.app _ _)).trans (Grow.app _ _))
  have e : (xs.filter t).map (fun _ => DV.int 1) = ((xs.filter t).map fun _ => (1 : Int)).map .int := by rw [List.map_map]; rfl
  have h1 := ne_nilL (m := (m1 ++ [.lst ((xs.filter t).map fun _ => DV.int 1)]) ++ [.lst []]) (k := m1.length) (j := m1.length + 1) (is := (xs.filter t).map fun _ => (1 : Int)) (by rw [← e, List.append_assoc]; exact at0) (by rw [List.append_assoc]; exact at1)
  have hlen : (m1 ++ [MO.lst ((xs.filter t).map fun _ => DV.int 1)]).length = m1.length + 1 := by simp
  simp only [tst, eBin_eq, hc, eLst_eq, aNil_eq, Out.bind_ok, List.length_nil, szOk_0, if_true, hlen, h1]
  congr 1
  cases hf : xs.filter t with
  | nil =>
    simp
    intro x hx
    have := List.filter_eq_nil_iff.mp hf x hx
    simpa using this
  | cons y ys =>
    have : y ∈ xs.filter t := by rw [hf]; simp
    obtain ⟨h2, h3⟩ := List.mem_filter.mp this
    simp
    exact ⟨y, h2, h3⟩
/-- [1 for .. if ..] == [] -/
theorem none_eq {α : Type} {I : DI} {G : DG} {T : DT} {vs : List Nat} {env : DL.Env} {m m1 : Mem} {gs : List (Nat × MO)} {xs : List α} {g : α → DV} (t : α → Bool)
    (hI : I env m = .ok ⟨xs.map g, gs⟩ m1) (hg : guard gs m1) (hl : xs.length ≤ 16777216) (hm : Grow m m1)
    (hE : ∀ x ∈ xs, ∀ m', Grow m1 m' → (G (g x) (wipeD vs env) m').sat fun e1 m2 => m2 = m' ∧ T e1 m' = .ok (t x) m') :
    gc (eBin eqD (eComp I G T (eC (.int 1)) vs) (eLst aNil)) env m = .ok (.bl (!xs.any t)) m := by
  have hc := comp_pure (E := eC (.int 1)) t (fun _ => DV.int 1) hI hg hl fun x hx m' hg' => (hE x hx m' hg').mono fun e1 m2 ⟨h1, h2⟩ => ⟨h1, h2, fun _ => rfl⟩
  refine gc_pure (m' := (m1 ++ [.lst ((xs.filter t).map fun _ => DV.int 1)]) ++ [.lst []]) ?_ ((hm.trans (Grow.app _ _)).trans (Grow.app _ _)) trivial
  have e : (xs.filter t).map (fun _ => DV.int 1) = ((xs.filter t).map fun _ => (1 : Int)).map .int := by rw [List.map_map]; rfl
  have h1 := eq_nilL (m := (m1 ++ [.lst ((xs.filter t).map fun _ => DV.int 1)]) ++ [.lst []]) (k := m1.length) (j := m1.length + 1) (is := (xs.filter t).map fun _ => (1 : Int)) (by rw [← e, List.append_assoc]; exact at0) (by rw [List.append_assoc]; exact at1)
  have hlen : (m1 ++ [MO.lst ((xs.filter t).map fun _ => DV.int 1)]).length = m1.length + 1 := by simp
  simp only [eBin_eq, hc, eLst_eq, aNil_eq, Out.bind_ok, List.length_nil, szOk_0, if_true, hlen, h1]
  congr 2
  cases hf : xs.filter t with
  | nil =>
    simp
    intro x hx
    have := List.filter_eq_nil_iff.mp hf x hx
    simpa using this
  | cons y ys =>
    have : y ∈ xs.filter t := by rw [hf]; simp
    obtain ⟨h2, h3⟩ := List.mem_filter.mp this
    simp
    exact ⟨y, h2, h3⟩
open Classical in
theorem lasc_gen {made : List Nat} (hl : made.length ≤ 1000000) (m : Mem) : D__law_ascending [encD made] m = .ok (.bl (decide (made.Pairwise (· < ·)))) m := by
  refine run_pure rfl ?_ trivial
  have c2 : ∀ m, c__law_ascending_2 [some (encD made), none] m = .ok (.bl (decide (made.Pairwise (· < ·)))) m := fun m => by
    refine (none_eq (m1 := m) (gs := []) (xs := List.range (made.length - 1)) (g := fun i => .int ((1 + i : Nat) : Int)) (fun i => decide (made.getD (i + 1) 0 ≤ made.getD i 0)) ?_ (guard_nil m) (by simp; omega) (Grow.refl m) ?_).trans ?_
    · rw [rng2_eq (m1 := m) (m2 := m) (a := 1) (b := made.length) (by simp) (by simp [encD]) (by omega) (by omega)]
    · intro i hi m' _
      have hi' := List.mem_range.mp hi
      have h1 : atI (made.map fun (x : Nat) => DV.int (x : Int)) (i : Int) = some (.int ((made.getD i 0 : Nat) : Int)) := by rw [DL.atI_nat, List.getElem?_map, List.getElem?_eq_getElem (by omega), List.getD_eq_getElem?_getD, List.getElem?_eq_getElem (by omega)]; rfl
      have h2 : atI (made.map fun (x : Nat) => DV.int (x : Int)) (1 + (i : Int)) = some (.int ((made.getD (i + 1) 0 : Nat) : Int)) := by
        have := DL.atI_nat (made.map fun (x : Nat) => DV.int (x : Int)) (i + 1)
        rw [show 1 + (i : Int) = ((i + 1 : Nat) : Int) by omega, this, List.getElem?_map, List.getElem?_eq_getElem (by omega), List.getD_eq_getElem?_getD, List.getElem?_eq_getElem (by omega)]; rfl
      generalize made.getD i 0 = p at h1
      generalize made.getD (i + 1) 0 = q at h2
      have e1 : 1 + (i : Int) - 1 = (i : Int) := by omega
      simp [encD, tst, e1, h1, h2]
    · congr 2
      have key : (List.range (made.length - 1)).any (fun i => decide (made.getD (i + 1) 0 ≤ made.getD i 0)) = true ↔ ¬ adj made := by
        rw [List.any_eq_true]
        constructor
        · rintro ⟨i, hi, h⟩ a
          have hi' := List.mem_range.mp hi
          have h1 := a i (by omega)
          rw [List.getD_eq_getElem?_getD, List.getElem?_eq_getElem (by omega), List.getD_eq_getElem?_getD, List.getElem?_eq_getElem (by omega)] at h
          simp at h
          omega
        · intro na
          apply Classical.byContradiction
          intro q
          refine na fun i hi => Classical.byContradiction fun g => q ⟨i, List.mem_range.mpr (by omega), ?_⟩
          rw [List.getD_eq_getElem?_getD, List.getElem?_eq_getElem hi, List.getD_eq_getElem?_getD, List.getElem?_eq_getElem (by omega)]
          simp
          omega
      by_cases h : made.Pairwise (· < ·)
      · have : ¬ ((List.range (made.length - 1)).any (fun i => decide (made.getD (i + 1) 0 ≤ made.getD i 0)) = true) := fun q => key.mp q ((adj_iff made).mpr h)
        simp only [Bool.not_eq_true] at this
        rw [this, decide_eq_true h]; rfl
      · rw [key.mpr fun a => h ((adj_iff made).mp a), decide_eq_false h]; rfl
  simp [S__law_ascending, envOf, c2, Fl.val]
  exact Grow.refl m
end My

end
section
set_option Elab.async false
set_option linter.all false
set_option maxRecDepth 100000
set_option maxHeartbeats 4000000
set_option autoImplicit false
namespace My
open PySem PySem.Spec L2 DL
theorem lp1 {rows : List Row} {k : Nat} {ms : List DV} {b : DV} {m : Mem} (hl : ms.length ≤ 100000) (h : ∀ q ∈ ms, Th m k q) (x4 x5 x6 : Option DV) :
    t__law_paper_1 [some (encL rows), some (.tup [.tup ms, b]), some (.int (rows.length : Int)), none, x4, x5, x6] m = .ok (ms.any fun d => !d.btw 0 ((rows.length : Int) - 1)) m := by
  refine none_ne (m1 := m) (gs := []) (xs := ms) (g := id) (fun d => !d.btw 0 ((rows.length : Int) - 1)) ?_ (guard_nil m) (by omega) (Grow.refl m) ?_
  · rw [iAny_tup (m1 := m) (ds := ms) (by simp), List.map_id]
  · intro q hq m' hg
    simp [lwhole_th ((h q hq).grow hg)]
theorem lp2 {rows : List Row} {k : Nat} {ps : List DV} {a : DV} {m : Mem} (hl : ps.length ≤ 100000) (h : ∀ q ∈ ps, Th m k q) (x3 x4 x6 : Option DV) :
    t__law_paper_2 [some (encL rows), some (.tup [a, .tup ps]), some (.int (rows.length : Int)), x3, x4, none, x6] m = .ok (ps.any fun d => !d.from 0) m := by
  refine none_ne (m1 := m) (gs := []) (xs := ps) (g := id) (fun d => !d.from 0) ?_ (guard_nil m) (by omega) (Grow.refl m) ?_
  · rw [iAny_tup (m1 := m) (ds := ps) (by simp), List.map_id]
  · intro q hq m' hg
    simp [lwhole_from ((h q hq).grow hg)]
theorem lp3 {rows : List Row} (ok : Okr rows) {prices : List Int} (hpl : prices.length = rows.length) {a : DV} {m : Mem} (x4 x5 x6 : Option DV) :
    t__law_paper_3 [some (encL rows), some (.tup [a, encI prices]), some (.int (rows.length : Int)), none, x4, x5, x6] m = .ok ((List.range rows.length).any fun i => decide (want rows i = 0) && !decide (pr prices i = 0)) m := by
  have hn := ok.len
  refine none_ne (m1 := m) (gs := []) (xs := List.range rows.length) (g := fun i => .int (i : Int)) (fun i => decide (want rows i = 0) && !decide (pr prices i = 0)) ?_ (guard_nil m) (by simp; omega) (Grow.refl m) ?_
  · rw [rng1_eq (m1 := m) (n := rows.length) (by simp) (by omega)]
  · intro i hi m' hg
    have hi' := List.mem_range.mp hi
    have h2 : ∀ m, ixD (encI prices) (.int (i : Int)) m = .ok (.int (pr prices i)) m := fun m => by rw [encI, ixD_tup, pr_at (by omega)]
    simp [ix_rows hi', h2, tst, want]
    by_cases hz : (rowAt rows i).1 = 0 <;> simp [hz]
theorem lp4 {rows : List Row} (ok : Okr rows) {prices : List Int} (hpl : prices.length = rows.length) {a : DV} {m : Mem} {i : Nat} (hi : i < rows.length) (x4 x5 : Option DV) :
    t__law_paper_4 [some (encL rows), some (.tup [a, encI prices]), some (.int (rows.length : Int)), some (.int (i : Int)), x4, x5, none] m = .ok (decide (setup rows i < overP rows prices i)) m := by
  have hn := ok.len
  have c5 : c__law_paper_5 [some (encL rows), some (.tup [a, encI prices]), some (.int (rows.length : Int)), some (.int (i : Int)), x4, x5, none] m = .ok (.int (overP rows prices i)) m := by
    refine (comp_sum (m1 := m) (gs := []) (xs := List.range (rows.length - i)) (g := fun k => .int ((i + k : Nat) : Int)) (fun _ => true) (fun k => max 0 (pr prices (i + k) - (dat rows).K i (i + k))) ?_ (guard_nil m) (by simp; omega) (Grow.refl m) ?_).trans (by rw [filt_all]; rfl)
    · rw [rng2_eq (m1 := m) (m2 := m) (a := i) (b := rows.length) (by simp) (by simp) (by omega) (by omega)]
    · intro k hk m' _
      have hk' := List.mem_range.mp hk
      have e := lkept_eq ok (f := i) (l := i + k) (by omega) (by omega) m'
      have h1 := pr_at (prices := prices) (i := i + k) (by omega)
      simp only [Int.natCast_add] at e h1
      have h2 : ∀ m, ixD (encI prices) (.int ((i : Int) + (k : Int))) m = .ok (.int (pr prices (i + k))) m := fun m => by rw [encI, ixD_tup, h1]
      simp [e, h2]
  refine gcT_grow (m' := m) ?_ (Grow.refl m)
  simp [tst, c5, ix_rows hi, setup]
  exact decide_eq_decide.mpr Iff.rfl
open Classical in
theorem lpaper_ints {rows : List Row} (ok : Okr rows) {made : List Nat} {prices : List Int} (hlt : ∀ x ∈ made, x < rows.length) (hml : made.length ≤ 100000) (hpl : prices.length = rows.length) (hnn : ∀ p ∈ prices, 0 ≤ p) (m : Mem) :
    D__law_paper [encL rows, .tup [encD made, encI prices]] m = .ok (.bl (decide (made.Pairwise (· < ·) ∧ Right rows prices ∧ costO rows made = some prices.sum))) m := by
  have hn := ok.len
  refine run_pure rfl ?_ trivial
  have ht1 : isI "tuple" (encD made) m = .ok (.bl true) m := by simp [encD]
  have ht2 : isI "tuple" (encI prices) m = .ok (.bl true) m := by simp [encI]
  have hlen : fLen [encI prices] m = .ok (.int (rows.length : Int)) m := by simp [encI, hpl]
  have q1 : t__law_paper_1 [some (encL rows), some (.tup [encD made, encI prices]), some (.int (rows.length : Int)), none, none, none, none] m = .ok false m := by
    have := lp1 (rows := rows) (k := 0) (ms := made.map fun (x : Nat) => .int (x : Int)) (b := encI prices) (m := m) (by simpa using hml) (by intro q hq; obtain ⟨x, _, rfl⟩ := List.mem_map.mp hq; simp) none none none
    rw [show encD made = .tup (made.map fun (x : Nat) => .int (x : Int)) from rfl, this]
    have h := all_btw hlt
    rw [List.all_eq_true] at h
    congr 1
    rw [List.any_eq_false]
    intro d hd
    simp [h d hd]
  have q2 : t__law_paper_2 [some (encL rows), some (.tup [encD made, encI prices]), some (.int (rows.length : Int)), none, none, none, none] m = .ok false m := by
    have := lp2 (rows := rows) (k := 0) (ps := prices.map .int) (a := encD made) (m := m) (by simp; omega) (by intro q hq; obtain ⟨x, _, rfl⟩ := List.mem_map.mp hq; simp) none none none
    rw [show encI prices = .tup (prices.map .int) from rfl, this]
    have h := all_from hnn
    rw [List.all_eq_true] at h
    congr 1
    rw [List.any_eq_false]
    intro d hd
    simp [h d hd]
  have q3 := lp3 ok hpl (a := encD made) (m := m) none none none
  have hasc := lasc_gen (made := made) (by omega) m
  simp only [S__law_paper, envOf, sSeq_sat]
  by_cases hp : made.Pairwise (· < ·)
  · by_cases hz : (List.range rows.length).any (fun i => decide (want rows i = 0) && !decide (pr prices i = 0)) = true
    · have hno : ¬ Right rows prices := fun R => by
        obtain ⟨i, hi, h⟩ := List.any_eq_true.mp hz
        have hi' := List.mem_range.mp hi
        simp at h
        exact h.2 (R.zero i hi' h.1)
      rw [hz] at q3
      simp [ht1, ht2, hlen, q1, q2, q3, hasc, hp, hno, Fl.val]
      exact Grow.refl m
    · have hzero : ∀ i, i < rows.length → want rows i = 0 → pr prices i = 0 := fun i hi hw => Classical.byContradiction fun q => hz (List.any_eq_true.mpr ⟨i, List.mem_range.mpr hi, by simp [q, hw]⟩)
      simp only [Bool.not_eq_true] at hz
      rw [hz] at q3
      simp [ht1, ht2, hlen, q1, q2, q3, hasc, hp]
      have hlen2 := asc_len hp hlt
      refine sFor_of (rng1_eq (m1 := m) (n := rows.length) (by simp) (by omega)) (fun i env m' => (∀ j, j < i → overP rows prices j ≤ setup rows j) ∧ (∃ x3, env = [some (encL rows), some (.tup [encD made, encI prices]), some (.int (rows.length : Int)), x3, none, none, none]) ∧ m' = m) ⟨fun j hj => by omega, ⟨none, rfl⟩, rfl⟩ (fun i env m' _ => guard_nil m') ?_ ?_
      · rintro i d env m' hd ⟨hov, ⟨x3, rfl⟩, rfl⟩
        have hi : i < rows.length := by have := (List.getElem?_eq_some_iff.mp hd).1; simpa using this
        rw [List.getElem?_map, List.getElem?_range hi] at hd
        cases hd
        have q4 := lp4 ok hpl hi (a := encD made) (m := m') none none
        simp [b__law_paper_1, q4]
        by_cases hlt4 : setup rows i < overP rows prices i
        · have hno : ¬ Right rows prices := fun R => by
            have h1 := R.over i hi
            omega
          simp [hlt4, hno, Fl.val]
          exact Grow.refl _
        · simp [hlt4]
          intro j hj
          by_cases e : j = i
          · subst e; omega
          · exact hov j (by omega)
      · rintro env m' ⟨hov, ⟨x3, rfl⟩, rfl⟩
        rw [List.length_map, List.length_range] at hov
        have hR : Right rows prices := ⟨hzero, hov⟩
        have hsum : sumD (encI prices) m' = .ok (.int prices.sum) m' := sumD_tup
        have hcost := lcost_all ok (made := made) (by omega) hlt m'
        cases hco : costO rows made with
        | none =>
          rw [hco] at hcost
          simp [hcost, optD, Fl.val]
          exact Grow.refl _
        | some c =>
          rw [hco] at hcost
          simp [hcost, optD, hsum, hR, Fl.val]
          exact Grow.refl _
  · simp [ht1, ht2, hlen, q1, q2, hasc, hp, Fl.val]
    exact Grow.refl m
end My

end
section
set_option Elab.async false
set_option linter.all false
set_option maxRecDepth 100000
set_option maxHeartbeats 4000000
set_option autoImplicit false
namespace My
open PySem PySem.Spec L2 DL
theorem th_kids {n : Nat} {ds : List DV} {m : Mem} (h : Th m n (.tup ds)) : ds.length ≤ 100000 ∧ ∃ k, ∀ q ∈ ds, Th m k q := by
  cases n with
  | zero => exact h.elim
  | succ n => exact ⟨h.1, n, h.2⟩
open Classical in
theorem lpaper_th {rows : List Row} (ok : Okr rows) {n : Nat} {d : DV} {m : Mem} (h : Th m n d) : D__law_paper [encL rows, d] m = .ok (.bl (decide (∃ made prices, Paper rows d made prices))) m := by
  have hn := ok.len
  by_cases hd : ∃ a b, d = .tup [a, b]
  · obtain ⟨a, b, rfl⟩ := hd
    cases n with
    | zero => exact h.elim
    | succ n =>
    have ha := h.2 a (by simp)
    have hb := h.2 b (by simp)
    by_cases hat : ∃ ms, a = .tup ms
    · obtain ⟨ms, rfl⟩ := hat
      by_cases hbt : ∃ ps, b = .tup ps
      · obtain ⟨ps, rfl⟩ := hbt
        obtain ⟨hml, k, hmt⟩ := th_kids ha
        obtain ⟨hpl, k2, hpt⟩ := th_kids hb
        by_cases hlen : ps.length = rows.length
        · by_cases hall : ms.all (DV.btw 0 ((rows.length : Int) - 1)) = true
          · obtain ⟨made, rfl, hlt⟩ := btw_nats rows.length ms hall
            by_cases hf : ps.all (DV.from 0) = true
            · obtain ⟨prices, rfl, hnn⟩ := from_ints ps hf
              have e := lpaper_ints ok hlt (by simpa using hml) (by simpa using hlen) hnn m
              unfold encD encI at e
              rw [e]
              congr 2
              refine decide_eq_decide.mpr ⟨fun ⟨h1, h2, h3⟩ => ⟨made, prices, rfl, hlt, h1, ⟨rfl, by simpa using hlen, hnn, h2⟩, h3⟩, fun ⟨made', prices', Q⟩ => ?_⟩
              have h1 := Q.eq
              simp only [DV.tup.injEq, List.cons.injEq, and_true] at h1
              obtain ⟨h2, h3⟩ := h1
              unfold encD at h2
              unfold encI at h3
              injection h2 with h2
              injection h3 with h3
              rw [encD_inj h2, encI_inj h3]
              exact ⟨Q.asc, Q.pr.right, Q.cost⟩
            · have hno : ¬ ∃ made' prices', Paper rows (.tup [.tup (made.map fun (x : Nat) => .int (x : Int)), .tup ps]) made' prices' := by
                rintro ⟨made', prices', Q⟩
                have h1 := Q.eq
                simp only [DV.tup.injEq, List.cons.injEq, and_true] at h1
                have h3 := h1.2
                unfold encI at h3
                injection h3 with h3
                exact hf (by rw [h3]; exact all_from Q.pr.nn)
              have q1 : t__law_paper_1 [some (encL rows), some (.tup [.tup (made.map fun (x : Nat) => .int (x : Int)), .tup ps]), some (.int (rows.length : Int)), none, none, none, none] m = .ok false m := by
                rw [lp1 hml hmt none none none]
                rw [List.all_eq_true] at hall
                congr 1
                rw [List.any_eq_false]
                intro d hd
                simp [hall d hd]
              have q2 : t__law_paper_2 [some (encL rows), some (.tup [.tup (made.map fun (x : Nat) => .int (x : Int)), .tup ps]), some (.int (rows.length : Int)), none, none, none, none] m = .ok true m := by
                rw [lp2 hpl hpt none none none]
                congr 1
                simp only [Bool.not_eq_true, List.all_eq_false] at hf
                obtain ⟨x, hx, hx2⟩ := hf
                rw [List.any_eq_true]
                exact ⟨x, hx, by simpa using hx2⟩
              have hasc := lasc_gen (made := made) (by have : (made.map fun (x : Nat) => DV.int (x : Int)).length ≤ 100000 := hml; simp at this; omega) m
              unfold encD at hasc
              refine run_pure rfl ?_ trivial
              by_cases hp : made.Pairwise (· < ·)
              · simp [-List.map_eq_nil_iff, S__law_paper, envOf, q1, q2, hlen, hasc, hp, hno, Fl.val]
                exact Grow.refl m
              · simp [S__law_paper, envOf, q1, hlen, hasc, hp, hno, Fl.val]
                exact Grow.refl m
          · have hno : ¬ ∃ made' prices', Paper rows (.tup [.tup ms, .tup ps]) made' prices' := by
              rintro ⟨made', prices', Q⟩
              have h1 := Q.eq
              simp only [DV.tup.injEq, List.cons.injEq, and_true] at h1
              have h2 := h1.1
              unfold encD at h2
              injection h2 with h2
              exact hall (by rw [h2]; exact all_btw Q.lt)
            have q1 : t__law_paper_1 [some (encL rows), some (.tup [.tup ms, .tup ps]), some (.int (rows.length : Int)), none, none, none, none] m = .ok true m := by
              rw [lp1 hml hmt none none none]
              congr 1
              simp only [Bool.not_eq_true, List.all_eq_false] at hall
              obtain ⟨x, hx, hx2⟩ := hall
              rw [List.any_eq_true]
              exact ⟨x, hx, by simpa using hx2⟩
            refine run_pure rfl ?_ trivial
            simp [S__law_paper, envOf, q1, hlen, hno, Fl.val]
            exact Grow.refl m
        · have hno : ¬ ∃ made' prices', Paper rows (.tup [.tup ms, .tup ps]) made' prices' := by
            rintro ⟨made', prices', Q⟩
            have h1 := Q.eq
            simp only [DV.tup.injEq, List.cons.injEq, and_true] at h1
            have h3 := h1.2
            unfold encI at h3
            injection h3 with h3
            exact hlen (by rw [h3]; simpa using Q.pr.len)
          have : ¬ ((ps.length : Int) = (rows.length : Int)) := by omega
          refine run_pure rfl ?_ trivial
          simp [S__law_paper, envOf, this, hno, Fl.val]
          exact Grow.refl m
      · have hno : ¬ ∃ made' prices', Paper rows (.tup [.tup ms, b]) made' prices' := by
          rintro ⟨made', prices', Q⟩
          have h1 := Q.eq
          simp only [DV.tup.injEq, List.cons.injEq, and_true] at h1
          exact hbt ⟨_, h1.2⟩
        have hf : b.isTupB = false := by cases b <;> first | rfl | exact absurd ⟨_, rfl⟩ hbt
        refine run_pure rfl ?_ trivial
        simp [S__law_paper, envOf, isI_th_tuple hb, hf, hno, Fl.val]
        exact Grow.refl m
    · have hno : ¬ ∃ made' prices', Paper rows (.tup [a, b]) made' prices' := by
        rintro ⟨made', prices', Q⟩
        have h1 := Q.eq
        simp only [DV.tup.injEq, List.cons.injEq, and_true] at h1
        exact hat ⟨_, h1.1⟩
      have hf : a.isTupB = false := by cases a <;> first | rfl | exact absurd ⟨_, rfl⟩ hat
      refine run_pure rfl ?_ trivial
      simp [S__law_paper, envOf, isI_th_tuple ha, hf, hno, Fl.val]
      exact Grow.refl m
  · have hno : ¬ ∃ made' prices', Paper rows d made' prices' := fun ⟨_, _, Q⟩ => hd ⟨_, _, Q.eq⟩
    refine run_pure rfl ?_ trivial
    cases d with
    | tup ds =>
      have : ¬ ((ds.length : Int) = 2) := by
        intro e
        have e2 : ds.length = 2 := by omega
        match ds, e2 with
        | [a, b], _ => exact hd ⟨a, b, rfl⟩
      simp [S__law_paper, envOf, this, hno, Fl.val]; exact Grow.refl m
    | ref k => simp [S__law_paper, envOf, isI_th_tuple h, DV.isTupB, hno, Fl.val]; exact Grow.refl m
    | _ => simp [S__law_paper, envOf, isI_th_tuple h, DV.isTupB, hno, Fl.val]; exact Grow.refl m
/-- the program's judge and the law's are one -/
theorem judges {rows : List Row} (ok : Okr rows) {n : Nat} {d : DV} {m : Mem} (h : Th m n d) : ∃ b, D_is_least_lots [encL rows, d] m = .ok (.bl b) m ∧ D__law_paper [encL rows, d] m = .ok (.bl b) m := ⟨_, least_th ok h, lpaper_th ok h⟩
end My

end
section
set_option Elab.async false
set_option linter.all false
set_option maxRecDepth 100000
set_option maxHeartbeats 4000000
set_option autoImplicit false
namespace My
open PySem PySem.Spec L2 DL
/-! the subsets of days -/
def subs : List Nat → List (List Nat)
  | [] => [[]]
  | days => days.foldl (fun sets d => sets ++ sets.map (· ++ [d])) [[]]
def grow (sets : List (List Nat)) (d : Nat) : List (List Nat) := sets ++ sets.map (· ++ [d])
def subsR (n : Nat) : List (List Nat) := (List.range n).foldl grow [[]]
theorem subsR_succ (n : Nat) : subsR (n + 1) = grow (subsR n) n := by unfold subsR; rw [List.range_succ, List.foldl_append]; rfl
theorem subsR_mem : ∀ {n : Nat} {made : List Nat}, made.Pairwise (· < ·) → (∀ x ∈ made, x < n) → made ∈ subsR n
  | 0, made, _, h => by
    cases made with
    | nil => simp [subsR]
    | cons x r => exact absurd (h x (by simp)) (by omega)
  | n + 1, made, ha, h => by
    rw [subsR_succ]
    by_cases e : n ∈ made
    · rcases List.eq_nil_or_concat made with g | ⟨r, x, g⟩
      · rw [g] at e; cases e
      · rw [List.concat_eq_append] at g
        subst g
        rw [List.pairwise_append] at ha
        have hx : x = n := by
          rcases List.mem_append.mp e with q | q
          · have h1 := ha.2.2 n q x (by simp)
            have h2 := h x (by simp)
            omega
          · exact (List.mem_singleton.mp q).symm
        subst hx
        refine List.mem_append_right _ (List.mem_map.mpr ⟨r, subsR_mem ha.1 fun y hy => ha.2.2 y hy x (by simp), rfl⟩)
    · refine List.mem_append_left _ (subsR_mem ha fun x hx => ?_)
      have h1 := h x hx
      have : x ≠ n := fun q => e (q ▸ hx)
      omega
theorem subsR_ok : ∀ {n : Nat} {made : List Nat}, made ∈ subsR n → made.Pairwise (· < ·) ∧ ∀ x ∈ made, x < n
  | 0, made, h => by
    simp [subsR] at h
    subst h
    exact ⟨.nil, by simp⟩
  | n + 1, made, h => by
    rw [subsR_succ] at h
    rcases List.mem_append.mp h with g | g
    · obtain ⟨h1, h2⟩ := subsR_ok g
      exact ⟨h1, fun x hx => by have := h2 x hx; omega⟩
    · obtain ⟨r, hr, rfl⟩ := List.mem_map.mp g
      obtain ⟨h1, h2⟩ := subsR_ok hr
      refine ⟨List.pairwise_append.mpr ⟨h1, by simp, fun a ha b hb => by rw [List.mem_singleton.mp hb]; exact h2 a ha⟩, fun x hx => ?_⟩
      rcases List.mem_append.mp hx with q | q
      · have := h2 x q; omega
      · rw [List.mem_singleton.mp q]; omega
theorem subsR_len : ∀ n, (subsR n).length = 2 ^ n
  | 0 => rfl
  | n + 1 => by rw [subsR_succ]; simp [grow, subsR_len n]; omega
/-- every set of days that serves costs at least the least -/
theorem cost_ge {D : Lots.LD} {C : Nat → Int} {L : Nat → Option Nat} (o : D.Ok) (c : Lots.LC D C L) : ∀ (k : Nat) (made : List Nat) (t : Nat), made.length = k → t ≤ D.n → made.Pairwise (· < ·) → (∀ x ∈ made, x < t) → (∀ u, u < t → 0 < D.w u → ∃ x ∈ made, x ≤ u) → C t ≤ Lots.cost D made t := by
  intro k
  induction k with
  | zero =>
    intro made t hk ht ha hlt hcov
    have : made = [] := List.eq_nil_of_length_eq_zero hk
    subst this
    have hz : ∀ u, u ≤ t → C u = 0 := by
      intro u
      induction u with
      | zero => intro _; exact c.c0
      | succ u ih =>
        intro hu
        have hw : D.w u = 0 := by
          have h0 := o.w0 u
          have : ¬ 0 < D.w u := fun h => by obtain ⟨x, hx, _⟩ := hcov u (by omega) h; cases hx
          omega
        rcases c.st u (by omega) with ⟨_, h2, _⟩ | ⟨h1, _⟩
        · rw [h2]; exact ih (by omega)
        · exact absurd hw h1
    rw [hz t (Nat.le_refl _)]
    unfold Lots.cost
    have hs : ((List.range t).map fun u => D.K (Lots.lastOf [] u) u) = (List.range t).map fun _ => 0 := by
      refine List.map_congr_left fun u hu => ?_
      have hw : D.w u = 0 := by
        have h0 := o.w0 u
        have : ¬ 0 < D.w u := fun h => by obtain ⟨x, hx, _⟩ := hcov u (List.mem_range.mp hu) h; cases hx
        omega
      exact Lots.K_zero hw
    rw [hs]
    have hz2 : ∀ n : Nat, ((List.range n).map fun _ => (0 : Int)).sum = 0 := by
      intro n
      induction n with
      | zero => rfl
      | succ n ih => rw [List.range_succ]; simp [ih]
    rw [hz2]; simp
  | succ k ih =>
    intro made t hk ht ha hlt hcov
    rcases List.eq_nil_or_concat made with g | ⟨r, f, g⟩
    · rw [g] at hk; simp at hk
    · rw [List.concat_eq_append] at g
      subst g
      rw [List.pairwise_append] at ha
      have hf : f < t := hlt f (by simp)
      have h1 := ih r f (by simpa using hk) (by omega) ha.1 (fun x hx => ha.2.2 x hx f (by simp)) (fun u hu hw => by
        obtain ⟨x, hx, hxu⟩ := hcov u (by omega) hw
        rcases List.mem_append.mp hx with q | q
        · exact ⟨x, q, hxu⟩
        · rw [List.mem_singleton.mp q] at hxu; omega)
      have h2 := c.a o (f := f) (d := t) (by omega) ht
      have e : Lots.cost D (r ++ [f]) t = Lots.cost D r f + D.s f + D.SK f t := by
        unfold Lots.cost
        rw [Lots.sum_range_split _ f t (by omega)]
        have e1 : ((List.range f).map fun u => D.K (Lots.lastOf (r ++ [f]) u) u) = (List.range f).map fun u => D.K (Lots.lastOf r u) u := List.map_congr_left fun u hu => by
          rw [Lots.lastOf_app, if_neg (by have := List.mem_range.mp hu; omega)]
        have e2 : ((List.range (t - f)).map fun k => D.K (Lots.lastOf (r ++ [f]) (f + k)) (f + k)) = (List.range (t - f)).map fun k => D.K f (f + k) := List.map_congr_left fun u hu => by
          rw [Lots.lastOf_app, if_pos (by omega)]
        rw [e1, e2]
        simp only [Lots.LD.SK, List.map_append, List.sum_append, List.map_cons, List.map_nil, List.sum_cons, List.sum_nil]
        omega
      rw [e]; omega
end My

end
section
set_option Elab.async false
set_option linter.all false
set_option maxRecDepth 100000
set_option maxHeartbeats 4000000
set_option autoImplicit false
namespace My
open PySem PySem.Spec L2 DL
theorem run_new {N n : Nat} {S : DS} {ds : List DV} {m : Mem} {es : List DV} (hn : ds.length = n) (hl : loAll m.length es) (h : (S (envOf N ds) m).sat fun fl m' => ∃ k, fl.val = some (.ref k) ∧ Grow m m' ∧ m.length ≤ k ∧ m'[k]? = some (.lst es)) : runD N n S ds m = .ok (.ref m.length) (m ++ [.lst es]) := by
  obtain ⟨fl, m', e, k, h1, hg, hk, h2⟩ := h.ex
  unfold runD
  rw [if_pos hn, e]
  have hlo : ¬ (DV.ref k).lo m.length := fun h => by have : k < m.length := h; omega
  cases fl with
  | rt d =>
    cases h1
    simp only [Out.bind_ok, gcO, if_pos hg.old, if_neg hlo, h2, if_pos (And.intro hk (show (MO.lst es).lo m.length from hl)), hg.take]
  | nx e => cases h1
  | bk e => cases h1
  | ct e => cases h1
theorem addD_ref {i j : Nat} {ds es : List DV} {m : Mem} (h : m[i]? = some (.lst ds)) (h' : m[j]? = some (.lst es)) (hl : ds.length + es.length ≤ 16777216) : addD (.ref i) (.ref j) m = .ok (.ref m.length) (m ++ [.lst (ds ++ es)]) := by simp only [addD, h, h', if_pos hl]
theorem addD_tup {ds es : List DV} {m : Mem} (hl : ds.length + es.length ≤ 16777216) : addD (.tup ds) (.tup es) m = .ok (.tup (ds ++ es)) m := by simp only [addD, if_pos hl]
theorem loD (made : List Nat) (n : Nat) : (encD made).lo n := loAll_iff.mpr fun d hd => by obtain ⟨x, _, rfl⟩ := List.mem_map.mp hd; trivial
theorem subsets_eq {n : Nat} (hn : n ≤ 12) {kd : Nat} {m : Mem} (hd : m[kd]? = some (.lst ((List.range n).map fun (x : Nat) => .int (x : Int)))) : D__law_subsets [.ref kd] m = .ok (.ref m.length) (m ++ [.lst ((subsR n).map encD)]) := by
  refine run_new rfl (loAll_iff.mpr fun d hd => by obtain ⟨x, _, rfl⟩ := List.mem_map.mp hd; exact loD x _) ?_
  simp [S__law_subsets, envOf]
  refine sFor_of (iAny_lst (m1 := m ++ [.lst [.tup []]]) (k := kd) (ds := (List.range n).map fun (x : Nat) => .int (x : Int)) (by simp) ((Grow.app _ _).get hd))
    (fun i env m' => i ≤ n ∧ ∃ k x2, env = [some (.ref kd), some (.ref k), x2, none] ∧ Grow m m' ∧ m.length ≤ k ∧ m'[k]? = some (.lst ((subsR i).map encD)))
    ⟨Nat.zero_le _, m.length, none, rfl, Grow.app _ _, Nat.le_refl _, at0⟩ ?_ ?_ ?_
  · rintro i env m' ⟨_, k, x2, rfl, hg, _⟩ p hp
    rw [List.mem_singleton.mp hp]
    exact hg.get hd
  · rintro i d env m' hd2 ⟨hin, k, x2, rfl, hg, hk, hs⟩
    have hi : i < n := by have := (List.getElem?_eq_some_iff.mp hd2).1; simpa using this
    rw [List.getElem?_map, List.getElem?_range hi] at hd2
    cases hd2
    have hlen : (subsR i).length ≤ 4096 := by
      rw [subsR_len]
      exact Nat.le_trans (Nat.pow_le_pow_right (by omega) (show i ≤ 12 by omega)) (by decide)
    have c1 : c__law_subsets_1 [some (.ref kd), some (.ref k), some (.int (i : Int)), none] m' = .ok (.ref m'.length) (m' ++ [.lst (((subsR i).map (· ++ [i])).map encD)]) := by
      refine (comp_pure (m1 := m') (gs := [(k, .lst ((subsR i).map encD))]) (xs := subsR i) (g := encD) (fun _ => true) (fun s => encD (s ++ [i])) ?_ (fun p hp => by rw [List.mem_singleton.mp hp]; exact hs) (by omega) ?_).trans (by rw [filt_all, List.map_map]; rfl)
      · exact iAny_lst (by simp) hs
      · intro s hs2 m2 hg2
        obtain ⟨h1, h2⟩ := subsR_ok hs2
        have h3 := asc_len h1 h2
        have e : ∀ m, addD (encD s) (.tup [.int (i : Int)]) m = .ok (encD (s ++ [i])) m := fun m => by
          unfold encD
          rw [addD_tup (by simp; omega)]
          simp
        simp [e]
    have hk2 : (m' ++ [MO.lst (((subsR i).map (· ++ [i])).map encD)])[k]? = some (.lst ((subsR i).map encD)) := (Grow.app _ _).get hs
    have e2 := addD_ref (i := k) (j := m'.length) (m := m' ++ [.lst (((subsR i).map (· ++ [i])).map encD)]) hk2 at0 (by simp; omega)
    simp only [gVar_eq, sat_ok, b__law_subsets_1, sSet_eq, eBin_eq, eVar_eq]
    simp [c1, e2, -List.map_map]
    refine ⟨by omega, hg.trans ⟨_, by simp; rfl⟩, by have := hg.len; omega, ?_⟩
    rw [subsR_succ]
    simp [grow, List.getElem?_append_right]
  · rintro env m' ⟨hin, k, x2, rfl, hg, hk, hs⟩
    rw [List.length_map, List.length_range] at hs
    simp
    exact ⟨k, rfl, hg, hk, hs⟩
end My

end
section
set_option Elab.async false
set_option linter.all false
set_option maxRecDepth 100000
set_option maxHeartbeats 4000000
set_option autoImplicit false
namespace My
open PySem PySem.Spec L2 DL
/-- the script's box stands at place 2 -/
def Bx (m : Mem) : Prop := ∃ (is : List Int) (a : Nat), m[2]? = some (.lst [.ref 1, .int (a : Int)]) ∧ m[1]? = some (.lst (is.map .int))
theorem Bx.grow {m m' : Mem} (h : Bx m) (g : Grow m m') : Bx m' := let ⟨is, a, h1, h2⟩ := h; ⟨is, a, g.get h1, g.get h2⟩
theorem Bx.three {m : Mem} (h : Bx m) : 3 ≤ m.length := by
  obtain ⟨is, a, h1, _⟩ := h
  have := (List.getElem?_eq_some_iff.mp h1).1
  omega
theorem kept_grow {m m' : Mem} (g : Grow m m') : Kept m m' := ⟨g.len, fun k o _ h => g.get h⟩
theorem draw_bx {m : Mem} (h : Bx m) {j : Int} (hj : 0 < j) : ∃ v m', 0 ≤ v ∧ v < j ∧ D__law_draw [.ref 2, .int j] m = .ok (.int v) m' ∧ Bx m' ∧ Kept m m' := by
  obtain ⟨is, a, h1, h2⟩ := h
  have hl := (List.getElem?_eq_some_iff.mp h1).1
  obtain ⟨v, v1, v2, v3⟩ := draw_eq h1 h2 (by omega) hj
  refine ⟨v, _, v1, v2, v3, ⟨is, a + 1, List.getElem?_set_self hl, by rw [List.getElem?_set_ne (by omega)]; exact h2⟩, ⟨by simp, fun k o hk e => by rw [List.getElem?_set_ne (by omega)]; exact e⟩⟩
theorem run_tg {N n k : Nat} {S : DS} {ds : List DV} {m : Mem} (hn : ds.length = n) (hb : Bx m) (h : (S (envOf N ds) m).sat fun fl m' => ∃ d, fl.val = some d ∧ Tg m' k d ∧ Bx m' ∧ Kept m m') :
    ∃ d m', runD N n S ds m = .ok d m' ∧ Tg m' k d ∧ Bx m' ∧ Kept m m' := by
  obtain ⟨fl, m', e, d, h1, h2, h3, h4⟩ := h.ex
  obtain ⟨d2, m2, g1, g2, g3, g4⟩ := gcO_tg hb.three h2 h4
  refine ⟨d2, m2, ?_, g2, ?_, g3⟩
  · unfold runD
    rw [if_pos hn, e]
    cases fl with
    | rt d => cases h1; exact g1
    | nx e => cases h1; exact g1
    | bk e => cases h1
    | ct e => cases h1
  · obtain ⟨is, a, b1, b2⟩ := h3
    exact ⟨is, a, by rw [g4 2 (by omega)]; exact b1, by rw [g4 1 (by omega)]; exact b2⟩
/-- a choice out of a list -/
theorem pick {m : Mem} {ds : List DV} {env : DL.Env} {As : DA} (hb : Bx m) {j : Nat} (hj : 0 < j) (hl : ds.length = j) (hj2 : j ≤ 24) {m1 : Mem} (hA : As env m = .ok ds m1) (g : Grow m m1) {b : Nat} (he : env[b]? = some (some (.ref 2))) (P : DV → Mem → Prop)
    (hP : ∀ d ∈ ds, ∀ m', Bx m' → Kept m1 m' → P d m') : (eBin ixD (eLst As) (eCall D__law_draw (aCons (eVar b) (aCons (eC (.int (j : Int))) aNil))) env m).sat P := by
  have hb2 : Bx (m1 ++ [.lst ds]) := (hb.grow g).grow (Grow.app _ _)
  obtain ⟨v, m', v1, v2, v3, v4, v5⟩ := draw_bx hb2 (j := (j : Int)) (by omega)
  have hsz : szOk ds.length = true := szOk_of (by omega)
  have h3 := (hb.grow g).three
  have hat : m'[m1.length]? = some (.lst ds) := v5.get _ _ h3 at0
  obtain ⟨w, rfl⟩ : ∃ w : Nat, v = (w : Int) := ⟨v.toNat, by omega⟩
  have hw : w < ds.length := by omega
  simp only [eBin_eq, eLst_eq, hA, Out.bind_ok, hsz, if_true, eCall_eq, aCons_eq, eVar_eq, he, eC_eq, aNil_eq, v3]
  rw [ixD_ref hat, DL.atI_nat, List.getElem?_eq_getElem hw]
  exact hP _ (List.getElem_mem hw) m' v4 ((Kept.app m1 _).trans v5)
end My

end
section
set_option Elab.async false
set_option linter.all false
set_option maxRecDepth 100000
set_option maxHeartbeats 4000000
set_option autoImplicit false
namespace My
open PySem PySem.Spec L2 DL
theorem Src.up : ∀ (n : Nat) (d : DV), Src n d → Src (n + 1) d
  | n, .int _, _ => by simp
  | n, .str _, h => by simpa using h
  | n + 1, .tup ds, h => ⟨h.1, fun d hd => Src.up n d (h.2 d hd)⟩
  | 0, .tup _, h => h.elim
  | 0, .non, h => h.elim
  | _ + 1, .non, h => h.elim
  | 0, .bl _, h => h.elim
  | _ + 1, .bl _, h => h.elim
  | 0, .ref _, h => h.elim
  | _ + 1, .ref _, h => h.elim
theorem fit_of (z : Str) (h : PyData.canLay0 (.str z) = true) (h2 : z.length ≤ 1000) : strFit z := ⟨h, by omega⟩
theorem cutL_to (ds : List DV) (n : Nat) : cutL ds none (some (n : Int)) = ds.take n := by
  unfold cutL
  rw [HT.sIx_nat, HT.sIx_none]
  simp
theorem cutL_from (ds : List DV) (n : Nat) : cutL ds (some (n : Int)) none = ds.drop n := by
  unfold cutL
  rw [HT.sIx_nat, HT.sIx_none]
  by_cases h : n ≤ ds.length
  · rw [Nat.min_eq_left h, List.take_of_length_le (by simp)]
  · rw [Nat.min_eq_right (by omega), List.drop_eq_nil_of_le (Nat.le_refl _), List.drop_eq_nil_of_le (by omega)]; simp
theorem behind_eq {ds : List DV} (hl : ds.length ≤ 40000) {n : Nat} (h : ∀ q ∈ ds, Src n q) (x0 x2 : Option DV) (m : Mem) : c__law_other_2 [x0, some (.tup ds), x2, none] m = .ok (.tup ds.reverse) m := by
  refine (comp_tup (m1 := m) (gs := []) (xs := List.range ds.length) (g := fun i => .int (i : Int)) (fun _ => true) (fun i => ds.getD (ds.length - 1 - i) .non) ?_ (guard_nil m) (by simp; omega) (Grow.refl m) ?_ ?_).trans ?_
  · rw [rng1_eq (m1 := m) (n := ds.length) (by simp) (by omega)]
  · intro i hi m' _
    have hi' := List.mem_range.mp hi
    have e : (ds.length : Int) - 1 - (i : Int) = ((ds.length - 1 - i : Nat) : Int) := by omega
    have h1 : atI ds ((ds.length : Int) - 1 - (i : Int)) = some (ds.getD (ds.length - 1 - i) .non) := by
      rw [e, DL.atI_nat, List.getD_eq_getElem?_getD, List.getElem?_eq_getElem (by omega)]; rfl
    simp only [gVar_eq, sat_ok]
    refine ⟨trivial, by simp, fun _ => ?_⟩
    simp [h1]
  · intro i hi
    have hi' := List.mem_range.mp hi
    rw [List.getD_eq_getElem?_getD, List.getElem?_eq_getElem (by omega)]
    exact Src.lo n _ (h _ (List.getElem_mem _))
  · rw [filt_all]
    congr 2
    apply List.ext_getElem
    · simp
    · intro i h1 h2
      have : i < ds.length := by simpa using h1
      simp [List.getD_eq_getElem?_getD, List.getElem?_eq_getElem (show ds.length - 1 - i < ds.length by omega)]
theorem other_tg {n : Nat} {d : DV} {m : Mem} (hb : Bx m) (h : Src n d) : ∃ d' m', D__law_other [.ref 2, d] m = .ok d' m' ∧ Tg m' (n + 1) d' ∧ Bx m' ∧ Kept m m' := by
  have hth : Th m n d := Src.th n d h
  refine run_tg rfl hb ?_
  cases d with
  | tup ds =>
    cases n with
    | zero => exact h.elim
    | succ n =>
      have hbeh := behind_eq h.1 h.2 (some (.ref 2)) none m
      have hlen : ds.length ≤ 40000 := h.1
      simp [-eBin_eq, S__law_other, envOf, isI_th_tuple hth, DV.isTupB, hbeh]
      have hadd : addD (.tup ds) (.tup (ds.take 1)) (m ++ [.lst ds]) = .ok (.tup (ds ++ ds.take 1)) (m ++ [.lst ds]) := addD_tup (by simp; omega)
      have hto := cutL_to ds 1
      have hfrom := cutL_from ds 1
      simp only [Int.cast_ofNat_Int] at hto hfrom
      refine pick (ds := [.ref m.length, .tup (ds ++ ds.take 1), .tup (ds.drop 1), .non, .tup [], .tup ds.reverse]) (j := 6) (m1 := m ++ [.lst ds]) hb (by omega) rfl (by omega) ?_ (Grow.app _ _) rfl _ ?_
      · simp [listD, seqOf, eSl, oSome, slD, hto, hfrom, hadd]
      · intro d hd m' hb' hk
        refine ⟨d, rfl, ?_, hb', (Kept.app m _).trans hk⟩
        have hsrc : ∀ q ∈ ds, Tg m' (n + 1) q := fun q hq => Src.tg _ _ (Src.up n q (h.2 q hq))
        simp at hd
        rcases hd with rfl | rfl | rfl | rfl | rfl | rfl
        · exact ⟨hb.three, ds, hk.get _ _ hb.three at0, by omega, fun q hq => Src.up n q (h.2 q hq)⟩
        · refine ⟨by simp; omega, fun q hq => ?_⟩
          rcases List.mem_append.mp hq with g | g
          · exact hsrc q g
          · exact hsrc q (List.mem_of_mem_take g)
        · refine ⟨by simp; omega, fun q hq => hsrc q (List.mem_of_mem_tail hq)⟩
        · simp
        · exact ⟨by simp, by simp⟩
        · exact ⟨by simp; omega, fun q hq => hsrc q (by simpa using hq)⟩
  | str z =>
    simp [-eBin_eq, S__law_other, envOf, isI_th_tuple hth, isI_th_str hth, DV.isTupB, DV.isStrB]
    refine pick (ds := [.str "j0", .str "j1", .str "j2", .str "s0", .str "jobs", .str "two", .str "full", .str "A", .str "", .str "x y", .non, .str "j9"]) (j := 12) (m1 := m) hb (by omega) rfl (by omega) (by simp) (Grow.refl m) rfl _ ?_
    intro d hd m' hb' hk
    refine ⟨d, rfl, ?_, hb', hk⟩
    simp at hd
    rcases hd with rfl | rfl | rfl | rfl | rfl | rfl | rfl | rfl | rfl | rfl | rfl | rfl <;> simp <;> exact fit_of _ (by decide +kernel) (by decide +kernel)
  | int i =>
    simp [-eBin_eq, S__law_other, envOf, isI_th_tuple hth, isI_th_str hth, DV.isTupB, DV.isStrB]
    refine pick (ds := [.int (i + 1), .int (i - 1), .int (0 - i), .bl true, .non, .int 0, .int 100]) (j := 7) (m1 := m) hb (by omega) rfl (by omega) (by simp) (Grow.refl m) rfl _ ?_
    intro d hd m' hb' hk
    refine ⟨d, rfl, ?_, hb', hk⟩
    simp at hd
    rcases hd with rfl | rfl | rfl | rfl | rfl | rfl | rfl <;> simp
  | _ => cases n <;> exact h.elim
end My

end
section
set_option Elab.async false
set_option linter.all false
set_option maxRecDepth 100000
set_option maxHeartbeats 4000000
set_option autoImplicit false
namespace My
open PySem PySem.Spec L2 DL
theorem changed_tg : ∀ (j n : Nat) {d : DV} {m : Mem}, n < j → n ≤ 50 → Bx m → Src n d → ∃ d' m', D__law_changed j [.ref 2, d] m = .ok d' m' ∧ Tg m' (n + 1) d' ∧ Bx m' ∧ Kept m m'
  | 0, n, d, m, hn, _, _, _ => absurd hn (Nat.not_lt_zero _)
  | j + 1, n, d, m, hn, h50, hb, h => by
    have hth : Th m n d := Src.th n d h
    refine run_tg rfl hb ?_
    have oth : ∀ m1, Bx m1 → Kept m m1 → (D__law_other [.ref 2, d] m1).sat fun a m' => ∃ d', (Fl.rt a).val = some d' ∧ Tg m' (n + 1) d' ∧ Bx m' ∧ Kept m m' := by
      intro m1 hb1 hk1
      obtain ⟨d', m', e, h1, h2, h3⟩ := other_tg hb1 h
      rw [e]
      exact ⟨d', rfl, h1, h2, hk1.trans h3⟩
    cases d with
    | tup ds =>
      cases n with
      | zero => exact h.elim
      | succ n =>
        have hu := eq_unit hth (by omega)
        by_cases he : ds = []
        · subst he
          simp [S__law_changed, envOf, isI_th_tuple hth, DV.isTupB, hu]
          simpa using oth m hb (Kept.refl m)
        · have hpos : 0 < ds.length := List.length_pos_iff.mpr he
          have hemp : ds.isEmpty = false := by cases ds with
            | nil => exact absurd rfl he
            | cons _ _ => rfl
          rw [hemp] at hu
          obtain ⟨v, m1, v1, v2, v3, v4, v5⟩ := draw_bx hb (j := 9) (by omega)
          obtain ⟨w, m2, w1, w2, w3, w4, w5⟩ := draw_bx v4 (j := 900) (by omega)
          have hposI : (0 : Int) < (ds.length : Int) := by omega
          obtain ⟨at_, hat, hat2⟩ : ∃ at_ : Nat, (at_ : Int) = w % (ds.length : Int) ∧ at_ < ds.length := by
            have h1 := Int.emod_nonneg w (b := (ds.length : Int)) (by omega)
            have h2 := Int.emod_lt_of_pos w hposI
            exact ⟨(w % (ds.length : Int)).toNat, by omega, by omega⟩
          by_cases hv : v = 0
          · subst hv
            simp [S__law_changed, envOf, isI_th_tuple hth, DV.isTupB, hu, v3]
            simpa using oth m1 v4 v5
          · obtain ⟨c, m3, c1, c2, c3, c4⟩ := changed_tg j n (d := ds[at_]) (m := m2) (by omega) (by omega) w4 (h.2 _ (List.getElem_mem hat2))
            have hix : atI ds (at_ : Int) = some ds[at_] := by rw [DL.atI_nat, List.getElem?_eq_getElem hat2]
            have hto : cutL ds none (some (at_ : Int)) = ds.take at_ := cutL_to ds at_
            have hfrom : cutL ds (some ((at_ : Int) + 1)) none = ds.drop (at_ + 1) := by
              have := cutL_from ds (at_ + 1)
              simpa using this
            have hlen : ds.length ≤ 40000 := h.1
            have hadd1 : ∀ m, addD (.tup (ds.take at_)) (.tup [c]) m = .ok (.tup (ds.take at_ ++ [c])) m := fun m => addD_tup (by simp; omega)
            have hadd2 : ∀ m, addD (.tup (ds.take at_ ++ [c])) (.tup (ds.drop (at_ + 1))) m = .ok (.tup (ds.take at_ ++ [c] ++ ds.drop (at_ + 1))) m := fun m => addD_tup (by simp; omega)
            simp [-List.append_assoc, S__law_changed, envOf, isI_th_tuple hth, DV.isTupB, hu, v3, hv, w3, hposI, hpos, ← hat, eSl, oSome, slD, hto, hfrom, hix, c1, hadd1, hadd2]
            refine ⟨_, rfl, ⟨by simp; omega, fun q hq => ?_⟩, c3, (v5.trans w5).trans c4⟩
            have hsrc : ∀ q ∈ ds, Tg m3 (n + 1) q := fun q hq => Src.tg _ _ (Src.up n q (h.2 q hq))
            rcases List.mem_append.mp hq with g | g
            · rcases List.mem_append.mp g with g | g
              · exact hsrc q (List.mem_of_mem_take g)
              · rw [List.mem_singleton.mp g]; exact c2
            · exact hsrc q (List.mem_of_mem_drop g)
    | str z =>
      simp [S__law_changed, envOf, isI_th_tuple hth, DV.isTupB]
      simpa using oth m hb (Kept.refl m)
    | int i =>
      simp [S__law_changed, envOf, isI_th_tuple hth, DV.isTupB]
      simpa using oth m hb (Kept.refl m)
    | _ => cases n <;> exact h.elim
end My

end
section
set_option Elab.async false
set_option linter.all false
set_option maxRecDepth 100000
set_option maxHeartbeats 4000000
set_option autoImplicit false
namespace My
open PySem PySem.Spec L2 DL
theorem gcO_keep {d : DV} {m m' : Mem} (h3 : 3 ≤ m.length) (hd : ∀ k, d ≠ .ref k) (hk : Kept m m') : ∃ m2, gcO m (.ok d m') = .ok d m2 ∧ Kept m m2 ∧ ∀ i, i < 3 → m2[i]? = m'[i]? := by
  have hsame : ∀ i, i < 3 → (m'.take m.length)[i]? = m'[i]? := fun i hi => List.getElem?_take_of_lt (by omega)
  have hkt : Kept m (m'.take m.length) := ⟨by rw [List.length_take, Nat.min_eq_left hk.len]; exact Nat.le_refl _, fun k o hi e => by rw [List.getElem?_take_of_lt (List.getElem?_eq_some_iff.mp e).1]; exact hk.get k o hi e⟩
  unfold gcO
  by_cases ho : OldOk m m'
  · simp only [if_pos ho]
    by_cases hl : d.lo m.length
    · rw [if_pos hl]; exact ⟨_, rfl, hkt, hsame⟩
    · rw [if_neg hl]
      cases d with
      | ref k => exact absurd rfl (hd k)
      | _ => exact ⟨_, rfl, hk, fun _ _ => rfl⟩
  · simp only [if_neg ho]
    exact ⟨m', rfl, hk, fun _ _ => rfl⟩
theorem Bx.same {m m2 : Mem} (h : Bx m) (g : ∀ i, i < 3 → m2[i]? = m[i]?) : Bx m2 := by
  obtain ⟨is, a, h1, h2⟩ := h
  exact ⟨is, a, by rw [g 2 (by omega)]; exact h1, by rw [g 1 (by omega)]; exact h2⟩
structure Okv (rows : List Row) : Prop where
  pos : 0 < rows.length
  le : rows.length ≤ 7
  bnd : ∀ r ∈ rows, 0 ≤ r.1 ∧ r.1 < 6 ∧ 0 ≤ r.2.1 ∧ r.2.1 < 12 ∧ 0 ≤ r.2.2 ∧ r.2.2 < 4
theorem Okv.ok {rows : List Row} (o : Okv rows) : Okr rows := ⟨by have := o.le; omega, fun r hr => by have := o.bnd r hr; omega⟩
theorem Kept.set {m : Mem} {k : Nat} {o : MO} (hk : m.length ≤ k) {m' : Mem} (h : Kept m m') : Kept m (m'.set k o) := ⟨by simpa using h.len, fun i ob hi e => by
  have hl := (List.getElem?_eq_some_iff.mp e).1
  rw [List.getElem?_set_ne (by omega)]; exact h.get i ob hi e⟩
theorem Bx.set {m : Mem} {k : Nat} {o : MO} (hk : 3 ≤ k) (h : Bx m) : Bx (m.set k o) := h.same fun i hi => List.getElem?_set_ne (by omega)
theorem rows_bx {m : Mem} (hb : Bx m) (x0 x2 x3 x4 x5 x6 x7 x8 x9 x10 : Option DV) :
    (c_law_1 [x0, some (.ref 2), x2, x3, x4, x5, x6, x7, x8, x9, x10, none, none, none] m).sat fun d m' => ∃ rows k, Okv rows ∧ d = .ref k ∧ m'[k]? = some (.lst (rows.map encR)) ∧ Bx m' ∧ Kept m m' := by
  obtain ⟨v, m1, v1, v2, v3, v4, v5⟩ := draw_bx hb (j := 7) (by omega)
  have h3 := v4.three
  unfold c_law_1 eComp
  rw [rng1_eq (m1 := m1) (n := v.toNat + 1) (by simp [v3]; omega) (by omega)]
  simp only [Out.bind_ok, sat_bind, sat_ok]
  refine compD_inv _ _ [] (fun i acc m' => ∃ rows, rows.length = i ∧ acc = rows.map encR ∧ (∀ r ∈ rows, 0 ≤ r.1 ∧ r.1 < 6 ∧ 0 ≤ r.2.1 ∧ r.2.1 < 12 ∧ 0 ≤ r.2.2 ∧ r.2.2 < 4) ∧ Bx m' ∧ Kept m1 m' ∧ m'[m1.length]? = some (.lst acc))
    ⟨[], rfl, rfl, by simp, v4.grow (Grow.app _ _), Kept.app _ _, at0⟩ (fun i acc m' _ => guard_nil m') ?_ ?_
  · rintro i d acc m' hd ⟨rows, hr, rfl, hbd, hb', hk', hl'⟩
    have hi : i < v.toNat + 1 := by have := (List.getElem?_eq_some_iff.mp hd).1; simpa using this
    simp only [gVar_eq, sat_ok, tYes_eq, if_true, eTup_eq, aCons_eq, sat_bind, wipe_cons, wipe_nil, List.set_cons_succ, List.set_cons_zero]
    refine pick (ds := [.int 0, .int 1, .int 2, .int 3, .int 5]) (j := 5) (m1 := m') hb' (by omega) rfl (by omega) (by simp) (Grow.refl m') rfl _ ?_
    intro w hw m2 hb2 hk2
    obtain ⟨s, m3, s1, s2, s3, s4, s5⟩ := draw_bx hb2 (j := 12) (by omega)
    obtain ⟨q, m4, q1, q2, q3, q4, q5⟩ := draw_bx s4 (j := 4) (by omega)
    have hwi : ∃ wi : Int, w = .int wi ∧ 0 ≤ wi ∧ wi < 6 := by
      simp at hw
      rcases hw with rfl | rfl | rfl | rfl | rfl <;> exact ⟨_, rfl, by omega, by omega⟩
    obtain ⟨wi, rfl, wi1, wi2⟩ := hwi
    have hkk := (hk2.trans s5).trans q5
    simp [s3, q3]
    refine ⟨hkk.get _ _ h3 hl', by omega, ?_⟩
    refine ⟨rows ++ [(wi, s, q)], by simp [hr], by simp [encR], ?_, Bx.set h3 q4, Kept.set (Nat.le_refl _) (hk'.trans hkk), ?_⟩
    · intro x y z hx
      rcases List.mem_append.mp hx with h | h
      · exact hbd _ h
      · cases List.mem_singleton.mp h; exact ⟨wi1, wi2, s1, s2, q1, q2⟩
    · have hlt : m1.length < m4.length := (List.getElem?_eq_some_iff.mp (hkk.get _ _ h3 hl')).1
      first
        | (rw [List.getElem?_set_self hlt]; done)
        | (rw [List.getElem?_set_self hlt]; simp [encR])
  · rintro acc m' ⟨rows, hr, rfl, hbd, hb', hk', hl'⟩
    have hlen : rows.length = v.toNat + 1 := by simpa using hr
    exact ⟨rows, m1.length, ⟨by omega, by omega, hbd⟩, rfl, hl', hb', v5.trans hk'⟩
end My

end
section
set_option Elab.async false
set_option linter.all false
set_option maxRecDepth 100000
set_option maxHeartbeats 4000000
set_option autoImplicit false
namespace My
open PySem PySem.Spec L2 DL
theorem rows_tup {m : Mem} (hb : Bx m) (x0 x2 x3 x4 x5 x6 x7 x8 x9 x10 : Option DV) :
    ∃ rows m', c_law_2 [x0, some (.ref 2), x2, x3, x4, x5, x6, x7, x8, x9, x10, none, none, none] m = .ok (.tup (rows.map encR)) m' ∧ Okv rows ∧ Bx m' ∧ Kept m m' := by
  obtain ⟨d, m1, e, rows, k, o, rfl, hk, hb1, hk1⟩ := (rows_bx hb x0 x2 x3 x4 x5 x6 x7 x8 x9 x10).ex
  obtain ⟨m2, e2, k2, s2⟩ := gcO_keep (d := .tup (rows.map encR)) hb.three (by intro k h; cases h) hk1
  refine ⟨rows, m2, ?_, o, hb1.same s2, k2⟩
  have e3 : eCall (f1 tupD) (aCons c_law_1 aNil) [x0, some (.ref 2), x2, x3, x4, x5, x6, x7, x8, x9, x10, none, none, none] m = .ok (.tup (rows.map encR)) m1 := by
    simp [e, tupD_at hk]
  show gcO m _ = _
  rw [e3, e2]
/-- told and lots are ref-free -/
theorem src_rows (rows : List Row) (hl : rows.length ≤ 1000) : Src 3 (encL rows) := by
  refine ⟨by simp, fun d hd => ?_⟩
  simp at hd
  rcases hd with rfl | rfl
  · simp only [src_str]; exact fit_lots
  · refine ⟨by simp; omega, fun d hd => ?_⟩
    obtain ⟨r, _, rfl⟩ := List.mem_map.mp hd
    refine ⟨by simp, fun d hd => ?_⟩
    simp at hd
    rcases hd with rfl | rfl | rfl <;> simp
theorem src_told (made : List Nat) (prices : List Int) (h1 : made.length ≤ 1000) (h2 : prices.length ≤ 1000) : Src 3 (.tup [encD made, encI prices]) := by
  refine ⟨by simp, fun d hd => ?_⟩
  simp at hd
  rcases hd with rfl | rfl
  · refine ⟨by simp; omega, fun d hd => ?_⟩
    obtain ⟨x, _, rfl⟩ := List.mem_map.mp hd
    simp
  · refine ⟨by simp; omega, fun d hd => ?_⟩
    obtain ⟨x, _, rfl⟩ := List.mem_map.mp hd
    simp
end My

end
section
set_option Elab.async false
set_option linter.all false
set_option maxRecDepth 100000
set_option maxHeartbeats 4000000
set_option autoImplicit false
namespace My
open PySem PySem.Spec L2 DL
theorem some_comp {m : Mem} (hb : Bx m) {n kd : Nat} (hn : n ≤ 12) (h3k : 3 ≤ kd) (hd : m[kd]? = some (.lst ((List.range n).map fun (x : Nat) => .int (x : Int)))) (x0 x2 x3 x4 x5 x7 x8 x9 x10 x11 x12 : Option DV) :
    (c_law_6 [x0, some (.ref 2), x2, x3, x4, x5, some (.ref kd), x7, x8, x9, x10, x11, x12, none] m).sat fun d m' => ∃ (made : List Nat) (k : Nat), d = .ref k ∧ m'[k]? = some (.lst (made.map fun (x : Nat) => .int (x : Int))) ∧ made.Pairwise (· < ·) ∧ (∀ x ∈ made, x < n) ∧ Bx m' ∧ Kept m m' := by
  have h3 := hb.three
  unfold c_law_6 eComp
  rw [iAny_lst (m1 := m) (k := kd) (ds := (List.range n).map fun (x : Nat) => .int (x : Int)) (by simp) hd]
  simp only [Out.bind_ok, sat_bind, sat_ok]
  refine compD_inv _ _ [] (fun i acc m' => ∃ made : List Nat, acc = made.map (fun (x : Nat) => .int (x : Int)) ∧ made.Pairwise (· < ·) ∧ (∀ x ∈ made, x < i) ∧ Bx m' ∧ Kept m m' ∧ m'[m.length]? = some (.lst acc))
    ⟨[], rfl, .nil, by simp, hb.grow (Grow.app _ _), Kept.app _ _, at0⟩ (fun i acc m' ⟨_, _, _, _, _, hk, _⟩ p hp => by rw [List.mem_singleton.mp hp]; exact hk.get _ _ h3k hd) ?_ ?_
  · rintro i d acc m' hd2 ⟨made, rfl, ha, hlt, hb', hk', hl'⟩
    have hi : i < n := by have := (List.getElem?_eq_some_iff.mp hd2).1; simpa using this
    rw [List.getElem?_map, List.getElem?_range hi] at hd2
    cases hd2
    obtain ⟨s, m3, s1, s2, s3, s4, s5⟩ := draw_bx hb' (j := 2) (by omega)
    simp [s3]
    by_cases h0 : s = 0
    · rw [if_pos h0]
      have hl3 := s5.get _ _ h3 hl'
      refine ⟨hl3, ?_, made ++ [i], by simp, ?_, ?_, Bx.set h3 s4, Kept.set (Nat.le_refl _) (hk'.trans s5), ?_⟩
      · have := asc_len ha hlt
        omega
      · exact List.pairwise_append.mpr ⟨ha, by simp, fun a hma b hmb => by rw [List.mem_singleton.mp hmb]; exact hlt a hma⟩
      · intro x hx
        rcases List.mem_append.mp hx with g | g
        · have := hlt x g; omega
        · rw [List.mem_singleton.mp g]; omega
      · rw [List.getElem?_set_self (List.getElem?_eq_some_iff.mp hl3).1]
    · rw [if_neg h0]
      exact ⟨made, rfl, ha, fun x hx => by have := hlt x hx; omega, s4, hk'.trans s5, s5.get _ _ h3 hl'⟩
  · rintro acc m' ⟨made, rfl, ha, hlt, hb', hk', hl'⟩
    rw [List.length_map, List.length_range] at hlt
    exact ⟨made, m.length, rfl, hl', ha, hlt, hb', hk'⟩
end My
namespace My
open PySem PySem.Spec L2 DL
theorem some_tup {m : Mem} (hb : Bx m) {n kd : Nat} (hn : n ≤ 12) (h3k : 3 ≤ kd) (hd : m[kd]? = some (.lst ((List.range n).map fun (x : Nat) => .int (x : Int)))) (x0 x2 x3 x4 x5 x7 x8 x9 x10 x11 x12 : Option DV) :
    ∃ made m', c_law_7 [x0, some (.ref 2), x2, x3, x4, x5, some (.ref kd), x7, x8, x9, x10, x11, x12, none] m = .ok (encD made) m' ∧ made.Pairwise (· < ·) ∧ (∀ x ∈ made, x < n) ∧ Bx m' ∧ Kept m m' := by
  obtain ⟨d, m1, e, made, k, rfl, hk, ha, hlt, hb1, hk1⟩ := (some_comp hb hn h3k hd x0 x2 x3 x4 x5 x7 x8 x9 x10 x11 x12).ex
  obtain ⟨m2, e2, k2, s2⟩ := gcO_keep (d := encD made) hb.three (by intro k h; cases h) hk1
  refine ⟨made, m2, ?_, ha, hlt, hb1.same s2, k2⟩
  have e3 : eCall (f1 tupD) (aCons c_law_6 aNil) [x0, some (.ref 2), x2, x3, x4, x5, some (.ref kd), x7, x8, x9, x10, x11, x12, none] m = .ok (encD made) m1 := by
    simp [e, tupD_at hk, encD]
  show gcO m _ = _
  rw [e3, e2]
end My

end
section
set_option Elab.async false
set_option linter.all false
set_option maxRecDepth 100000
set_option maxHeartbeats 4000000
set_option autoImplicit false
namespace My
open PySem PySem.Spec L2 DL
theorem step_ok {rows : List Row} (o : Okv rows) {made0 : List Nat} {prices : List Int} (hm0 : made0.length ≤ 1000) (hp0 : prices.length ≤ 1000) {m : Mem} (hb : Bx m) {kd : Nat} (h3k : 3 ≤ kd) (hd : m[kd]? = some (.lst ((List.range rows.length).map fun (x : Nat) => .int (x : Int)))) (step : Nat) (x0 x2 x3 x7 x9 x10 : Option DV) :
    (b_law_1 [x0, some (.ref 2), x2, x3, some (encL rows), some (.tup [encD made0, encI prices]), some (.ref kd), x7, some (.int (step : Int)), x9, x10, none, none, none] m).sat fun fl m' => ∃ y9 y10, fl = .nx [x0, some (.ref 2), x2, x3, some (encL rows), some (.tup [encD made0, encI prices]), some (.ref kd), x7, some (.int (step : Int)), y9, y10, none, none, none] ∧ Bx m' ∧ Kept m m' := by
  have ok := o.ok
  have hle := o.le
  obtain ⟨made, m1, e1, ha, hlt, b1, k1⟩ := some_tup hb (n := rows.length) (by omega) h3k hd x0 x2 x3 (some (encL rows)) (some (.tup [encD made0, encI prices])) x7 (some (.int (step : Int))) x9 x10 none none
  have hml := asc_len ha hlt
  have c1 := lots_cost_all ok (made := made) (by omega) hlt m1
  have c2 := lcost_all ok (made := made) (by omega) hlt m1
  have l1 := like_opt (costO rows made) (costO rows made) m1 9
  have hth : Th m1 3 (.tup [encD made, encI prices]) := Src.th 3 _ (src_told made prices (by omega) hp0)
  obtain ⟨bb, j1, j2⟩ := judges ok hth
  have l2 := like_bl bb bb m1 9
  have hst := src_told made0 prices hm0 hp0
  obtain ⟨t1, m2, e2, g2, b2, k2⟩ := changed_tg 10 3 (by omega) (by omega) b1 hst
  obtain ⟨bc, j3, j4⟩ := judges ok (Tg.th _ _ g2)
  have l3 := like_bl bc bc m2 9
  have hix : ∀ m, ixD (.tup [encD made0, encI prices]) (.int 1) m = .ok (encI prices) m := fun m => by simp
  by_cases hs : 0 < step
  · have hs' : (0 : Int) < (step : Int) := by omega
    obtain ⟨t2, m3, e3, g3, b3, k3⟩ := changed_tg 10 3 (by omega) (by omega) b2 (src_rows rows (by omega))
    have i1 := lots_th (Tg.th _ _ g3) (by omega)
    have i2 := llots_th (Tg.th _ _ g3) (by omega)
    have l4 := like_bl (lotsB t2) (lotsB t2) m3 9
    simp at l1 l2 l3 l4
    simp [b_law_1, e1, c1, c2, l1, j1, j2, l2, e2, j3, j4, l3, hs', hs, e3, i1, i2, l4]
    exact ⟨b3, (k1.trans k2).trans k3⟩
  · have hs' : ¬ (0 : Int) < (step : Int) := by omega
    have hsl : Th m2 3 (encL rows) := Src.th 3 _ (src_rows rows (by omega))
    have i1 := lots_th hsl (by omega)
    have i2 := llots_th hsl (by omega)
    have l4 := like_bl (lotsB (encL rows)) (lotsB (encL rows)) m2 9
    simp at l1 l2 l3 l4
    simp [b_law_1, e1, c1, c2, l1, j1, j2, l2, e2, j3, j4, l3, hs', hs, i1, i2, l4]
    exact ⟨b2, k1.trans k2⟩
end My

end
section
set_option Elab.async false
set_option linter.all false
set_option maxRecDepth 100000
set_option maxHeartbeats 4000000
set_option autoImplicit false
namespace My
open PySem PySem.Spec L2 DL
theorem costs_eq {rows : List Row} (o : Okv rows) {kd : Nat} {m : Mem} (hd : m[kd]? = some (.lst ((List.range rows.length).map fun (x : Nat) => .int (x : Int)))) (x0 x1 x2 x3 x5 x7 x8 x9 x10 x11 x12 x13 : Option DV) :
    ∃ m', c_law_3 [x0, x1, x2, x3, some (encL rows), x5, some (.ref kd), x7, x8, x9, x10, x11, x12, x13] m = .ok (.ref (m.length + 1)) m' ∧ m'[m.length + 1]? = some (.lst ((subsR rows.length).map fun s => optD (costO rows s))) ∧ Grow m m' := by
  have hle := o.le
  have hs := subsets_eq (n := rows.length) (by omega) hd
  have hlen : (subsR rows.length).length ≤ 4096 := by
    rw [subsR_len]
    exact Nat.le_trans (Nat.pow_le_pow_right (by omega) (show rows.length ≤ 12 by omega)) (by decide)
  have hc := comp_pure (I := iAnyD (eCall D__law_subsets (aCons (eVar 6) aNil))) (G := gVar 9) (T := tYesD) (E := eCall D__law_cost (aCons (eVar 4) (aCons (eVar 9) aNil))) (vs := [9]) (env := [x0, x1, x2, x3, some (encL rows), x5, some (.ref kd), x7, x8, x9, x10, x11, x12, x13]) (m := m) (m1 := m ++ [.lst ((subsR rows.length).map encD)]) (gs := [(m.length, .lst ((subsR rows.length).map encD))]) (xs := subsR rows.length) (g := encD) (fun _ => true) (fun s => optD (costO rows s))
    (iAny_lst (by simp [hs]) at0) (fun p hp => by rw [List.mem_singleton.mp hp]; exact at0) (by omega) (fun s hs2 m' _ => by
      obtain ⟨h1, h2⟩ := subsR_ok hs2
      have h3 := asc_len h1 h2
      have e := lcost_all o.ok (made := s) (by omega) h2 m'
      simp [e])
  rw [filt_all] at hc
  refine ⟨m ++ [.lst ((subsR rows.length).map encD)] ++ [.lst ((subsR rows.length).map fun s => optD (costO rows s))], ?_, ?_, (Grow.app m _).trans (Grow.app _ _)⟩
  · rw [show (m.length + 1) = (m ++ [MO.lst ((subsR rows.length).map encD)]).length by simp]
    exact hc
  · rw [List.append_assoc]; exact at1
end My

end
section
set_option Elab.async false
set_option linter.all false
set_option maxRecDepth 100000
set_option maxHeartbeats 4000000
set_option autoImplicit false
namespace My
open PySem PySem.Spec L2 DL
theorem foldl_min : ∀ (xs : List Int) (a : Int), (xs.foldl min a = a ∨ xs.foldl min a ∈ xs) ∧ xs.foldl min a ≤ a ∧ ∀ x ∈ xs, xs.foldl min a ≤ x
  | [], a => ⟨.inl rfl, Int.le_refl _, by simp⟩
  | x :: xs, a => by
    obtain ⟨h1, h2, h3⟩ := foldl_min xs (min a x)
    simp only [List.foldl_cons]
    refine ⟨?_, by omega, fun y hy => ?_⟩
    · rcases h1 with h | h
      · rw [h]
        rcases Int.le_total a x with g | g
        · left; omega
        · right; rw [show min a x = x by omega]; simp
      · right; exact List.mem_cons_of_mem _ h
    · rcases List.mem_cons.mp hy with g | g
      · rw [g]; omega
      · exact h3 y g
/-- min of a list of ints -/
theorem best_ints {m : Mem} {k : Nat} {i : Int} {is : List Int} (h : m[k]? = some (.lst ((i :: is).map .int))) : bestD PySem.W.minD (.ref k) m = .ok (.int (is.foldl min i)) m := by
  have e1 : optAll (((i :: is).map DV.int).map (pd m 50)) = some ((i :: is).map .int) := pd_ints 50 (i :: is)
  have hl : loAll 0 ((i :: is).map DV.int) := loAll_iff.mpr fun d hd => by obtain ⟨x, _, rfl⟩ := List.mem_map.mp hd; trivial
  have ha : PySem.W.AlikeAll ((i :: is).map .int) := by
    refine ⟨fun x hx y hy => ?_, fun x hx => ?_⟩
    · obtain ⟨a, _, rfl⟩ := List.mem_map.mp hx
      obtain ⟨b, _, rfl⟩ := List.mem_map.mp hy
      rfl
    · obtain ⟨a, _, rfl⟩ := List.mem_map.mp hx
      intro e; cases e
  have hd : PyData.depthAll ((i :: is).map .int) ≤ 50 := by rw [depth_ints]; omega
  simp only [bestD, lstOf, h, e1]
  simp only [List.map_cons] at hl ha hd ⊢
  rw [if_pos ⟨hl, ha, hd⟩, PySem.W.minD_ints]
  simp [ofD]
end My

end
section
set_option Elab.async false
set_option linter.all false
set_option maxRecDepth 100000
set_option maxHeartbeats 4000000
set_option autoImplicit false
namespace My
open PySem PySem.Spec L2 DL
/-- the costs that are not None -/
def somes (rows : List Row) (xs : List (Option Int)) : List Int := xs.filterMap id
theorem filt_opt : ∀ xs : List (Option Int), (xs.filter fun o => o.isSome).map optD = (xs.filterMap id).map DV.int
  | [] => rfl
  | none :: xs => by simpa using filt_opt xs
  | some i :: xs => by simpa [optD] using filt_opt xs
theorem c5_eq {m : Mem} {k : Nat} {xs : List (Option Int)} {c : Int} (hl : xs.length ≤ 100000) (h : m[k]? = some (.lst (xs.map optD))) (hc : some c ∈ xs) (hmin : ∀ y, some y ∈ xs → c ≤ y) (x0 x1 x2 x3 x4 x5 x6 x8 x9 x10 x11 x13 : Option DV) :
    c_law_5 [x0, x1, x2, x3, x4, x5, x6, some (.ref k), x8, x9, x10, x11, none, x13] m = .ok (.int c) m := by
  have hcomp := comp_pure (I := iAnyD (eVar 7)) (G := gVar 12) (T := tst (eUn notN (eVar 12))) (E := eVar 12) (vs := [12]) (env := [x0, x1, x2, x3, x4, x5, x6, some (.ref k), x8, x9, x10, x11, none, x13]) (m := m) (m1 := m) (gs := [(k, .lst (xs.map optD))]) (xs := xs) (g := optD) (fun o => o.isSome) optD
    (iAny_lst (by simp) h) (fun p hp => by rw [List.mem_singleton.mp hp]; exact h) (by omega) (fun o _ m' _ => by
      cases o <;> simp [optD, tst])
  rw [filt_opt] at hcomp
  refine gc_pure (m' := m ++ [.lst ((xs.filterMap id).map .int)]) ?_ (Grow.app _ _) trivial
  have hmem : c ∈ xs.filterMap id := List.mem_filterMap.mpr ⟨some c, hc, rfl⟩
  cases hx : xs.filterMap id with
  | nil => rw [hx] at hmem; cases hmem
  | cons i is =>
    rw [hx] at hcomp hmem
    have hall : ∀ y ∈ i :: is, c ≤ y := fun y hy => by
      rw [← hx] at hy
      obtain ⟨o, ho, e⟩ := List.mem_filterMap.mp hy
      cases e
      exact hmin y ho
    have hv : is.foldl min i = c := by
      obtain ⟨h1, h2, h3⟩ := foldl_min is i
      have hge : c ≤ is.foldl min i := by
        rcases h1 with g | g
        · rw [g]; exact hall i (by simp)
        · exact hall _ (List.mem_cons_of_mem _ g)
      rcases List.mem_cons.mp hmem with g | g
      · omega
      · have := h3 c g; omega
    show (eCall (f1 (bestD PySem.W.minD)) (aCons c_law_4 aNil)) _ m = _
    have hcomp' : c_law_4 [x0, x1, x2, x3, x4, x5, x6, some (.ref k), x8, x9, x10, x11, none, x13] m = .ok (.ref m.length) (m ++ [.lst ((i :: is).map .int)]) := hcomp
    simp only [eCall_eq, aCons_eq, hcomp', Out.bind_ok, aNil_eq, f1_eq]
    rw [best_ints (i := i) (is := is) at0, hv]
end My

end
section
set_option Elab.async false
set_option linter.all false
set_option maxRecDepth 100000
set_option maxHeartbeats 4000000
set_option autoImplicit false
namespace My
open PySem PySem.Spec L2 DL
theorem lstRg_eq {n : Nat} (hn : n ≤ 1000000) {A : DE} {env : DL.Env} {m m1 : Mem} (h : A env m = .ok (.int (n : Int)) m1) : eLstRg (dRg1 A) env m = .ok (.ref m1.length) (m1 ++ [.lst ((List.range n).map fun (x : Nat) => .int (x : Int))]) := by
  unfold eLstRg dRg1
  rw [h]
  simp only [Out.bind_ok]
  rw [if_pos (RgOk.of_le (by omega) (by omega) (by omega) (by omega))]
  rw [Int.sub_zero, Int.toNat_natCast, rng0]
theorem encL_fold (rows : List Row) : DV.tup [.str "lots", .tup (rows.map encR)] = encL rows := rfl
theorem turn_ok {m : Mem} (hb : Bx m) (x0 x2 x3 x4 x5 x6 x7 x8 x9 x10 : Option DV) :
    (b_law_2 [x0, some (.ref 2), x2, x3, x4, x5, x6, x7, x8, x9, x10, none, none, none] m).sat fun fl m' => ∃ y3 y4 y5 y6 y7 y8 y9 y10, fl = .nx [x0, some (.ref 2), x2, y3, y4, y5, y6, y7, y8, y9, y10, none, none, none] ∧ Bx m' := by
  obtain ⟨rows, m1, e1, o, b1, k1⟩ := rows_tup hb x0 x2 x3 x4 x5 x6 x7 x8 x9 x10
  have ok := o.ok
  have hle := o.le
  obtain ⟨cs, ls, B, e2⟩ := least_lots_eq ok m1
  have c : Lots.LC (dat rows) (fnC cs) (fnL ls) := B.C
  have p := c.trace_plan rows.length (Nat.le_refl _)
  have hlen := trace_len (L := fnL ls) rows.length
  have htrue := least_true ok B
  have hcov : Cov rows (Lots.trace (fnL ls) rows.length) := p.cov
  have hcost : costO rows (Lots.trace (fnL ls) rows.length) = some (fnC cs rows.length) := by
    unfold costO; rw [if_pos hcov]; exact congrArg some p.eq
  have hlaw : ∀ m, D__law_cost [encL rows, encD (Lots.trace (fnL ls) rows.length)] m = .ok (.int (fnC cs rows.length)) m := fun m => by
    have := lcost_all ok (made := Lots.trace (fnL ls) rows.length) (by omega) p.lt m
    rw [hcost] at this; exact this
  have hin : Lots.trace (fnL ls) rows.length ∈ subsR rows.length := subsR_mem p.asc p.lt
  have hprices : encP cs rows.length = encI ((List.range rows.length).map fun i => fnC cs (i + 1) - fnC cs i) := by
    unfold encP encI; rw [List.map_map]; rfl
  have hpl : ((List.range rows.length).map fun i => fnC cs (i + 1) - fnC cs i).length ≤ 1000 := by simp; omega
  rw [hprices] at htrue e2
  generalize (List.range rows.length).map (fun i => fnC cs (i + 1) - fnC cs i) = prices at htrue e2 hpl
  generalize Lots.trace (fnL ls) rows.length = made0 at *
  have hth : Th m1 3 (.tup [encD made0, encI prices]) := Src.th 3 _ (src_told made0 prices (by omega) hpl)
  have h3 := b1.three
  have hL : ∀ m', Grow m1 m' → Th m' 3 (.tup [encD made0, encI prices]) := fun m' g => hth.grow g
  have hlaw2 : ∀ m', Grow m1 m' → D__law_paper [encL rows, .tup [encD made0, encI prices]] m' = .ok (.bl true) m' := fun m' g => by
    obtain ⟨b, j1, j2⟩ := judges ok (hL m' g)
    have e := htrue m'
    rw [e] at j1
    cases j1
    exact j2
  have e3 : ∀ env : DL.Env, env[3]? = some (some (.tup (rows.map encR))) → eLstRg (dRg1 (eCall fLen (aCons (eVar 3) aNil))) env m1 = .ok (.ref m1.length) (m1 ++ [.lst ((List.range rows.length).map fun (x : Nat) => .int (x : Int))]) := fun env he => by
    refine lstRg_eq (n := rows.length) (by omega) ?_
    simp [he]
  generalize hm2 : m1 ++ [MO.lst ((List.range rows.length).map fun (x : Nat) => .int (x : Int))] = m2 at e3
  have g2 : Grow m1 m2 := by rw [← hm2]; exact Grow.app _ _
  have hd2 : m2[m1.length]? = some (.lst ((List.range rows.length).map fun (x : Nat) => .int (x : Int))) := by rw [← hm2]; exact at0
  have hkd : 3 ≤ m1.length := h3
  generalize m1.length = kd at hd2 hkd e3
  have b2 := b1.grow g2
  have t1 := hlaw2 m2 g2
  have t2 := htrue m2
  obtain ⟨m3, e4, hcs, g3⟩ := costs_eq o hd2 x0 (some (.ref 2)) x2 (some (.tup (rows.map encR))) (some (.tup [encD made0, encI prices])) x7 x8 x9 x10 none none none
  have b3 := b2.grow g3
  have hd3 := g3.get hd2
  have hmin : ∀ y, some y ∈ (subsR rows.length).map (costO rows) → fnC cs rows.length ≤ y := by
    intro y hy
    obtain ⟨s, hs, e⟩ := List.mem_map.mp hy
    obtain ⟨h1, h2⟩ := subsR_ok hs
    unfold costO at e
    split at e
    · rename_i hcv
      cases e
      exact cost_ge (dat_ok ok) c s.length s rows.length rfl (Nat.le_refl _) h1 h2 hcv
    · cases e
  have hsome : some (fnC cs rows.length) ∈ (subsR rows.length).map (costO rows) := List.mem_map.mpr ⟨made0, hin, hcost⟩
  have hl2 : ((subsR rows.length).map (costO rows)).length ≤ 100000 := by
    rw [List.length_map, subsR_len]
    exact Nat.le_trans (Nat.pow_le_pow_right (by omega) (show rows.length ≤ 12 by omega)) (by decide)
  have hcs' : m3[m2.length + 1]? = some (.lst (((subsR rows.length).map (costO rows)).map optD)) := by
    rw [hcs, List.map_map]; rfl
  have e5 := c5_eq hl2 hcs' hsome hmin x0 (some (.ref 2)) x2 (some (.tup (rows.map encR))) (some (encL rows)) (some (.tup [encD made0, encI prices])) (some (.ref kd)) x8 x9 x10 none none
  have e6 : t_law_1 [x0, some (.ref 2), x2, some (.tup (rows.map encR)), some (encL rows), some (.tup [encD made0, encI prices]), some (.ref kd), some (.ref (m2.length + 1)), x8, x9, x10, none, none, none] m3 = .ok false m3 := by
    refine gcT_grow (m' := m3) (tst_bl ?_) (Grow.refl _)
    simp [hlaw, e5]
  simp [b_law_2, sPar, e1, encL_fold, e2, e3, t1, t2, notBD, e4, e6]
  refine sFor_of (rng1_eq (A := eC (.int 5)) (m := m3) (m1 := m3) (n := 5) (by simp) (by omega))
    (fun i env m' => ∃ y8 y9 y10, env = [x0, some (.ref 2), x2, some (.tup (rows.map encR)), some (encL rows), some (.tup [encD made0, encI prices]), some (.ref kd), some (.ref (m2.length + 1)), y8, y9, y10, none, none, none] ∧ Bx m' ∧ m'[kd]? = some (.lst ((List.range rows.length).map fun (x : Nat) => .int (x : Int))))
    ⟨x8, x9, x10, rfl, b3, hd3⟩ (fun i env m' _ => guard_nil m') ?_ ?_
  · rintro i d env m' hd ⟨y8, y9, y10, rfl, hb', hd'⟩
    have hi : i < 5 := by have := (List.getElem?_eq_some_iff.mp hd).1; simpa using this
    rw [List.getElem?_map, List.getElem?_range hi] at hd
    cases hd
    simp only [gVar_eq, sat_ok]
    refine (step_ok o (by omega) hpl hb' hkd hd' i x0 x2 _ _ _ _).mono ?_
    rintro fl m'' ⟨z9, z10, rfl, b4, k4⟩
    exact ⟨_, _, _, rfl, b4, k4.get _ _ hkd hd'⟩
  · rintro env m' ⟨y8, y9, y10, rfl, hb', hd'⟩

    simp
    exact hb'
end My

end
section
set_option Elab.async false
set_option linter.all false
set_option maxRecDepth 100000
set_option maxHeartbeats 4000000
set_option autoImplicit false
namespace My
open PySem PySem.Spec L2 DL
theorem law_true (ns : List Int) : ∃ m, runD 14 1 S_law [.ref 0] [.rol (ns.map DV.int)] = .ok (.bl true) m := by
  obtain ⟨is, hd⟩ := digits_eq (ns := ns) (m := [.rol (ns.map DV.int)]) rfl 0 63 (by omega) (by omega)
  have key : ∃ m', (S_law (envOf 14 [.ref 0]) [.rol (ns.map DV.int)]) = .ok (.rt (.bl true)) m' := by
    have hd' : D__law_digits [.ref 0, .int 0, .int 63] [.rol (ns.map DV.int)] = .ok (.ref 1) [.rol (ns.map DV.int), .lst (is.map .int)] := hd
    have hs : (S_law (envOf 14 [.ref 0]) [.rol (ns.map DV.int)]).sat fun fl m' => fl = .rt (.bl true) := by
      simp [S_law, envOf, hd']
      refine sFor_of (rng1_eq (m1 := [.rol (ns.map DV.int), .lst (is.map .int), .lst [.ref 1, .int 0]]) (n := 2) (by simp) (by omega))
        (fun i env m' => ∃ y2 y3 y4 y5 y6 y7 y8 y9 y10, env = [some (.ref 0), some (.ref 2), y2, y3, y4, y5, y6, y7, y8, y9, y10, none, none, none] ∧ Bx m')
        ⟨none, none, none, none, none, none, none, none, none, rfl, ⟨is, 0, rfl, rfl⟩⟩ (fun i env m' _ => guard_nil m') ?_ ?_
      · rintro i d env m' hd ⟨y2, y3, y4, y5, y6, y7, y8, y9, y10, rfl, hb⟩
        simp only [gVar_eq, sat_ok]
        refine (turn_ok hb _ _ _ _ _ _ _ _ _ _).mono ?_
        rintro fl m' ⟨z3, z4, z5, z6, z7, z8, z9, z10, rfl, hb'⟩
        exact ⟨_, _, _, _, _, _, _, _, _, rfl, hb'⟩
      · rintro env m' ⟨y2, y3, y4, y5, y6, y7, y8, y9, y10, rfl, hb⟩
        trivial
    obtain ⟨fl, m', e, rfl⟩ := hs.ex
    exact ⟨m', e⟩
  obtain ⟨m', e⟩ := key
  unfold runD
  rw [if_pos (show [DV.ref 0].length = 1 from rfl), e]
  simp only [Out.bind_ok, gcO]
  split
  · rw [if_pos (by trivial)]; exact ⟨_, rfl⟩
  · exact ⟨_, rfl⟩
theorem holds : PySem.Challenge.rw_shoplands_k22_whole_lots.Holds := from_law fun ns _ => law_true ns
end My

end
theorem PySem.Challenge.cw_shoplands_k22_whole_lots_holds : PySem.Challenge.rw_shoplands_k22_whole_lots.Holds :=
  My.holds
