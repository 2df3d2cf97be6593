import PyProof.Rows.All
import Wide.All
import OpenK.AllK
import Wide.FinOn
import HandS.ForMost
import HandS.ForExc
import HandS.TryMany
import HandS.ExcInit
import HandS.IsInst
import HandS.Flow
import HandS.OwnEq
import HandS.Wide
import HandS.Conv
import HandS.Defaults
import HandS.MakeKw
import HandS.TupLe
import HandS.Style
import HandS.EndBits
import HandS.ExcField
import HandS.ExcIs
import HandS.SlotsOwn
import HandS.StrMore
import HandS.FStr
import HandS.More
import KE.KExcIs
import HandS.TupAny
import HandS.TupMul
import HandS.Lambda
import PySem.Challenge.RW_fallsunder_k52_prices
set_option Elab.async false
set_option linter.all false
set_option maxRecDepth 100000
set_option maxHeartbeats 4000000
/-! T3: values as trees over the hand layer. -/
namespace T3
open PySem PySem.Spec PyProof.Rows L2

inductive D where
  | non
  | bl (b : Bool)
  | int (i : Int)
  | str (x : Str)
  | ty (n : String)
  | ref (a : Addr)
  | tup (xs : List D)
  | lst (xs : List D)
  | kls (xs : List D)
  | obj (C : Addr) (fs : List (Str × D))

inductive O3 where
  | lst (xs : List D)
  | dic (kvs : List (Key × D))
  | ins (C : Addr) (fs : List (Str × D))

abbrev H3 := Addr → Option O3
def up (G : H3) (a : Addr) (o : O3) : H3 := fun b => if b = a then some o else G b
theorem up_same {G : H3} {a : Addr} {o : O3} : up G a o a = some o := if_pos rfl
theorem up_ne {G : H3} {a b : Addr} {o : O3} (h : b ≠ a) : up G a o b = G b := if_neg h
theorem up_up {G : H3} {a : Addr} {o u : O3} : up (up G a o) a u = up G a u := by
  funext b
  unfold up
  split <;> rfl

mutual
inductive R3 (K : PySem.W.Frag) (F : Hp) : D → V → Prop
  | non : R3 K F .non .non
  | bl (b : Bool) : R3 K F (.bl b) (.bl b)
  | int (i : Int) : R3 K F (.int i) (.int i)
  | str (x : Str) : R3 K F (.str x) (.str x)
  | ty (n : String) : R3 K F (.ty n) (.ty n)
  | ref (a : Addr) : R3 K F (.ref a) (.ref a)
  | tup {a : Addr} {xs : List D} {vs : List V} : SqT K F a vs → R3s K F xs vs → R3 K F (.tup xs) (.ref a)
  | lst {a : Addr} {xs : List D} {vs : List V} : F a = some (.lst vs) → R3s K F xs vs → R3 K F (.lst xs) (.ref a)
  | kls {a : Addr} {xs : List D} {vs : List V} : SqL K F a vs → R3s K F xs vs → R3 K F (.kls xs) (.ref a)
  | obj {a C dx : Addr} {fs : List (Str × D)} {vs : List (Str × V)} : F a = some (.ins C dx vs) → RF K F fs vs → R3 K F (.obj C fs) (.ref a)
inductive R3s (K : PySem.W.Frag) (F : Hp) : List D → List V → Prop
  | nil : R3s K F [] []
  | cons {d : D} {v : V} {ds : List D} {vs : List V} : R3 K F d v → R3s K F ds vs → R3s K F (d :: ds) (v :: vs)
inductive RF (K : PySem.W.Frag) (F : Hp) : List (Str × D) → List (Str × V) → Prop
  | nil : RF K F [] []
  | cons {n : Str} {d : D} {v : V} {ds : List (Str × D)} {vs : List (Str × V)} : R3 K F d v → RF K F ds vs → RF K F ((n, d) :: ds) ((n, v) :: vs)
end
inductive RK (K : PySem.W.Frag) (F : Hp) : List (Key × D) → List (Key × V) → Prop
  | nil : RK K F [] []
  | cons {n : Key} {d : D} {v : V} {ds : List (Key × D)} {vs : List (Key × V)} : R3 K F d v → RK K F ds vs → RK K F ((n, d) :: ds) ((n, v) :: vs)

section
variable {K : PySem.W.Frag} {F F' : Hp}
theorem same_t {a : Addr} {xs : List V} (e : Same F F') (h : SqT K F a xs) : SqT K F' a xs := by
  rcases h with (h | ⟨o, h⟩) | h
  · exact .inl (.inl (e _ _ h))
  · exact .inl (.inr ⟨o, e _ _ h⟩)
  · exact .inr h
mutual
theorem R3.mono (e : Same F F') : ∀ {d : D} {v : V}, R3 K F d v → R3 K F' d v
  | _, _, .non => .non
  | _, _, .bl b => .bl b
  | _, _, .int i => .int i
  | _, _, .str x => .str x
  | _, _, .ty n => .ty n
  | _, _, .ref a => .ref a
  | _, _, .tup h hs => .tup (same_t e h) (R3s.mono e hs)
  | _, _, .lst h hs => .lst (e _ _ h) (R3s.mono e hs)
  | _, _, .kls h hs => .kls (e.seq h) (R3s.mono e hs)
  | _, _, .obj h hs => .obj (e _ _ h) (RF.mono e hs)
theorem R3s.mono (e : Same F F') : ∀ {ds : List D} {vs : List V}, R3s K F ds vs → R3s K F' ds vs
  | _, _, .nil => .nil
  | _, _, .cons h t => .cons (R3.mono e h) (R3s.mono e t)
theorem RF.mono (e : Same F F') : ∀ {ds : List (Str × D)} {vs : List (Str × V)}, RF K F ds vs → RF K F' ds vs
  | _, _, .nil => .nil
  | _, _, .cons h t => .cons (R3.mono e h) (RF.mono e t)
end
theorem RK.mono (e : Same F F') : ∀ {ds : List (Key × D)} {vs : List (Key × V)}, RK K F ds vs → RK K F' ds vs
  | _, _, .nil => .nil
  | _, _, .cons h t => .cons (h.mono e) (RK.mono e t)
theorem R3s.length : ∀ {ds : List D} {vs : List V}, R3s K F ds vs → ds.length = vs.length
  | _, _, .nil => rfl
  | _, _, .cons _ t => congrArg Nat.succ (R3s.length t)
theorem R3s.get : ∀ {ds : List D} {vs : List V} {i : Nat} {d : D}, R3s K F ds vs → ds[i]? = some d → ∃ v, vs[i]? = some v ∧ R3 K F d v
  | _, _, _, _, .nil, e => by simp at e
  | _, _, 0, _, .cons r _, e => by
    simp at e
    subst e
    exact ⟨_, rfl, r⟩
  | _, _, i + 1, d, .cons _ t, e => by
    obtain ⟨v, h1, h2⟩ := R3s.get (i := i) (d := d) t (by simpa using e)
    exact ⟨v, by simpa using h1, h2⟩
theorem R3s.get' : ∀ {ds : List D} {vs : List V} {i : Nat} {v : V}, R3s K F ds vs → vs[i]? = some v → ∃ d, ds[i]? = some d ∧ R3 K F d v
  | _, _, _, _, .nil, e => by simp at e
  | _, _, 0, _, .cons r _, e => by
    simp at e
    subst e
    exact ⟨_, rfl, r⟩
  | _, _, i + 1, v, .cons _ t, e => by
    obtain ⟨d, h1, h2⟩ := R3s.get' (i := i) (v := v) t (by simpa using e)
    exact ⟨d, by simpa using h1, h2⟩
theorem R3s.append : ∀ {xs ys : List D} {vs ws : List V}, R3s K F xs vs → R3s K F ys ws → R3s K F (xs ++ ys) (vs ++ ws)
  | _, _, _, _, .nil, s => s
  | _, _, _, _, .cons r t, s => .cons r (R3s.append t s)
theorem R3s.set {d : D} {v : V} (r : R3 K F d v) : ∀ {xs : List D} {vs : List V} (i : Nat), R3s K F xs vs → R3s K F (xs.set i d) (vs.set i v)
  | _, _, _, .nil => .nil
  | _, _, 0, .cons _ t => .cons r t
  | _, _, i + 1, .cons q t => .cons q (R3s.set r i t)
theorem R3s.take : ∀ {xs : List D} {vs : List V} (n : Nat), R3s K F xs vs → R3s K F (xs.take n) (vs.take n)
  | _, _, 0, _ => .nil
  | _, _, _ + 1, .nil => .nil
  | _, _, n + 1, .cons r t => .cons r (R3s.take n t)
theorem R3s.drop : ∀ {xs : List D} {vs : List V} (n : Nat), R3s K F xs vs → R3s K F (xs.drop n) (vs.drop n)
  | _, _, 0, h => h
  | _, _, _ + 1, .nil => .nil
  | _, _, n + 1, .cons _ t => R3s.drop n t
theorem R3s.ints : ∀ {ns : List Int}, R3s K F (ns.map D.int) (ns.map V.int)
  | [] => .nil
  | n :: ns => .cons (.int n) R3s.ints
theorem R3s.of_ints : ∀ {ns : List Int} {vs : List V}, R3s K F (ns.map D.int) vs → vs = ns.map V.int
  | [], _, .nil => rfl
  | n :: ns, _, .cons h t => by
    cases h
    rw [R3s.of_ints (ns := ns) t]
    rfl
theorem R3s.strs : ∀ {ns : List Str}, R3s K F (ns.map D.str) (ns.map V.str)
  | [] => .nil
  | n :: ns => .cons (.str n) R3s.strs
theorem R3s.of_strs : ∀ {ns : List Str} {vs : List V}, R3s K F (ns.map D.str) vs → vs = ns.map V.str
  | [], _, .nil => rfl
  | n :: ns, _, .cons h t => by
    cases h
    rw [R3s.of_strs (ns := ns) t]
    rfl
theorem RF.lookup {f : Str} : ∀ {fs : List (Str × D)} {vs : List (Str × V)} {d : D}, RF K F fs vs → fs.lookup f = some d → ∃ v, vs.lookup f = some v ∧ R3 K F d v
  | _, _, _, .nil, e => by simp at e
  | _, _, d, @RF.cons _ _ n d1 v1 ds1 vs1 r t, e => by
    by_cases h : f = n
    · subst h
      simp [List.lookup] at e
      subst e
      exact ⟨v1, by simp [List.lookup], r⟩
    · have hb : (f == n) = false := by simpa using h
      simp only [List.lookup, hb] at e
      obtain ⟨v, h1, h2⟩ := RF.lookup t e
      exact ⟨v, by simp only [List.lookup, hb]; exact h1, h2⟩
theorem RF.lookup_none {f : Str} : ∀ {fs : List (Str × D)} {vs : List (Str × V)}, RF K F fs vs → fs.lookup f = none → vs.lookup f = none
  | _, _, .nil, e => rfl
  | _, _, @RF.cons _ _ n d1 v1 ds1 vs1 r t, e => by
    by_cases h : f = n
    · subst h
      simp [List.lookup] at e
    · have hb : (f == n) = false := by simpa using h
      simp only [List.lookup, hb] at e ⊢
      exact RF.lookup_none t e
theorem RF.length : ∀ {ds : List (Str × D)} {vs : List (Str × V)}, RF K F ds vs → ds.length = vs.length
  | _, _, .nil => rfl
  | _, _, .cons _ t => congrArg Nat.succ (RF.length t)
/-- a field is stored -/
def put3 (f : Str) (d : D) : List (Str × D) → List (Str × D)
  | [] => [(f, d)]
  | (n, x) :: r => if n = f then (n, d) :: r else (n, x) :: put3 f d r
theorem put3_length (f : Str) (d : D) : ∀ fs : List (Str × D), (put3 f d fs).length ≤ fs.length + 1
  | [] => Nat.le_refl _
  | (n, x) :: r => by
    unfold put3
    by_cases h : n = f
    · rw [if_pos h]
      exact Nat.le_succ _
    · rw [if_neg h]
      exact Nat.succ_le_succ (put3_length f d r)
end
end T3

namespace T3
open PySem PySem.Spec PyProof.Rows L2

section
variable {K : PySem.W.Frag} {F F' : Hp}
theorem RF.put {f : Str} {d : D} {v : V} (q : R3 K F d v) : ∀ {fs : List (Str × D)} {vs : List (Str × V)}, RF K F fs vs → RF K F (put3 f d fs) (putF f v vs)
  | _, _, .nil => .cons q .nil
  | _, _, @RF.cons _ _ n d1 v1 ds1 vs1 r t => by
    unfold put3 putF
    by_cases h : n = f
    · rw [if_pos h, if_pos h]
      exact .cons q t
    · rw [if_neg h, if_neg h]
      exact .cons r (RF.put q t)
def get3 (kvs : List (Key × D)) (k : Key) : Option D := (kvs.find? fun kv => decide (kv.1 = k)).map (·.2)
def pk3 (k : Key) (d : D) : List (Key × D) → List (Key × D)
  | [] => [(k, d)]
  | (n, x) :: r => if n = k then (n, d) :: r else (n, x) :: pk3 k d r
theorem RK.get {k : Key} : ∀ {ds : List (Key × D)} {vs : List (Key × V)}, RK K F ds vs →
    (∃ d v, get3 ds k = some d ∧ valV vs k = some v ∧ R3 K F d v) ∨ (get3 ds k = none ∧ valV vs k = none)
  | _, _, .nil => .inr ⟨rfl, rfl⟩
  | _, _, @RK.cons _ _ n d1 v1 ds1 vs1 r t => by
    by_cases h : n = k
    · exact .inl ⟨d1, v1, by simp [get3, List.find?_cons, h], by simp [valV, List.find?_cons, h], r⟩
    · have e1 : get3 ((n, d1) :: ds1) k = get3 ds1 k := by simp [get3, List.find?_cons, h]
      have e2 : valV ((n, v1) :: vs1) k = valV vs1 k := by simp [valV, List.find?_cons, h]
      rw [e1, e2]
      exact RK.get t
theorem RK.length : ∀ {ds : List (Key × D)} {vs : List (Key × V)}, RK K F ds vs → ds.length = vs.length
  | _, _, .nil => rfl
  | _, _, .cons _ t => congrArg Nat.succ (RK.length t)
theorem RK.keys : ∀ {ds : List (Key × D)} {vs : List (Key × V)}, RK K F ds vs → vs.map (·.1) = ds.map (·.1)
  | _, _, .nil => rfl
  | _, _, .cons _ t => by
    rw [List.map_cons, List.map_cons, RK.keys t]
theorem RK.append : ∀ {xs ys : List (Key × D)} {vs ws : List (Key × V)}, RK K F xs vs → RK K F ys ws → RK K F (xs ++ ys) (vs ++ ws)
  | _, _, _, _, .nil, s => s
  | _, _, _, _, .cons r t, s => .cons r (RK.append t s)
/-- the way of putK -/
def putK3 (kvs : List (Key × D)) (k : Key) (d : D) : List (Key × D) :=
  if (kvs.any fun kv => decide (kv.1 = k)) = true then kvs.map (fun kv => if kv.1 = k then (kv.1, d) else kv) else kvs ++ [(k, d)]
theorem RK.mapset {k : Key} {d : D} {v : V} (q : R3 K F d v) : ∀ {ds : List (Key × D)} {vs : List (Key × V)}, RK K F ds vs →
    RK K F (ds.map fun kv => if kv.1 = k then (kv.1, d) else kv) (vs.map fun kv => if kv.1 = k then (kv.1, v) else kv)
  | _, _, .nil => .nil
  | _, _, @RK.cons _ _ n d1 v1 ds1 vs1 r t => by
    rw [List.map_cons, List.map_cons]
    by_cases h : n = k
    · rw [if_pos h, if_pos h]
      exact .cons q (RK.mapset q t)
    · rw [if_neg h, if_neg h]
      exact .cons r (RK.mapset q t)
theorem RK.any {k : Key} : ∀ {ds : List (Key × D)} {vs : List (Key × V)}, RK K F ds vs → (vs.any fun kv => decide (kv.1 = k)) = (ds.any fun kv => decide (kv.1 = k))
  | _, _, .nil => rfl
  | _, _, .cons _ t => by rw [List.any_cons, List.any_cons, RK.any t]
theorem RK.put {k : Key} {d : D} {v : V} (q : R3 K F d v) {ds : List (Key × D)} {vs : List (Key × V)} (r : RK K F ds vs) : RK K F (putK3 ds k d) (putK vs k v) := by
  unfold putK3 putK
  rw [r.any]
  split
  · exact r.mapset q
  · exact r.append (.cons q .nil)

/-! ### the two heaps, the two stores -/
def RO (K : PySem.W.Frag) (F : Hp) (h : Option HO) : O3 → Prop
  | .lst xs => ∃ vs, h = some (.lst vs) ∧ R3s K F xs vs
  | .dic kvs => ∃ vs, h = some (.dK vs) ∧ RK K F kvs vs
  | .ins C fs => ∃ dx vs, h = some (.ins C dx vs) ∧ RF K F fs vs
theorem RO.mono {h : Option HO} (e : Same F F') : ∀ {o : O3}, RO K F h o → RO K F' h o
  | .lst _, ⟨vs, h1, r⟩ => ⟨vs, h1, r.mono e⟩
  | .dic _, ⟨vs, h1, r⟩ => ⟨vs, h1, r.mono e⟩
  | .ins _ _, ⟨dx, vs, h1, r⟩ => ⟨dx, vs, h1, r.mono e⟩
structure RH (K : PySem.W.Frag) (F P : Hp) (G : H3) (H : Hp) : Prop where
  fz : Same F H
  ap : ∀ a o, G a = some o → F a = none
  hp : ∀ a o, G a = some o → RO K F (H a) o
  pn : Same P H
  pf : ∀ a o, P a = some o → F a = none ∧ G a = none
/-- where a body stands: what was known at its entry, what nobody may touch -/
structure Bs where
  F : Hp
  P : Hp
abbrev S3 := List (Option D)
structure RS (K : PySem.W.Frag) (F : Hp) (σ : S3) (τ : L2.St) : Prop where
  len : σ.length = τ.length
  at_ : ∀ (i : Nat) (d : D), σ[i]? = some (some d) → ∃ v, τ[i]? = some (some v) ∧ R3 K F d v
theorem RS.mono {σ : S3} {τ : L2.St} (r : RS K F σ τ) (e : Same F F') : RS K F' σ τ := ⟨r.len, fun i d h => let ⟨v, h1, h2⟩ := r.at_ i d h; ⟨v, h1, h2.mono e⟩⟩
theorem RS.set {σ : S3} {τ : L2.St} (r : RS K F σ τ) (i : Nat) {d : D} {v : V} (q : R3 K F d v) : RS K F (σ.set i (some d)) (τ.set i (some v)) := by
  refine ⟨by rw [List.length_set, List.length_set]; exact r.len, fun j e h => ?_⟩
  by_cases hj : i = j
  · subst hj
    have hl : i < σ.length := by
      have := (List.getElem?_eq_some_iff.mp h).1
      simpa using this
    rw [List.getElem?_set_self hl] at h
    cases h
    exact ⟨v, by rw [List.getElem?_set_self (by rw [← r.len]; exact hl)], q⟩
  · rw [List.getElem?_set_ne hj] at h
    obtain ⟨w, h1, h2⟩ := r.at_ j e h
    exact ⟨w, by rw [List.getElem?_set_ne hj]; exact h1, h2⟩
theorem RS.gone {σ : S3} {τ : L2.St} (r : RS K F σ τ) (i : Nat) : RS K F (σ.set i none) (τ.set i none) := by
  refine ⟨by rw [List.length_set, List.length_set]; exact r.len, fun j e h => ?_⟩
  by_cases hj : i = j
  · subst hj
    have hl : i < σ.length := by
      have := (List.getElem?_eq_some_iff.mp h).1
      simpa using this
    rw [List.getElem?_set_self hl] at h
    cases h
  · rw [List.getElem?_set_ne hj] at h
    obtain ⟨w, h1, h2⟩ := r.at_ j e h
    exact ⟨w, by rw [List.getElem?_set_ne hj]; exact h1, h2⟩
/-- a store is forgotten where it is not named -/
theorem RS.forget {σ : S3} {τ : L2.St} (r : RS K F σ τ) (i : Nat) : RS K F (σ.set i none) τ := by
  refine ⟨by rw [List.length_set]; exact r.len, fun j e h => ?_⟩
  by_cases hj : i = j
  · subst hj
    have hl : i < σ.length := by
      have := (List.getElem?_eq_some_iff.mp h).1
      simpa using this
    rw [List.getElem?_set_self hl] at h
    cases h
  · rw [List.getElem?_set_ne hj] at h
    exact r.at_ j e h
section
variable {P : Hp}
theorem RH.free {G : H3} {H : Hp} {p : Addr} (r : RH K F P G H) (hp : H p = none) : G p = none := by
  cases e : G p with
  | none => rfl
  | some o =>
    have q := r.hp _ _ e
    rw [hp] at q
    cases o with
    | lst xs =>
      obtain ⟨_, z, _⟩ := q
      cases z
    | dic kvs =>
      obtain ⟨_, z, _⟩ := q
      cases z
    | ins C fs =>
      obtain ⟨_, _, z, _⟩ := q
      cases z
theorem RH.freeF {G : H3} {H : Hp} {p : Addr} (r : RH K F P G H) (hp : H p = none) : F p = none := by
  cases e : F p with
  | none => rfl
  | some x =>
    rw [r.fz _ _ e] at hp
    cases hp
theorem RH.freeP {G : H3} {H : Hp} {p : Addr} (r : RH K F P G H) (hp : H p = none) : P p = none := by
  cases e : P p with
  | none => rfl
  | some x =>
    rw [r.pn _ _ e] at hp
    cases hp
theorem RH.offP {G : H3} {H : Hp} {p : Addr} {o : O3} (r : RH K F P G H) (hp : G p = some o) : P p = none := by
  cases e : P p with
  | none => rfl
  | some x =>
    rw [(r.pf _ _ e).2] at hp
    cases hp
/-- a thing of the heap is stored into, or is new -/
theorem RH.lay {G : H3} {H : Hp} {p : Addr} {o : O3} {u : HO} (r : RH K F P G H) (fp : F p = none) (pp : P p = none) (q : RO K F (some u) o) : RH K F P (up G p o) (upd H p u) := by
  refine ⟨fun a x e => ?_, fun a x e => ?_, fun a x e => ?_, fun a x e => ?_, fun a x e => ⟨(r.pf a x e).1, ?_⟩⟩
  · rw [upd_ne (fun z => by rw [z, fp] at e; cases e)]
    exact r.fz a x e
  · by_cases z : a = p
    · rw [z]
      exact fp
    · rw [up_ne z] at e
      exact r.ap a x e
  · by_cases z : a = p
    · subst z
      rw [up_same] at e
      cases e
      rw [upd_same]
      exact q
    · rw [up_ne z] at e
      rw [upd_ne z]
      exact r.hp a x e
  · rw [upd_ne (fun z => by rw [z, pp] at e; cases e)]
    exact r.pn a x e
  · rw [up_ne (fun z => by rw [z, pp] at e; cases e)]
    exact (r.pf a x e).2
theorem RH.new {G : H3} {H : Hp} {p : Addr} {o : O3} {u : HO} (r : RH K F P G H) (hp : H p = none) (q : RO K F (some u) o) : RH K F P (up G p o) (upd H p u) := r.lay (r.freeF hp) (r.freeP hp) q
theorem RH.put {G : H3} {H : Hp} {p : Addr} {o o' : O3} {u : HO} (r : RH K F P G H) (hp : G p = some o') (q : RO K F (some u) o) : RH K F P (up G p o) (upd H p u) := r.lay (r.ap _ _ hp) (r.offP hp) q
/-- a new thing that is known as a value from now on -/
theorem RH.frz {G : H3} {H : Hp} {p : Addr} {u : HO} (r : RH K F P G H) (hp : H p = none) : Same F (upd F p u) ∧ RH K (upd F p u) P G (upd H p u) := by
  have fp := r.freeF hp
  have pp := r.freeP hp
  have e1 : Same F (upd F p u) := fun a x e => by
    rw [upd_ne (fun z => by rw [z, fp] at e; cases e)]
    exact e
  have gp := r.free hp
  refine ⟨e1, fun a x e => ?_, fun a x e => ?_, fun a x e => ?_, fun a x e => ?_, fun a x e => ⟨?_, (r.pf a x e).2⟩⟩
  · by_cases z : a = p
    · subst z
      rw [upd_same] at e
      rw [upd_same]
      exact e
    · rw [upd_ne z] at e
      rw [upd_ne z]
      exact r.fz a x e
  · rw [upd_ne (fun z => by rw [z, gp] at e; cases e)]
    exact r.ap a x e
  · rw [upd_ne (fun z => by rw [z, gp] at e; cases e)]
    exact (r.hp a x e).mono e1
  · rw [upd_ne (fun z => by rw [z, pp] at e; cases e)]
    exact r.pn a x e
  · rw [upd_ne (fun z => by rw [z, pp] at e; cases e)]
    exact (r.pf a x e).1
/-- nothing is asked of an address any more -/
def dn (G : H3) (p : Addr) : H3 := fun b => if b = p then none else G b
theorem RH.less {G G' : H3} {H : Hp} (r : RH K F P G H) (h : ∀ a o, G' a = some o → G a = some o) : RH K F P G' H := ⟨r.fz, fun a o e => r.ap a o (h a o e), fun a o e => r.hp a o (h a o e), r.pn, fun a x e => ⟨(r.pf a x e).1, by
  cases q : G' a with
  | none => rfl
  | some o =>
    have z := h a o q
    rw [(r.pf a x e).2] at z
    cases z⟩⟩
theorem dn_some {G : H3} {p a : Addr} {o : O3} (e : dn G p a = some o) : a ≠ p ∧ G a = some o := by
  unfold dn at e
  by_cases z : a = p
  · rw [if_pos z] at e
    cases e
  · rw [if_neg z] at e
    exact ⟨z, e⟩
/-- a mutable thing is a value from now on -/
theorem RH.freeze {G : H3} {H : Hp} {p : Addr} {o : O3} {u : HO} (r : RH K F P G H) (hp : G p = some o) (hu : H p = some u) : Same F (upd F p u) ∧ RH K (upd F p u) P (dn G p) H := by
  have fp := r.ap _ _ hp
  have pp := r.offP hp
  have e1 : Same F (upd F p u) := fun a x e => by
    rw [upd_ne (fun z => by rw [z, fp] at e; cases e)]
    exact e
  refine ⟨e1, fun a x e => ?_, fun a x e => ?_, fun a x e => ?_, r.pn, fun a x e => ⟨?_, ?_⟩⟩
  · by_cases z : a = p
    · subst z
      rw [upd_same] at e
      rw [hu]
      exact e
    · rw [upd_ne z] at e
      exact r.fz a x e
  · obtain ⟨z, e⟩ := dn_some e
    rw [upd_ne z]
    exact r.ap a x e
  · obtain ⟨z, e⟩ := dn_some e
    exact (r.hp a x e).mono e1
  · rw [upd_ne (fun z => by rw [z, pp] at e; cases e)]
    exact (r.pf a x e).1
  · unfold dn
    split
    · rfl
    · exact (r.pf a x e).2
/-- what nobody may touch is laid, and taken back -/
theorem RH.pin {G : H3} {H : Hp} {p : Addr} {u : HO} (r : RH K F P G H) (hp : H p = none) : RH K F (upd P p u) G (upd H p u) := by
  have fp := r.freeF hp
  have gp := r.free hp
  have pp := r.freeP hp
  refine ⟨fun a x e => ?_, r.ap, fun a x e => ?_, fun a x e => ?_, fun a x e => ?_⟩
  · rw [upd_ne (fun z => by rw [z, fp] at e; cases e)]
    exact r.fz a x e
  · rw [upd_ne (fun z => by rw [z, gp] at e; cases e)]
    exact r.hp a x e
  · by_cases z : a = p
    · subst z
      rw [upd_same] at e
      rw [upd_same]
      exact e
    · rw [upd_ne z] at e
      rw [upd_ne z]
      exact r.pn a x e
  · by_cases z : a = p
    · rw [z]
      exact ⟨fp, gp⟩
    · rw [upd_ne z] at e
      exact r.pf a x e
theorem RH.repin {G : H3} {H : Hp} {p : Addr} {u u' : HO} (r : RH K F (upd P p u) G H) : RH K F (upd P p u') G (upd H p u') := by
  have off := r.pf p u upd_same
  refine ⟨fun a x e => ?_, r.ap, fun a x e => ?_, fun a x e => ?_, fun a x e => ?_⟩
  · rw [upd_ne (fun z => by rw [z, off.1] at e; cases e)]
    exact r.fz a x e
  · rw [upd_ne (fun z => by rw [z, off.2] at e; cases e)]
    exact r.hp a x e
  · by_cases z : a = p
    · subst z
      rw [upd_same] at e
      rw [upd_same]
      exact e
    · rw [upd_ne z] at e
      rw [upd_ne z]
      exact r.pn a x (by rw [upd_ne z]; exact e)
  · by_cases z : a = p
    · rw [z]
      exact off
    · rw [upd_ne z] at e
      exact r.pf a x (by rw [upd_ne z]; exact e)
theorem RH.unpin {G : H3} {H : Hp} {p : Addr} {u : HO} {o : O3} (r : RH K F (upd P p u) G H) (pp : P p = none) (q : RO K F (some u) o) : RH K F P (up G p o) H := by
  have off := r.pf p u upd_same
  have hp := r.pn p u upd_same
  refine ⟨r.fz, fun a x e => ?_, fun a x e => ?_, fun a x e => r.pn a x (by rw [upd_ne (fun z => by rw [z, pp] at e; cases e)]; exact e), fun a x e => ?_⟩
  · by_cases z : a = p
    · rw [z]
      exact off.1
    · rw [up_ne z] at e
      exact r.ap a x e
  · by_cases z : a = p
    · subst z
      rw [up_same] at e
      cases e
      rw [hp]
      exact q
    · rw [up_ne z] at e
      exact r.hp a x e
  · have z : a ≠ p := fun z => by rw [z, pp] at e; cases e
    rw [up_ne z]
    exact r.pf a x (by rw [upd_ne z]; exact e)
end
end

/-! ### readings over trees -/
abbrev K3 := D → H3 → Prop
abbrev E3 := S3 → H3 → K3 → Prop
abbrev B3 := S3 → H3 → (Bool → H3 → Prop) → Prop
abbrev A3 := S3 → H3 → (List D → H3 → Prop) → Prop
/-- an exception: its class, its fields, the heap behind it -/
abbrev X3 := Value → List (Str × D) → H3 → Prop
structure N3 where
  nx : S3 → H3 → Prop
  rt : K3
  bk : S3 → H3 → Prop := fun _ _ => False
  ct : S3 → H3 → Prop := fun _ _ => False
abbrev T3S := N3 → S3 → H3 → Prop

def post (K : PySem.W.Frag) (F P : Hp) (Q : K3) (v : V) (H : Hp) : Prop := ∃ F' d G, Same F F' ∧ RH K F' P G H ∧ R3 K F' d v ∧ Q d G
def low (K : PySem.W.Frag) (B : Bs) (t : E3) : TE := fun τ H Q => ∃ F σ G Q3, Same B.F F ∧ RS K F σ τ ∧ RH K F B.P G H ∧ t σ G Q3 ∧ ∀ v H', post K F B.P Q3 v H' → Q v H'
def postB (K : PySem.W.Frag) (F P : Hp) (Q : Bool → H3 → Prop) (b : Bool) (H : Hp) : Prop := ∃ F' G, Same F F' ∧ RH K F' P G H ∧ Q b G
def lowB (K : PySem.W.Frag) (B : Bs) (t : B3) : TT := fun τ H Q => ∃ F σ G Q3, Same B.F F ∧ RS K F σ τ ∧ RH K F B.P G H ∧ t σ G Q3 ∧ ∀ b H', postB K F B.P Q3 b H' → Q b H'
def postA (K : PySem.W.Frag) (F P : Hp) (Q : List D → H3 → Prop) (vs : List V) (H : Hp) : Prop := ∃ F' ds G, Same F F' ∧ RH K F' P G H ∧ R3s K F' ds vs ∧ Q ds G
def lowA (K : PySem.W.Frag) (B : Bs) (t : A3) : TA := fun τ H Q => ∃ F σ G Q3, Same B.F F ∧ RS K F σ τ ∧ RH K F B.P G H ∧ t σ G Q3 ∧ ∀ vs H', postA K F B.P Q3 vs H' → Q vs H'
def postN (K : PySem.W.Frag) (F P : Hp) (N : S3 → H3 → Prop) (τ : L2.St) (H : Hp) : Prop := ∃ F' σ G, Same F F' ∧ RS K F' σ τ ∧ RH K F' P G H ∧ N σ G
structure NR (K : PySem.W.Frag) (F P : Hp) (N : N3) (Ed : Ends) : Prop where
  nx : ∀ τ H, postN K F P N.nx τ H → Ed.nx τ H
  rt : ∀ v H, post K F P N.rt v H → Ed.rt v H
  bk : ∀ τ H, postN K F P N.bk τ H → Ed.bk τ H
  ct : ∀ τ H, postN K F P N.ct τ H → Ed.ct τ H
def lowS (K : PySem.W.Frag) (B : Bs) (t : T3S) : TS := fun Ed τ H => ∃ F σ G N, Same B.F F ∧ RS K F σ τ ∧ RH K F B.P G H ∧ t N σ G ∧ NR K F B.P N Ed

section
variable {K : PySem.W.Frag} {F F' P : Hp} {B : Bs}
theorem post.le {Q : K3} {v : V} {H : Hp} (e : Same F F') (h : post K F' P Q v H) : post K F P Q v H := by
  obtain ⟨F1, d, G, f, hh, r, q⟩ := h
  exact ⟨F1, d, G, e.trans f, hh, r, q⟩
theorem postB.le {Q : Bool → H3 → Prop} {b : Bool} {H : Hp} (e : Same F F') (h : postB K F' P Q b H) : postB K F P Q b H := by
  obtain ⟨F1, G, f, hh, q⟩ := h
  exact ⟨F1, G, e.trans f, hh, q⟩
theorem postA.le {Q : List D → H3 → Prop} {v : List V} {H : Hp} (e : Same F F') (h : postA K F' P Q v H) : postA K F P Q v H := by
  obtain ⟨F1, d, G, f, hh, r, q⟩ := h
  exact ⟨F1, d, G, e.trans f, hh, r, q⟩
theorem postN.le {N : S3 → H3 → Prop} {τ : L2.St} {H : Hp} (e : Same F F') (h : postN K F' P N τ H) : postN K F P N τ H := by
  obtain ⟨F1, d, G, f, hh, r, q⟩ := h
  exact ⟨F1, d, G, e.trans f, hh, r, q⟩
theorem NR.le {N : N3} {Ed : Ends} (e : Same F F') (h : NR K F P N Ed) : NR K F' P N Ed :=
  ⟨fun τ H z => h.nx τ H (z.le e), fun v H z => h.rt v H (z.le e), fun τ H z => h.bk τ H (z.le e), fun τ H z => h.ct τ H (z.le e)⟩
theorem low_run {t : E3} {τ : L2.St} {H : Hp} {Q : VK} {σ : S3} {G : H3} {Q3 : K3} (hf : Same B.F F) (hs : RS K F σ τ) (hh : RH K F B.P G H) (h : t σ G Q3)
    (k : ∀ F1 v d G1 H1, Same F F1 → RH K F1 B.P G1 H1 → R3 K F1 d v → Q3 d G1 → Q v H1) : low K B t τ H Q :=
  ⟨F, σ, G, Q3, hf, hs, hh, h, fun v H' ⟨F1, d, G1, f, hh', r, q⟩ => k F1 v d G1 H' f hh' r q⟩
theorem lowB_run {t : B3} {τ : L2.St} {H : Hp} {Q : Bool → Hp → Prop} {σ : S3} {G : H3} {Q3 : Bool → H3 → Prop} (hf : Same B.F F) (hs : RS K F σ τ) (hh : RH K F B.P G H) (h : t σ G Q3)
    (k : ∀ F1 b G1 H1, Same F F1 → RH K F1 B.P G1 H1 → Q3 b G1 → Q b H1) : lowB K B t τ H Q :=
  ⟨F, σ, G, Q3, hf, hs, hh, h, fun b H' ⟨F1, G1, f, hh', q⟩ => k F1 b G1 H' f hh' q⟩
theorem lowA_run {t : A3} {τ : L2.St} {H : Hp} {Q : List V → Hp → Prop} {σ : S3} {G : H3} {Q3 : List D → H3 → Prop} (hf : Same B.F F) (hs : RS K F σ τ) (hh : RH K F B.P G H) (h : t σ G Q3)
    (k : ∀ F1 v d G1 H1, Same F F1 → RH K F1 B.P G1 H1 → R3s K F1 d v → Q3 d G1 → Q v H1) : lowA K B t τ H Q :=
  ⟨F, σ, G, Q3, hf, hs, hh, h, fun v H' ⟨F1, d, G1, f, hh', r, q⟩ => k F1 v d G1 H' f hh' r q⟩
end

end T3
namespace L2
open PySem PySem.Spec PyProof.Rows
section
variable {X : Cx} {B : Bs}
theorem PE.weak {e : Expr} {t t' : TE} (h : PE X e t) (w : ∀ τ H Q, t' τ H Q → t τ H Q) : PE X e t' := ⟨fun pins s τ H Q I q => h.run pins s τ H Q I (w τ H Q q)⟩
theorem PT.weak {e : Expr} {t t' : TT} (h : PT X e t) (w : ∀ τ H Q, t' τ H Q → t τ H Q) : PT X e t' := ⟨fun pins s τ H Q I q => h.run pins s τ H Q I (w τ H Q q)⟩
theorem PW.weak {e : Expr} {t t' : TT} (h : PW X e t) (w : ∀ τ H Q, t' τ H Q → t τ H Q) : PW X e t' := ⟨fun wh pins s τ H Q I q => h.run wh pins s τ H Q I (w τ H Q q)⟩
theorem PA.weak {e : List Expr} {t t' : TA} (h : PA X e t) (w : ∀ τ H Q, t' τ H Q → t τ H Q) : PA X e t' := ⟨fun pos pins s τ H Q I q => h.run pos pins s τ H Q I (w τ H Q q)⟩
theorem PS.weak {e : Stmt} {t t' : TS} (h : PS X e t) (w : ∀ Ed τ H, t' Ed τ H → t Ed τ H) : PS X e t' := ⟨fun pins s τ H Ed I q => h.run pins s τ H Ed I (w Ed τ H q)⟩
theorem PSs.weak {e : List Stmt} {t t' : TS} (h : PSs X e t) (w : ∀ Ed τ H, t' Ed τ H → t Ed τ H) : PSs X e t' := ⟨fun pins s τ H Ed I q => h.run pins s τ H Ed I (w Ed τ H q)⟩
end
end L2
namespace T3
open PySem PySem.Spec PyProof.Rows L2
abbrev PE3 (X : Cx) (B : Bs) (e : Expr) (t : E3) : Prop := PE X e (low X.K B t)
abbrev PT3 (X : Cx) (B : Bs) (e : Expr) (t : B3) : Prop := PT X e (lowB X.K B t)
abbrev PW3 (X : Cx) (B : Bs) (e : Expr) (t : B3) : Prop := PW X e (lowB X.K B t)
abbrev PA3 (X : Cx) (B : Bs) (e : List Expr) (t : A3) : Prop := PA X e (lowA X.K B t)
abbrev PS3 (X : Cx) (B : Bs) (e : Stmt) (t : T3S) : Prop := PS X e (lowS X.K B t)
abbrev PB3 (X : Cx) (B : Bs) (e : List Stmt) (t : T3S) : Prop := PSs X e (lowS X.K B t)

/-! ### names, constants -/
def var3 (i : Nat) : E3 := fun σ G Q => match σ[i]? with
  | some (some d) => Q d G
  | _ => False
def con3 (d : D) : E3 := fun _ G Q => Q d G
section
variable {X : Cx} {B : Bs}
theorem e_var (i : Nat) {x : Str} {pos : Pos} (hN : X.N[i]? = some x := by rfl) (hv : Vis X.env.scope x := by first | exact Or.inl rfl | exact Or.inr (Or.inl rfl) | exact Or.inr (Or.inr rfl)) (hd : (x == ("__debug__" : Str)) = false := by decide)
    (hcd : (x == ("__classdict__" : Str)) = false := by decide) : PE3 X B (.Name x pos) (var3 i) := (pe_var hN hv hd hcd).weak fun τ H Q ⟨F, σ, G, Q3, hf, hs, hh, h, k⟩ => by
  unfold var3 at h
  cases e : σ[i]? with
  | none =>
    rw [e] at h
    exact h.elim
  | some o =>
    cases o with
    | none =>
      rw [e] at h
      exact h.elim
    | some d =>
      rw [e] at h
      obtain ⟨v, h1, h2⟩ := hs.at_ i d e
      exact ⟨v, h1, k v H ⟨F, d, G, Same.refl F, hh, h2, h⟩⟩
theorem e_con {e : Expr} {v : V} {d : D} (h : PE X e (tC v)) (r : ∀ F, R3 X.K F d v) : PE3 X B e (con3 d) := h.weak fun τ H Q ⟨F, σ, G, Q3, hf, hs, hh, h, k⟩ => k v H ⟨F, d, G, Same.refl F, hh, r F, h⟩
theorem e_int {i j pos} : PE3 X B (.Constant (.int i) j pos) (con3 (.int i)) := e_con pe_int fun _ => .int i
theorem e_bl {i j pos} : PE3 X B (.Constant (.bool i) j pos) (con3 (.bl i)) := e_con pe_bl fun _ => .bl i
theorem e_non {j pos} : PE3 X B (.Constant .none j pos) (con3 .non) := e_con pe_non fun _ => .non
theorem e_str {i j pos} : PE3 X B (.Constant (.str i) j pos) (con3 (.str i)) := e_con pe_str fun _ => .str i
/-- a global name that is known: a class, a def -/
theorem e_ref {x : Str} {a : Addr} {pos : Pos} (hg : Gl X x) (hm : X.mg x = some (.ref a)) (hd : (x == ("__debug__" : Str)) = false := by decide) : PE3 X B (.Name x pos) (con3 (.ref a)) := e_con (v := .ref a) (pe_glob (v := .ref a) hg hm rfl hd) fun _ => .ref a
theorem e_gint {x : Str} {i : Int} {pos : Pos} (hg : Gl X x) (hm : ∃ t, X.mg x = some (.int i t)) (hd : (x == ("__debug__" : Str)) = false := by decide) : PE3 X B (.Name x pos) (con3 (.int i)) := by
  obtain ⟨t, hm⟩ := hm
  exact e_con (v := .int i) (pe_glob hg hm ⟨t, rfl⟩ hd) fun _ => .int i
theorem e_bty {x : Str} {n : String} {pos : Pos} (hg : Gl X x) (hm : X.mg x = none) (hv : bootBuiltins x = some (.type n)) (hn : x ≠ "__name__" := by decide) (hd : (x == ("__debug__" : Str)) = false := by decide) : PE3 X B (.Name x pos) (con3 (.ty n)) :=
  e_con (pe_bltn (v := .ty n) hg hm hv rfl hn hd) fun _ => .ty n
end

/-! ### operators by values -/
abbrev R32 := D → D → H3 → K3 → Prop
abbrev R31 := D → H3 → K3 → Prop
def lowR (K : PySem.W.Frag) (P : Hp) (r : R32) : R2 := fun x y H Q => ∃ F d1 d2 G Q3, R3 K F d1 x ∧ R3 K F d2 y ∧ RH K F P G H ∧ r d1 d2 G Q3 ∧ ∀ v H', post K F P Q3 v H' → Q v H'
def lowU (K : PySem.W.Frag) (P : Hp) (r : R31) : V → Hp → VK → Prop := fun x H Q => ∃ F d G Q3, R3 K F d x ∧ RH K F P G H ∧ r d G Q3 ∧ ∀ v H', post K F P Q3 v H' → Q v H'
abbrev OpR3 (X : Cx) (P : Hp) (f : Value → Value → Sem Value) (r : R32) : Prop := OpR X f (lowR X.K P r)
abbrev UnR3 (X : Cx) (P : Hp) (f : Value → Sem Value) (r : R31) : Prop := UnR X f (lowU X.K P r)
def op3 (r : R32) (ta tb : E3) : E3 := fun σ G Q => ta σ G fun x G1 => tb σ G1 fun y G2 => r x y G2 Q
def un3 (r : R31) (ta : E3) : E3 := fun σ G Q => ta σ G fun x G1 => r x G1 Q
/-- the value as a truth -/
def tst3 (t : E3) : B3 := fun σ G Q => t σ G fun x G1 => match x with
  | .bl k => Q k G1
  | _ => False
def chain3 (r r' : R32) (ta tb tc : E3) : E3 := fun σ G Q => ta σ G fun x G1 => tb σ G1 fun y G2 => r x y G2 fun z G3 => match z with
  | .bl true => tc σ G3 fun w G4 => r' y w G4 Q
  | .bl false => Q (.bl false) G3
  | _ => False
section
variable {X : Cx} {B : Bs} {a b c : Expr} {ta tb tc : E3} {pos : Pos} {r r' : R32}
theorem low_op {K : PySem.W.Frag} {τ : L2.St} {H : Hp} {Q : VK} (h : low K B (op3 r ta tb) τ H Q) : tOp (lowR K B.P r) (low K B ta) (low K B tb) τ H Q := by
  obtain ⟨F, σ, G, Q3, hf, hs, hh, h, k⟩ := h
  exact low_run hf hs hh h fun F1 x d1 G1 H1 f1 hh1 r1 q1 => low_run (hf.trans f1) (hs.mono f1) hh1 q1 fun F2 y d2 G2 H2 f2 hh2 r2 q2 =>
    ⟨F2, d1, d2, G2, Q3, r1.mono f2, r2, hh2, q2, fun v H' z => k v H' (z.le (f1.trans f2))⟩
theorem e_op {op : Operator} (ho : OpR3 X B.P (binaryOp op) r) (ha : PE3 X B a ta) (hb : PE3 X B b tb) : PE3 X B (.BinOp a op b pos) (op3 r ta tb) := (pe_op ho ha hb).weak fun _ _ _ h => low_op h
theorem e_cmp {op : CmpOp} (ho : OpR3 X B.P (compareOp op) r) (ha : PE3 X B a ta) (hb : PE3 X B b tb) (hm : behindInMarks op b = false := by first | exact nobehind _ (by decide) (by decide) | rfl) : PE3 X B (.Compare a [op] [b] pos) (op3 r ta tb) := (pe_cmpR ho ha hb hm).weak fun _ _ _ h => low_op h
theorem e_un {op : UnaryOp} {r : R31} (ho : UnR3 X B.P (unaryOp op) r) (ha : PE3 X B a ta) : PE3 X B (.UnaryOp op a pos) (un3 r ta) := (pe_un ho ha).weak fun τ H Q ⟨F, σ, G, Q3, hf, hs, hh, h, k⟩ =>
  low_run hf hs hh h fun F1 x d1 G1 H1 f1 hh1 r1 q1 => ⟨F1, d1, G1, Q3, r1, hh1, q1, fun v H' z => k v H' (z.le f1)⟩
theorem p_cmp {op : CmpOp} (ho : OpR3 X B.P (compareOp op) r) (ha : PE3 X B a ta) (hb : PE3 X B b tb) (hm : behindInMarks op b = false := by first | exact nobehind _ (by decide) (by decide) | rfl) : PT3 X B (.Compare a [op] [b] pos) (tst3 (op3 r ta tb)) :=
  (pt_cmpR ho ha hb hm).weak fun τ H Q ⟨F, σ, G, Q3, hf, hs, hh, h, k⟩ => by
    refine low_op (K := X.K) ⟨F, σ, G, _, hf, hs, hh, h, fun v H' z => ?_⟩
    obtain ⟨F1, d, G1, f, hh1, r1, q⟩ := z
    cases r1 with
    | bl x => exact ⟨x, rfl, k x H' ⟨F1, G1, f, hh1, q⟩⟩
    | _ => exact False.elim q
theorem low_chain {K : PySem.W.Frag} {τ : L2.St} {H : Hp} {Q : VK} (h : low K B (chain3 r r' ta tb tc) τ H Q) : tChain (lowR K B.P r) (lowR K B.P r') (low K B ta) (low K B tb) (low K B tc) τ H Q := by
  obtain ⟨F, σ, G, Q3, hf, hs, hh, h, k⟩ := h
  refine low_run hf hs hh h fun F1 x d1 G1 H1 f1 hh1 r1 q1 => low_run (hf.trans f1) (hs.mono f1) hh1 q1 fun F2 y d2 G2 H2 f2 hh2 r2 q2 => ?_
  refine ⟨F2, d1, d2, G2, _, r1.mono f2, r2, hh2, q2, fun v H' z => ?_⟩
  obtain ⟨F3, d, G3, f3, hh3, r3, q⟩ := z
  cases r3 with
  | bl x =>
    cases x with
    | true =>
      refine ⟨true, rfl, ?_⟩
      rw [if_pos rfl]
      exact low_run (hf.trans (f1.trans (f2.trans f3))) (hs.mono (f1.trans (f2.trans f3))) hh3 q fun F4 w d4 G4 H4 f4 hh4 r4 q4 => ⟨F4, d2, d4, G4, Q3, r2.mono (f3.trans f4), r4, hh4, q4, fun v H' z => k v H' (z.le (f1.trans (f2.trans (f3.trans f4))))⟩
    | false =>
      refine ⟨false, rfl, ?_⟩
      rw [if_neg Bool.false_ne_true]
      exact k _ _ ⟨F3, _, G3, f1.trans (f2.trans f3), hh3, .bl false, q⟩
  | _ => exact False.elim q
theorem e_chain {op op' : CmpOp} (ho : OpR3 X B.P (compareOp op) r) (ho' : OpR3 X B.P (compareOp op') r') (ha : PE3 X B a ta) (hb : PE3 X B b tb) (hc : PE3 X B c tc) (hm : lastMarks [op, op'] [b, c] = false := by rfl) : PE3 X B (.Compare a [op, op'] [b, c] pos) (chain3 r r' ta tb tc) := (pe_chain ho ho' ha hb hc hm).weak fun _ _ _ h => low_chain h
theorem p_chain {op op' : CmpOp} (ho : OpR3 X B.P (compareOp op) r) (ho' : OpR3 X B.P (compareOp op') r') (ha : PE3 X B a ta) (hb : PE3 X B b tb) (hc : PE3 X B c tc) (hm : lastMarks [op, op'] [b, c] = false := by rfl) : PT3 X B (.Compare a [op, op'] [b, c] pos) (tst3 (chain3 r r' ta tb tc)) :=
  (pt_chain ho ho' ha hb hc hm).weak fun τ H Q ⟨F, σ, G, Q3, hf, hs, hh, h, k⟩ => by
    refine low_chain (K := X.K) ⟨F, σ, G, _, hf, hs, hh, h, fun v H' z => ?_⟩
    obtain ⟨F1, d, G1, f, hh1, r1, q⟩ := z
    cases r1 with
    | bl x => exact ⟨x, rfl, k x H' ⟨F1, G1, f, hh1, q⟩⟩
    | _ => exact False.elim q
end

/-! ### truth, and, or, not, if -/
/-- a value's truth -/
def tru (G : H3) : D → Option Bool
  | .non => some false
  | .bl b => some b
  | .int i => some (i != 0)
  | .str x => some (x.length != 0)
  | .tup xs => some (!xs.isEmpty)
  | .lst xs => some (!xs.isEmpty)
  | .kls xs => some (!xs.isEmpty)
  | .ref a => match G a with
    | some (.lst xs) => some (!xs.isEmpty)
    | some (.dic kvs) => some (!kvs.isEmpty)
    | _ => none
  | _ => none
def truth3 (t : E3) : B3 := fun σ G Q => t σ G fun x G1 => match tru G1 x with
  | some k => Q k G1
  | none => False
def not3 (t : B3) : B3 := fun σ G Q => t σ G fun k G1 => Q (!k) G1
def and3 (t u : B3) : B3 := fun σ G Q => t σ G fun k G1 => if k = true then u σ G1 Q else Q false G1
def or3 (t u : B3) : B3 := fun σ G Q => t σ G fun k G1 => if k = true then Q true G1 else u σ G1 Q
def ite3 (t : B3) (ta tb : E3) : E3 := fun σ G Q => t σ G fun k G1 => if k = true then ta σ G1 Q else tb σ G1 Q
def vnot3 (ta : E3) : E3 := fun σ G Q => ta σ G fun x G1 => match tru G1 x with
  | some k => Q (.bl (!k)) G1
  | none => False
def vand3 (ta tb : E3) : E3 := fun σ G Q => ta σ G fun x G1 => match tru G1 x with
  | some true => tb σ G1 Q
  | some false => Q x G1
  | none => False
def vor3 (ta tb : E3) : E3 := fun σ G Q => ta σ G fun x G1 => match tru G1 x with
  | some true => Q x G1
  | some false => tb σ G1 Q
  | none => False
theorem isEmpty_len {α β : Type} {xs : List α} {ys : List β} (h : xs.length = ys.length) : xs.isEmpty = ys.isEmpty := by
  cases xs with
  | nil =>
    cases ys with
    | nil => rfl
    | cons _ _ => simp at h
  | cons _ _ =>
    cases ys with
    | nil => simp at h
    | cons _ _ => rfl
end T3

namespace T3
open PySem PySem.Spec PyProof.Rows L2

section
variable {K : PySem.W.Frag} {F F' P : Hp} {B : Bs} {G : H3} {H : Hp}
def lok : D → Prop
  | .str x => x.length ≤ sizeLine
  | _ => True
theorem tru_rel {d : D} {v : V} {k : Bool} (hh : RH K F P G H) (r : R3 K F d v) (e : tru G d = some k) (l : lok d) : TruV K v H k := by
  cases r with
  | non => exact (Option.some.inj e).symm
  | bl b => exact (Option.some.inj e).symm
  | int i => exact (Option.some.inj e).symm
  | str x => exact ⟨l, by
      have q := (Option.some.inj e).symm
      rw [q]
      cases hx : x.length with
      | zero => rfl
      | succ n => rfl⟩
  | ty n => cases e
  | ref a =>
    cases h : G a with
    | none => simp [tru, h] at e
    | some o =>
      have q := hh.hp _ _ h
      cases o with
      | lst xs =>
        simp only [tru, h] at e
        obtain ⟨vs, h1, r1⟩ := q
        refine .inl ⟨vs, SqL.of h1, ?_⟩
        have e' := (Option.some.inj e).symm
        rw [e', isEmpty_len r1.length]
      | dic kvs =>
        simp only [tru, h] at e
        obtain ⟨vs, h1, r1⟩ := q
        refine .inr (.inr ⟨vs, h1, ?_⟩)
        have e' := (Option.some.inj e).symm
        rw [e', isEmpty_len r1.length]
      | ins C fs => simp [tru, h] at e
  | tup h1 h2 =>
    refine .inr (.inl ⟨_, same_t hh.fz h1, ?_⟩)
    have e' := (Option.some.inj e).symm
    rw [e', isEmpty_len h2.length]
  | lst h1 h2 =>
    refine .inl ⟨_, SqL.of (hh.fz _ _ h1), ?_⟩
    have e' := (Option.some.inj e).symm
    rw [e', isEmpty_len h2.length]
  | kls h1 h2 =>
    refine .inl ⟨_, hh.fz.seq h1, ?_⟩
    have e' := (Option.some.inj e).symm
    rw [e', isEmpty_len h2.length]
  | obj _ _ => cases e
end
/-- the value's truth: what follows -/
def istru (x : D) (G : H3) (Q : Bool → H3 → Prop) : Prop := match tru G x with
  | some k => lok x ∧ Q k G
  | none => False
theorem istru_of {x : D} {G : H3} {Q : Bool → H3 → Prop} (h : istru x G Q) : ∃ k, tru G x = some k ∧ lok x ∧ Q k G := by
  unfold istru at h
  cases e : tru G x with
  | none =>
    rw [e] at h
    exact h.elim
  | some k =>
    rw [e] at h
    exact ⟨k, rfl, h⟩
def tru3 (t : E3) : B3 := fun σ G Q => t σ G fun x G1 => istru x G1 Q
def vno3 (ta : E3) : E3 := fun σ G Q => ta σ G fun x G1 => istru x G1 fun k G2 => Q (.bl (!k)) G2
def van3 (ta tb : E3) : E3 := fun σ G Q => ta σ G fun x G1 => istru x G1 fun k G2 => if k = true then tb σ G2 Q else Q x G2
def vo3 (ta tb : E3) : E3 := fun σ G Q => ta σ G fun x G1 => istru x G1 fun k G2 => if k = true then Q x G2 else tb σ G2 Q
section
variable {X : Cx} {B : Bs} {a b : Expr} {ta tb : E3} {tA tB : B3} {rest : List Expr} {pos : Pos}
theorem p_tru (ha : PE3 X B a ta) (he : ∀ whole, isTrue a X.env whole = (do let v ← whole; standAt a.pos; holding [v] (truthy v)) := by intro _; rfl) : PT3 X B a (tru3 ta) :=
  (pt_truth ha he).weak fun τ H Q ⟨F, σ, G, Q3, hf, hs, hh, h, k⟩ => low_run hf hs hh h fun F1 v d G1 H1 f1 hh1 r1 q1 => by
    obtain ⟨b, e, l, q⟩ := istru_of q1
    exact ⟨b, tru_rel hh1 r1 e l, k b H1 ⟨F1, G1, f1, hh1, q⟩⟩
theorem p_not (ha : PT3 X B a tA) : PT3 X B (.UnaryOp .Not a pos) (not3 tA) := (pt_not ha).weak fun τ H Q ⟨F, σ, G, Q3, hf, hs, hh, h, k⟩ =>
  lowB_run hf hs hh h fun F1 b G1 H1 f1 hh1 q1 => k (!b) H1 ⟨F1, G1, f1, hh1, q1⟩
theorem w_and1 (ha : PT3 X B a tA) : PW3 X B (.BoolOp .And [a] pos) tA := pw_and1 ha
theorem w_or1 (ha : PT3 X B a tA) : PW3 X B (.BoolOp .Or [a] pos) tA := pw_or1 ha
theorem w_and (ha : PT3 X B a tA) (hb : PW3 X B (.BoolOp .And (b :: rest) pos) tB) : PW3 X B (.BoolOp .And (a :: b :: rest) pos) (and3 tA tB) := (pw_and ha hb).weak fun τ H Q ⟨F, σ, G, Q3, hf, hs, hh, h, k⟩ =>
  lowB_run hf hs hh h fun F1 b G1 H1 f1 hh1 q1 => by
    cases b with
    | true =>
      rw [if_pos rfl] at q1 ⊢
      exact lowB_run (hf.trans f1) (hs.mono f1) hh1 q1 fun F2 b G2 H2 f2 hh2 q2 => k b H2 ⟨F2, G2, f1.trans f2, hh2, q2⟩
    | false =>
      rw [if_neg Bool.false_ne_true] at q1 ⊢
      exact k false H1 ⟨F1, G1, f1, hh1, q1⟩
theorem w_or (ha : PT3 X B a tA) (hb : PW3 X B (.BoolOp .Or (b :: rest) pos) tB) : PW3 X B (.BoolOp .Or (a :: b :: rest) pos) (or3 tA tB) := (pw_or ha hb).weak fun τ H Q ⟨F, σ, G, Q3, hf, hs, hh, h, k⟩ =>
  lowB_run hf hs hh h fun F1 b G1 H1 f1 hh1 q1 => by
    cases b with
    | false =>
      rw [if_neg Bool.false_ne_true] at q1 ⊢
      exact lowB_run (hf.trans f1) (hs.mono f1) hh1 q1 fun F2 b G2 H2 f2 hh2 q2 => k b H2 ⟨F2, G2, f1.trans f2, hh2, q2⟩
    | true =>
      rw [if_pos rfl] at q1 ⊢
      exact k true H1 ⟨F1, G1, f1, hh1, q1⟩
theorem p_w (h : PW3 X B a tA) : PT3 X B a tA := PW.pt h
theorem e_one {op : BoolOp} (h : PE3 X B a ta) : PE3 X B (.BoolOp op [a] pos) ta := pe_one h
theorem e_and (ha : PE3 X B a ta) (hb : PE3 X B (.BoolOp .And (b :: rest) pos) tb) : PE3 X B (.BoolOp .And (a :: b :: rest) pos) (van3 ta tb) := (pe_andT ha hb).weak fun τ H Q ⟨F, σ, G, Q3, hf, hs, hh, h, k⟩ =>
  low_run hf hs hh h fun F1 v d G1 H1 f1 hh1 r1 q1 => by
    obtain ⟨b, e, l, q⟩ := istru_of q1
    refine ⟨b, tru_rel hh1 r1 e l, ?_⟩
    cases b with
    | true =>
      rw [if_pos rfl] at q ⊢
      exact low_run (hf.trans f1) (hs.mono f1) hh1 q fun F2 w d2 G2 H2 f2 hh2 r2 q2 => k w H2 ⟨F2, d2, G2, f1.trans f2, hh2, r2, q2⟩
    | false =>
      rw [if_neg Bool.false_ne_true] at q ⊢
      exact k v H1 ⟨F1, d, G1, f1, hh1, r1, q⟩
theorem e_or (ha : PE3 X B a ta) (hb : PE3 X B (.BoolOp .Or (b :: rest) pos) tb) : PE3 X B (.BoolOp .Or (a :: b :: rest) pos) (vo3 ta tb) := (pe_orT ha hb).weak fun τ H Q ⟨F, σ, G, Q3, hf, hs, hh, h, k⟩ =>
  low_run hf hs hh h fun F1 v d G1 H1 f1 hh1 r1 q1 => by
    obtain ⟨b, e, l, q⟩ := istru_of q1
    refine ⟨b, tru_rel hh1 r1 e l, ?_⟩
    cases b with
    | false =>
      rw [if_neg Bool.false_ne_true] at q ⊢
      exact low_run (hf.trans f1) (hs.mono f1) hh1 q fun F2 w d2 G2 H2 f2 hh2 r2 q2 => k w H2 ⟨F2, d2, G2, f1.trans f2, hh2, r2, q2⟩
    | true =>
      rw [if_pos rfl] at q ⊢
      exact k v H1 ⟨F1, d, G1, f1, hh1, r1, q⟩
theorem e_not (ha : PE3 X B a ta) : PE3 X B (.UnaryOp .Not a pos) (vno3 ta) := (pe_notT ha).weak fun τ H Q ⟨F, σ, G, Q3, hf, hs, hh, h, k⟩ =>
  low_run hf hs hh h fun F1 v d G1 H1 f1 hh1 r1 q1 => by
    obtain ⟨b, e, l, q⟩ := istru_of q1
    exact ⟨b, tru_rel hh1 r1 e l, k _ H1 ⟨F1, _, G1, f1, hh1, .bl _, q⟩⟩
theorem e_ite {c : Expr} (hc : PT3 X B c tA) (ha : PE3 X B a ta) (hb : PE3 X B b tb) : PE3 X B (.IfExp c a b pos) (ite3 tA ta tb) := (pe_ifExp hc ha hb).weak fun τ H Q ⟨F, σ, G, Q3, hf, hs, hh, h, k⟩ =>
  lowB_run hf hs hh h fun F1 b G1 H1 f1 hh1 q1 => by
    cases b with
    | true =>
      rw [if_pos rfl] at q1 ⊢
      exact low_run (hf.trans f1) (hs.mono f1) hh1 q1 fun F2 w d2 G2 H2 f2 hh2 r2 q2 => k w H2 ⟨F2, d2, G2, f1.trans f2, hh2, r2, q2⟩
    | false =>
      rw [if_neg Bool.false_ne_true] at q1 ⊢
      exact low_run (hf.trans f1) (hs.mono f1) hh1 q1 fun F2 w d2 G2 H2 f2 hh2 r2 q2 => k w H2 ⟨F2, d2, G2, f1.trans f2, hh2, r2, q2⟩
end

/-! ### lists of arguments, displays -/
def nil3 : A3 := fun _ G Q => Q [] G
def cons3 (ta : E3) (tr : A3) : A3 := fun σ G Q => ta σ G fun x G1 => tr σ G1 fun xs G2 => Q (x :: xs) G2
def tup3 (t : A3) : E3 := fun σ G Q => t σ G fun xs G1 => xs.length ≤ 1000 ∧ Q (.tup xs) G1
def lst3 (t : A3) : E3 := fun σ G Q => t σ G fun xs G1 => xs.length ≤ 1000 ∧ ∀ p, G1 p = none → Q (.ref p) (up G1 p (.lst xs))
def lsf3 (t : A3) : E3 := fun σ G Q => t σ G fun xs G1 => xs.length ≤ 1000 ∧ Q (.lst xs) G1
theorem small_line {n : Nat} (h : n ≤ 1000) : n ≤ sizeLine := Nat.le_of_lt (small1000 h)
section
variable {X : Cx} {B : Bs} {e : Expr} {es : List Expr} {te : E3} {t : A3} {pos : Pos}
theorem a_nil : PA3 X B [] nil3 := pa_nil.weak fun τ H Q ⟨F, σ, G, Q3, hf, hs, hh, h, k⟩ => k [] H ⟨F, [], G, Same.refl F, hh, .nil, h⟩
theorem a_cons (ha : PE3 X B e te) (hr : PA3 X B es t) (hs : starEach (e :: es) X.env = (false, eval e X.env) :: starEach es X.env := by rfl) : PA3 X B (e :: es) (cons3 te t) := (pa_cons ha hr hs).weak fun τ H Q ⟨F, σ, G, Q3, hf, hs, hh, h, k⟩ =>
  low_run hf hs hh h fun F1 v d G1 H1 f1 hh1 r1 q1 => lowA_run (hf.trans f1) (hs.mono f1) hh1 q1 fun F2 vs ds G2 H2 f2 hh2 r2 q2 => k _ H2 ⟨F2, _, G2, f1.trans f2, hh2, .cons (r1.mono f2) r2, q2⟩
theorem e_tup {x1} (h : PA3 X B es t) : PE3 X B (.Tuple es x1 pos) (tup3 t) := (pe_tup h).weak fun τ H Q ⟨F, σ, G, Q3, hf, hs, hh, h, k⟩ =>
  lowA_run hf hs hh h fun F1 vs ds G1 H1 f1 hh1 r1 q1 => ⟨by rw [← r1.length]; exact small_line q1.1, fun p hp => by
    obtain ⟨e1, hh2⟩ := hh1.frz (u := .tup vs) hp
    exact k _ _ ⟨_, _, G1, f1.trans e1, hh2, .tup (SqT.of upd_same) (r1.mono e1), q1.2⟩⟩
theorem e_lst (h : PA3 X B es t) : PE3 X B (.List es pos) (lst3 t) := (pe_lst h).weak fun τ H Q ⟨F, σ, G, Q3, hf, hs, hh, h, k⟩ =>
  lowA_run hf hs hh h fun F1 vs ds G1 H1 f1 hh1 r1 q1 => ⟨by rw [← r1.length]; exact small_line q1.1, fun p hp =>
    k _ _ ⟨F1, _, _, f1, hh1.new (o := .lst ds) hp ⟨vs, rfl, r1⟩, .ref p, q1.2 p (hh1.free hp)⟩⟩
theorem e_lsf (h : PA3 X B es t) : PE3 X B (.List es pos) (lsf3 t) := (pe_lst h).weak fun τ H Q ⟨F, σ, G, Q3, hf, hs, hh, h, k⟩ =>
  lowA_run hf hs hh h fun F1 vs ds G1 H1 f1 hh1 r1 q1 => ⟨by rw [← r1.length]; exact small_line q1.1, fun p hp => by
    obtain ⟨e1, hh2⟩ := hh1.frz (u := .lst vs) hp
    exact k _ _ ⟨_, _, G1, f1.trans e1, hh2, .lst upd_same (r1.mono e1), q1.2⟩⟩
end

/-! ### statements -/
def nx3 : T3S := fun N σ G => N.nx σ G
def seq3 (t u : T3S) : T3S := fun N σ G => t { N with nx := u N } σ G
def brk3 : T3S := fun N σ G => N.bk σ G
def cnt3 : T3S := fun N σ G => N.ct σ G
def drop3 (te : E3) : T3S := fun N σ G => te σ G fun _ G1 => N.nx σ G1
def ret3 (te : E3) : T3S := fun N σ G => te σ G N.rt
def retn3 : T3S := fun N _ G => N.rt .non G
def ifs3 (c : B3) (t u : T3S) : T3S := fun N σ G => c σ G fun b G1 => if b = true then t N σ G1 else u N σ G1
def set3 (i : Nat) (te : E3) : T3S := fun N σ G => te σ G fun d G1 => N.nx (σ.set i (some d)) G1
def nev3 : T3S := fun _ _ _ => False
section
variable {X : Cx} {B : Bs} {st : Stmt} {rest : List Stmt} {t u : T3S} {e : Expr} {te : E3} {pos : Pos}
theorem lowS_of {K : PySem.W.Frag} {F : Hp} {t : T3S} {τ : L2.St} {H : Hp} {σ : S3} {G : H3} {N : N3} {Ed : Ends} (hf : Same B.F F) (hs : RS K F σ τ) (hh : RH K F B.P G H) (h : t N σ G) (k : NR K F B.P N Ed) : lowS K B t Ed τ H := ⟨F, σ, G, N, hf, hs, hh, h, k⟩
theorem b_nil : PB3 X B [] nx3 := pss_nil.weak fun Ed τ H ⟨F, σ, G, N, hf, hs, hh, h, k⟩ => k.nx τ H ⟨F, σ, G, Same.refl F, hs, hh, h⟩
theorem b_cons (h1 : PS3 X B st t) (h2 : PB3 X B rest u) : PB3 X B (st :: rest) (seq3 t u) := (pss_cons h1 h2).weak fun Ed τ H ⟨F, σ, G, N, hf, hs, hh, h, k⟩ =>
  lowS_of hf hs hh h ⟨fun τ1 H1 ⟨F1, σ1, G1, f1, hs1, hh1, q1⟩ => lowS_of (hf.trans f1) hs1 hh1 q1 (k.le f1), k.rt, k.bk, k.ct⟩
theorem b_one (h1 : PS3 X B st t) : PB3 X B [st] t := pss_one h1
theorem s_pass : PS3 X B (.Pass pos) nx3 := ps_pass.weak fun Ed τ H ⟨F, σ, G, N, hf, hs, hh, h, k⟩ => k.nx τ H ⟨F, σ, G, Same.refl F, hs, hh, h⟩
theorem s_break : PS3 X B (.Break pos) brk3 := ps_break.weak fun Ed τ H ⟨F, σ, G, N, hf, hs, hh, h, k⟩ => k.bk τ H ⟨F, σ, G, Same.refl F, hs, hh, h⟩
theorem s_cont : PS3 X B (.Continue pos) cnt3 := ps_continue.weak fun Ed τ H ⟨F, σ, G, N, hf, hs, hh, h, k⟩ => k.ct τ H ⟨F, σ, G, Same.refl F, hs, hh, h⟩
theorem s_expr (he : PE3 X B e te) (hs : swapsWith e none pos.line X.env = pure false := by rfl) : PS3 X B (.Expr e pos) (drop3 te) := (ps_expr he hs).weak fun Ed τ H ⟨F, σ, G, N, hf, hs, hh, h, k⟩ =>
  low_run hf hs hh h fun F1 v d G1 H1 f1 hh1 r1 q1 => k.nx τ H1 ⟨F1, σ, G1, f1, hs.mono f1, hh1, q1⟩
theorem s_ret (he : PE3 X B e te) : PS3 X B (.Return (some e) pos) (ret3 te) := (ps_ret he).weak fun Ed τ H ⟨F, σ, G, N, hf, hs, hh, h, k⟩ =>
  low_run hf hs hh h fun F1 v d G1 H1 f1 hh1 r1 q1 => k.rt v H1 ⟨F1, d, G1, f1, hh1, r1, q1⟩
theorem s_retn : PS3 X B (.Return none pos) retn3 := ps_retN.weak fun Ed τ H ⟨F, σ, G, N, hf, hs, hh, h, k⟩ => k.rt .non H ⟨F, .non, G, Same.refl F, hh, .non, h⟩
theorem s_if {c : Expr} {a b : List Stmt} {tc : B3} (hc : PT3 X B c tc) (ha : PB3 X B a t) (hb : PB3 X B b u) : PS3 X B (.If c a b pos) (ifs3 tc t u) := (ps_if hc ha hb).weak fun Ed τ H ⟨F, σ, G, N, hf, hs, hh, h, k⟩ =>
  lowB_run hf hs hh h fun F1 b G1 H1 f1 hh1 q1 => by
    cases b with
    | true =>
      rw [if_pos rfl] at q1 ⊢
      exact lowS_of (hf.trans f1) (hs.mono f1) hh1 q1 (k.le f1)
    | false =>
      rw [if_neg Bool.false_ne_true] at q1 ⊢
      exact lowS_of (hf.trans f1) (hs.mono f1) hh1 q1 (k.le f1)
theorem s_set (i : Nat) {x : Str} {pos' : Pos} (hN : X.N.Nodup) (he : PE3 X B e te) (hi : X.N[i]? = some x := by rfl) (hx : Loc X.env.scope x := by first | exact Or.inl rfl | exact Or.inr rfl) (hs : swapsWith e (some (.Name x pos')) pos.line X.env = pure false := by rfl) (hf : X.fn x = true ∨ X.env.scope.names.lookup x = some .local := by first | exact .inl rfl | exact .inr rfl) :
    PS3 X B (.Assign [.Name x pos'] e pos) (set3 i te) := (ps_set hN hi hx he hs hf).weak fun Ed τ H ⟨F, σ, G, N, hf, hs, hh, h, k⟩ =>
  low_run hf hs hh h fun F1 v d G1 H1 f1 hh1 r1 q1 => k.nx _ H1 ⟨F1, _, G1, f1, (hs.mono f1).set i r1, hh1, q1⟩
theorem s_never : PS3 X B st nev3 := ps_never.weak fun Ed τ H ⟨F, σ, G, N, hf, hs, hh, h, k⟩ => h
theorem b_never {sts : List Stmt} : PB3 X B sts nev3 := pss_never.weak fun Ed τ H ⟨F, σ, G, N, hf, hs, hh, h, k⟩ => h
end

/-! ### targets -/
abbrev G3t := D → S3 → H3 → (S3 → H3 → Prop) → Prop
abbrev G3s := List D → S3 → H3 → (S3 → H3 → Prop) → Prop
def lowG (K : PySem.W.Frag) (B : Bs) (g : G3t) : TG := fun v τ H Q => ∃ F σ G Q3 d, Same B.F F ∧ RS K F σ τ ∧ RH K F B.P G H ∧ R3 K F d v ∧ g d σ G Q3 ∧ ∀ τ' H', postN K F B.P Q3 τ' H' → Q τ' H'
def lowGs (K : PySem.W.Frag) (B : Bs) (g : G3s) : TGs := fun vs τ H Q => ∃ F σ G Q3 ds, Same B.F F ∧ RS K F σ τ ∧ RH K F B.P G H ∧ R3s K F ds vs ∧ g ds σ G Q3 ∧ ∀ τ' H', postN K F B.P Q3 τ' H' → Q τ' H'
abbrev PG3 (X : Cx) (B : Bs) (e : Expr) (g : G3t) : Prop := PG X e (lowG X.K B g)
abbrev PGs3 (X : Cx) (B : Bs) (e : List Expr) (g : G3s) : Prop := PGs X e (lowGs X.K B g)
def gn3 (i : Nat) : G3t := fun d σ G Q => Q (σ.set i (some d)) G
def gnil3 : G3s := fun ds σ G Q => match ds with
  | [] => Q σ G
  | _ => False
def gcons3 (g : G3t) (gs : G3s) : G3s := fun ds σ G Q => match ds with
  | d :: r => g d σ G fun σ1 G1 => gs r σ1 G1 Q
  | [] => False
def gtup3 (n : Nat) (gs : G3s) : G3t := fun d σ G Q => match d with
  | .tup xs => xs.length = n ∧ gs xs σ G Q
  | _ => False
def asg3 (te : E3) (g : G3t) : T3S := fun N σ G => te σ G fun d G1 => g d σ G1 N.nx
theorem _root_.L2.PG.weak {X : Cx} {e : Expr} {t t' : TG} (h : PG X e t) (w : ∀ v τ H Q, t' v τ H Q → t v τ H Q) : PG X e t' := ⟨fun pins s τ H v u Q I r q => h.run pins s τ H v u Q I r (w v τ H Q q)⟩
theorem _root_.L2.PGs.weak {X : Cx} {e : List Expr} {t t' : TGs} (h : PGs X e t) (w : ∀ v τ H Q, t' v τ H Q → t v τ H Q) : PGs X e t' := ⟨fun pins s τ H v u Q I r q => h.run pins s τ H v u Q I r (w v τ H Q q)⟩
section
variable {X : Cx} {B : Bs} {e : Expr} {es : List Expr} {te : E3} {g : G3t} {gs : G3s} {pos : Pos}
theorem g_name (i : Nat) {x : Str} (hN : X.N.Nodup) (hi : X.N[i]? = some x := by rfl) (hx : Loc X.env.scope x := by first | exact Or.inl rfl | exact Or.inr rfl) (hf : X.fn x = true ∨ X.env.scope.names.lookup x = some .local := by first | exact .inl rfl | exact .inr rfl) : PG3 X B (.Name x pos) (gn3 i) :=
  (pg_name hN hi hx hf).weak fun v τ H Q ⟨F, σ, G, Q3, d, hf, hs, hh, r, h, k⟩ => k _ H ⟨F, _, G, Same.refl F, hs.set i r, hh, h⟩
theorem gs_nil : PGs3 X B [] gnil3 := pgs_nil.weak fun v τ H Q ⟨F, σ, G, Q3, ds, hf, hs, hh, r, h, k⟩ => by
  cases r with
  | nil => exact ⟨rfl, k _ H ⟨F, _, G, Same.refl F, hs, hh, h⟩⟩
  | cons _ _ => exact False.elim h
theorem gs_cons (h1 : PG3 X B e g) (h2 : PGs3 X B es gs) (hs : (assignEach (e :: es) X.env).map (·.2) = assign e X.env :: (assignEach es X.env).map (·.2) := by rfl) : PGs3 X B (e :: es) (gcons3 g gs) :=
  (pgs_cons h1 h2 hs).weak fun v τ H Q ⟨F, σ, G, Q3, ds, hf, hs, hh, r, h, k⟩ => by
    cases r with
    | nil => exact False.elim h
    | cons r1 r2 => exact ⟨_, _, rfl, F, σ, G, _, _, hf, hs, hh, r1, h, fun τ1 H1 ⟨F1, σ1, G1, f1, hs1, hh1, q1⟩ => ⟨F1, σ1, G1, Q3, _, hf.trans f1, hs1, hh1, r2.mono f1, q1, fun τ' H' z => k τ' H' (z.le f1)⟩⟩
theorem g_tup {j : Nat} (n : Nat) (hc : X.calm = true) (h : PGs3 X B es gs) (hn : (assignEach es X.env).length = n := by rfl) (hst : (assignEach es X.env).findIdx? (·.1) = none := by rfl) : PG3 X B (.Tuple es j pos) (gtup3 n gs) :=
  (pg_tup hc h hn hst).weak fun v τ H Q ⟨F, σ, G, Q3, d, hf, hs, hh, r, h, k⟩ => by
    cases r with
    | tup r1 r2 => exact ⟨_, _, rfl, same_t hh.fz r1, by rw [← r2.length]; exact h.1, F, σ, G, Q3, _, hf, hs, hh, r2, h.2, k⟩
    | _ => exact False.elim h
theorem s_asg {tg : Expr} (he : PE3 X B e te) (hg : PG3 X B tg g) (hs : swapsWithSole [tg] e pos.line X.env = pure false := by rfl) (hw : swappedStores [tg] e X.env = pure none := by rfl)
    (h1 : (assignEach [tg] X.env).map (·.2) = [assign tg X.env] := by rfl) : PS3 X B (.Assign [tg] e pos) (asg3 te g) := (ps_asg he hg hs hw h1).weak fun Ed τ H ⟨F, σ, G, N, hf, hs, hh, h, k⟩ =>
  low_run hf hs hh h fun F1 v d G1 H1 f1 hh1 r1 q1 => ⟨F1, σ, G1, N.nx, d, hf.trans f1, hs.mono f1, hh1, r1, q1, fun τ' H' z => k.nx τ' H' (z.le f1)⟩
end

/-! ### while -/
def whl3 (c : B3) (tb : T3S) (N : N3) : Nat → S3 → H3 → Prop
  | 0, _, _ => False
  | n + 1, σ, G => c σ G fun b G1 => if b = true then tb ⟨whl3 c tb N n, N.rt, N.nx, whl3 c tb N n⟩ σ G1 else N.nx σ G1
def while3 (c : B3) (tb : T3S) : T3S := fun N σ G => ∃ n, whl3 c tb N n σ G
section
variable {X : Cx} {B : Bs} {pos : Pos}
theorem s_while {c : Expr} {body : List Stmt} {tc : B3} {tb : T3S} (hp : PassesOwn (model X.prog X.w) X.A X.env X.xe) (hc : PT3 X B c tc) (hb : PB3 X B body tb) : PS3 X B (.While c body [] pos) (while3 tc tb) :=
  (ps_while hp hc hb).weak fun Ed τ H ⟨F, σ, G, N, hf, hs, hh, ⟨n, h⟩, k⟩ => by
    refine ⟨fun m τ' H' => ∃ F' σ' G', Same F F' ∧ RS X.K F' σ' τ' ∧ RH X.K F' B.P G' H' ∧ whl3 tc tb N m σ' G', ⟨n, F, σ, G, Same.refl F, hs, hh, h⟩, ?_⟩
    rintro m τ1 H1 ⟨F1, σ1, G1, f1, hs1, hh1, q1⟩
    cases m with
    | zero => exact q1.elim
    | succ m =>
      refine lowB_run (hf.trans f1) hs1 hh1 q1 fun F2 b G2 H2 f2 hh2 q2 => ?_
      cases b with
      | true =>
        rw [if_pos rfl] at q2 ⊢
        refine ⟨fun τ' H' => ∃ F' σ' G', Same F F' ∧ RS X.K F' σ' τ' ∧ RH X.K F' B.P G' H' ∧ whl3 tc tb N m σ' G', fun τ' H' z => ⟨m, Nat.lt_succ_self m, z⟩, ?_⟩
        refine lowS_of (hf.trans (f1.trans f2)) (hs1.mono f2) hh2 q2 ⟨fun τ3 H3' ⟨F3, σ3, G3, f3, hs3, hh3, q3⟩ => ⟨F3, σ3, G3, f1.trans (f2.trans f3), hs3, hh3, q3⟩, fun v H' z => k.rt v H' (z.le (f1.trans f2)), fun τ' H' z => k.nx τ' H' (z.le (f1.trans f2)), fun τ3 H3' ⟨F3, σ3, G3, f3, hs3, hh3, q3⟩ => ⟨F3, σ3, G3, f1.trans (f2.trans f3), hs3, hh3, q3⟩⟩
      | false =>
        rw [if_neg Bool.false_ne_true] at q2 ⊢
        exact k.nx _ _ ⟨F2, σ1, G2, f1.trans f2, hs1.mono f2, hh2, q2⟩
end

/-! ### for -/
structure J3 where
  items : List D
  keep : H3 → Prop
abbrev I3 := S3 → H3 → (J3 → H3 → Prop) → Prop
def JR (K : PySem.W.Frag) (F : Hp) (j : J3) (J : It) : Prop := ∀ i H1 G1 F1 P, Same F F1 → RH K F1 P G1 H1 → j.keep G1 →
  (i < j.items.length → J.go i H1 ∧ ∀ x H2, J.yld i H1 x H2 → ∃ F2 d, Same F1 F2 ∧ RH K F2 P G1 H2 ∧ j.items[i]? = some d ∧ R3 K F2 d x) ∧ (j.items.length ≤ i → J.stop i H1)
def lowI (K : PySem.W.Frag) (B : Bs) (t : I3) : TI := fun τ H R => ∃ F σ G Q, Same B.F F ∧ RS K F σ τ ∧ RH K F B.P G H ∧ t σ G Q ∧ ∀ J H', (∃ F' G' j, Same F F' ∧ RH K F' B.P G' H' ∧ JR K F' j J ∧ j.keep G' ∧ Q j G') → R J H'
abbrev PI3 (X : Cx) (B : Bs) (tg e : Expr) (t : I3) : Prop := PI X tg e (lowI X.K B t)
theorem _root_.L2.PI.weak {X : Cx} {tg e : Expr} {t t' : TI} (h : PI X tg e t) (w : ∀ τ H R, t' τ H R → t τ H R) : PI X tg e t' := ⟨fun pins s τ H R I q => h.run pins s τ H R I (w τ H R q)⟩
def iter3 (keep : H3 → Prop) (g : G3t) (tb : T3S) (N : N3) : List D → S3 → H3 → Prop
  | [], σ, G => N.nx σ G
  | x :: xs, σ, G => g x σ G fun σ1 G1 => tb ⟨fun σ2 G2 => keep G2 ∧ iter3 keep g tb N xs σ2 G2, N.rt, N.nx, fun σ2 G2 => keep G2 ∧ iter3 keep g tb N xs σ2 G2⟩ σ1 G1
def for3 (ti : I3) (g : G3t) (tb : T3S) : T3S := fun N σ G => ti σ G fun j G1 => iter3 j.keep g tb N j.items σ G1
theorem drop_at {α : Type} {l : List α} {i : Nat} (h : i < l.length) : ∃ x, l[i]? = some x ∧ l.drop i = x :: l.drop (i + 1) := ⟨l[i], by simp [h], List.drop_eq_getElem_cons h⟩
section
variable {X : Cx} {B : Bs} {pos : Pos}
theorem s_for {tg iter : Expr} {body : List Stmt} {ti : I3} {g : G3t} {tb : T3S} (hp : PassesOwn (model X.prog X.w) X.A X.env X.xe) (hc : X.calm = true) (hi : PI3 X B tg iter ti) (hg : PG3 X B tg g) (hb : PB3 X B body tb)
    (hs : ∀ x, foldedSetIterable iter X.env x = pure x := by intro _; rfl) : PS3 X B (.For tg iter body [] pos) (for3 ti g tb) :=
  (ps_for hp hc hi hg hb hs).weak fun Ed τ H ⟨F, σ, G, N, hf, hs, hh, h, k⟩ => by
    refine ⟨F, σ, G, _, hf, hs, hh, h, fun J H1 ⟨F1, G1, j, f1, hh1, jr, kp, q1⟩ => ?_⟩
    refine ⟨fun i m τ' H' => m = j.items.length - i ∧ i ≤ j.items.length ∧ ∃ F' σ' G', Same F1 F' ∧ RS X.K F' σ' τ' ∧ RH X.K F' B.P G' H' ∧ j.keep G' ∧ iter3 j.keep g tb N (j.items.drop i) σ' G',
      ⟨_, rfl, Nat.zero_le _, F1, σ, G1, Same.refl F1, hs.mono f1, hh1, kp, q1⟩, ?_⟩
    rintro i m τ2 H2 ⟨rfl, hi2, F2, σ2, G2, f2, hs2, hh2, kp2, q2⟩
    obtain ⟨j1, j2⟩ := jr i H2 G2 F2 _ f2 hh2 kp2
    by_cases hlt : i < j.items.length
    · obtain ⟨go, yl⟩ := j1 hlt
      obtain ⟨x, hx, hd⟩ := drop_at hlt
      rw [hd] at q2
      refine .inr ⟨go, fun τ' H' => ∃ F' σ' G', Same F1 F' ∧ RS X.K F' σ' τ' ∧ RH X.K F' B.P G' H' ∧ j.keep G' ∧ iter3 j.keep g tb N (j.items.drop (i + 1)) σ' G', fun τ' H' z => ⟨_, by omega, rfl, hlt, z⟩, fun v H3' y => ?_⟩
      obtain ⟨F3, d, f3, hh3, e3, r3⟩ := yl v H3' y
      rw [hx] at e3
      cases e3
      refine ⟨F3, σ2, G2, _, x, hf.trans (f1.trans (f2.trans f3)), hs2.mono f3, hh3, r3, q2, fun τ4 H4 ⟨F4, σ4, G4, f4, hs4, hh4, q4⟩ => ?_⟩
      have f14 : Same F1 F4 := f2.trans (f3.trans f4)
      refine lowS_of (hf.trans (f1.trans f14)) hs4 hh4 q4 ⟨fun τ5 H5 ⟨F5, σ5, G5, f5, hs5, hh5, q5⟩ => ⟨F5, σ5, G5, f14.trans f5, hs5, hh5, q5.1, q5.2⟩, fun v H' z => k.rt v H' (z.le (f1.trans f14)), fun τ' H' z => k.nx τ' H' (z.le (f1.trans f14)), fun τ5 H5 ⟨F5, σ5, G5, f5, hs5, hh5, q5⟩ => ⟨F5, σ5, G5, f14.trans f5, hs5, hh5, q5.1, q5.2⟩⟩
    · have e : i = j.items.length := by omega
      subst e
      rw [List.drop_length] at q2
      exact .inl ⟨j2 (Nat.le_refl _), k.nx _ _ ⟨F2, σ2, G2, f1.trans f2, hs2, hh2, q2⟩⟩
end
/-! ### what is walked -/
/-- the items of a list or a tuple -/
def seqj (d : D) (G : H3) (Q : J3 → H3 → Prop) : Prop := match d with
  | .lst xs => Q ⟨xs, fun _ => True⟩ G
  | .kls xs => Q ⟨xs, fun _ => True⟩ G
  | .ref a => match G a with
    | some (.lst xs) => Q ⟨xs, fun G' => G' a = some (.lst xs)⟩ G
    | _ => False
  | _ => False
def tupj (d : D) (G : H3) (Q : J3 → H3 → Prop) : Prop := match d with
  | .tup xs => Q ⟨xs, fun _ => True⟩ G
  | _ => False
def ilst3 (te : E3) : I3 := fun σ G Q => te σ G fun d G1 => seqj d G1 Q
def itup3 (te : E3) : I3 := fun σ G Q => te σ G fun d G1 => tupj d G1 Q
/-- 0 .. n - 1 -/
def rng3 (lo : Int) (n : Nat) : List D := (List.range n).map fun (i : Nat) => D.int (lo + (i : Int))
def irng1 (ta : A3) : I3 := fun σ G Q => ta σ G fun ds G1 => match ds with
  | [.int j] => (-(2 ^ 62) ≤ j ∧ j < 2 ^ 62) ∧ Q ⟨rng3 0 j.toNat, fun _ => True⟩ G1
  | _ => False
def irng2 (ta : A3) : I3 := fun σ G Q => ta σ G fun ds G1 => match ds with
  | [.int i, .int j] => (-(2 ^ 62) ≤ i ∧ i < 2 ^ 62 ∧ -(2 ^ 62) ≤ j ∧ j < 2 ^ 62) ∧ Q ⟨rng3 i (j - i).toNat, fun _ => True⟩ G1
  | _ => False
section
variable {K : PySem.W.Frag} {F : Hp} {xs : List D} {vs : List V} {a : Addr}
theorem jr_list (h : SqL K F a vs) (r : R3s K F xs vs) : JR K F ⟨xs, fun _ => True⟩ (Itl K a) := fun i H1 G1 F1 P f1 hh1 _ => by
  have q : SqL K H1 a vs := hh1.fz.seq (f1.seq h)
  refine ⟨fun hi => ?_, fun hi => ⟨vs, q, by rw [← r.length]; exact hi⟩⟩
  obtain ⟨d, hd⟩ : ∃ d, xs[i]? = some d := ⟨xs[i], by simp [hi]⟩
  obtain ⟨v, hv, rv⟩ := r.get hd
  refine ⟨⟨vs, v, q, hv⟩, fun x H2 y => ?_⟩
  obtain ⟨e, y⟩ := y
  subst e
  have z := y vs q
  rw [hv] at z
  cases z
  exact ⟨F1, d, Same.refl F1, hh1, hd, rv.mono f1⟩
theorem jr_tup (h : SqT K F a vs) (r : R3s K F xs vs) : JR K F ⟨xs, fun _ => True⟩ (Itt K a) := fun i H1 G1 F1 P f1 hh1 _ => by
  have q : SqT K H1 a vs := same_t hh1.fz (same_t f1 h)
  refine ⟨fun hi => ?_, fun hi => ⟨vs, q, by rw [← r.length]; exact hi⟩⟩
  obtain ⟨d, hd⟩ : ∃ d, xs[i]? = some d := ⟨xs[i], by simp [hi]⟩
  obtain ⟨v, hv, rv⟩ := r.get hd
  refine ⟨⟨vs, v, q, hv⟩, fun x H2 y => ?_⟩
  obtain ⟨e, y⟩ := y
  subst e
  have z := y vs q
  rw [hv] at z
  cases z
  exact ⟨F1, d, Same.refl F1, hh1, hd, rv.mono f1⟩
theorem jr_ref : JR K F ⟨xs, fun G' => G' a = some (.lst xs)⟩ (Itl K a) := fun i H1 G1 F1 P f1 hh1 kp => by
  obtain ⟨vs, e, r⟩ := hh1.hp a _ kp
  refine ⟨fun hi => ?_, fun hi => ⟨vs, SqL.of e, by rw [← r.length]; exact hi⟩⟩
  obtain ⟨d, hd⟩ : ∃ d, xs[i]? = some d := ⟨xs[i], by simp [show i < xs.length from hi]⟩
  obtain ⟨v, hv, rv⟩ := r.get hd
  refine ⟨⟨vs, v, SqL.of e, hv⟩, fun x H2 y => ?_⟩
  obtain ⟨e2, y⟩ := y
  subst e2
  have z := y vs (SqL.of e)
  rw [hv] at z
  cases z
  exact ⟨F1, d, Same.refl F1, hh1, hd, rv⟩
theorem jr_rng {lo : Int} {n : Nat} : JR K F ⟨rng3 lo n, fun _ => True⟩ (Itr lo n) := fun i H1 G1 F1 P f1 hh1 _ => by
  have hl : (rng3 lo n).length = n := by simp [rng3]
  refine ⟨fun hi => ⟨by have := hl ▸ hi; exact this, fun x H2 y => ?_⟩, fun hi => by have := hl ▸ hi; exact this⟩
  obtain ⟨e, y⟩ := y
  subst e
  subst y
  have hi' : i < n := hl ▸ hi
  refine ⟨F1, .int (lo + i), Same.refl F1, hh1, ?_, .int _⟩
  simp [rng3, hi']
end
section
variable {X : Cx} {B : Bs} {pos : Pos} {tg l : Expr} {tl : E3}
theorem i_list (hl : PE3 X B l tl) : PI3 X B tg l (ilst3 tl) := (pi_list hl).weak fun τ H R ⟨F, σ, G, Q, hf, hs, hh, h, k⟩ =>
  low_run hf hs hh h fun F1 v d G1 H1 f1 hh1 r1 q1 => by
    cases r1 with
    | lst r2 r3 => exact ⟨_, rfl, ⟨_, SqL.of (hh1.fz _ _ r2)⟩, k _ H1 ⟨F1, G1, _, f1, hh1, jr_list (SqL.of r2) r3, True.intro, q1⟩⟩
    | kls r2 r3 => exact ⟨_, rfl, ⟨_, hh1.fz.seq r2⟩, k _ H1 ⟨F1, G1, _, f1, hh1, jr_list r2 r3, True.intro, q1⟩⟩
    | ref a =>
      unfold seqj at q1
      cases e : G1 a with
      | none =>
        simp only [e] at q1
      | some o =>
        cases o with
        | lst xs =>
          simp only [e] at q1
          obtain ⟨vs, e2, r⟩ := hh1.hp a _ e
          exact ⟨a, rfl, ⟨vs, SqL.of e2⟩, k _ H1 ⟨F1, G1, _, f1, hh1, jr_ref, e, q1⟩⟩
        | dic _ => simp only [e] at q1
        | ins _ _ => simp only [e] at q1
    | _ => exact False.elim q1
theorem i_tup (hl : PE3 X B l tl) : PI3 X B tg l (itup3 tl) := (pi_tup hl).weak fun τ H R ⟨F, σ, G, Q, hf, hs, hh, h, k⟩ =>
  low_run hf hs hh h fun F1 v d G1 H1 f1 hh1 r1 q1 => by
    cases r1 with
    | tup r2 r3 => exact ⟨_, rfl, ⟨_, same_t hh1.fz r2⟩, k _ H1 ⟨F1, G1, _, f1, hh1, jr_tup r2 r3, True.intro, q1⟩⟩
    | _ => exact False.elim q1
theorem i_rng1 {a : Expr} {ta : A3} {p : Pos} (hg : Gl X "range") (hm : X.mg "range" = none) (ha : PA3 X B [a] ta) (hs : starEach [a] X.env = [(false, eval a X.env)] := by rfl) : PI3 X B tg (.Call (.Name "range" p) [a] [] pos) (irng1 ta) :=
  (pi_range1 hg hm ha hs).weak fun τ H R ⟨F, σ, G, Q, hf, hs, hh, h, k⟩ => lowA_run hf hs hh h fun F1 vs ds G1 H1 f1 hh1 r1 q1 => by
    cases r1 with
    | nil => exact False.elim q1
    | cons a1 r1 =>
      cases r1 with
      | nil =>
        cases a1 with
        | int j => exact ⟨j, rfl, q1.1.1, q1.1.2, k _ H1 ⟨F1, G1, _, f1, hh1, jr_rng, True.intro, q1.2⟩⟩
        | _ => exact False.elim q1
      | cons a2 r1 => cases a1 <;> exact False.elim q1
theorem i_rng2 {a b : Expr} {ta : A3} {p : Pos} (hg : Gl X "range") (hm : X.mg "range" = none) (ha : PA3 X B [a, b] ta) (hs : starEach [a, b] X.env = [(false, eval a X.env), (false, eval b X.env)] := by rfl) (hs2 : starEach [b] X.env = [(false, eval b X.env)] := by rfl) :
    PI3 X B tg (.Call (.Name "range" p) [a, b] [] pos) (irng2 ta) :=
  (pi_range2 hg hm ha hs hs2).weak fun τ H R ⟨F, σ, G, Q, hf, hs, hh, h, k⟩ => lowA_run hf hs hh h fun F1 vs ds G1 H1 f1 hh1 r1 q1 => by
    cases r1 with
    | nil => exact False.elim q1
    | cons a1 r1 =>
      cases r1 with
      | nil => cases a1 <;> exact False.elim q1
      | cons a2 r1 =>
        cases r1 with
        | nil =>
          cases a1 with
          | int i =>
            cases a2 with
            | int j => exact ⟨i, j, rfl, q1.1, k _ H1 ⟨F1, G1, _, f1, hh1, jr_rng, True.intro, q1.2⟩⟩
            | _ => exact False.elim q1
          | _ => exact False.elim q1
        | cons a3 r1 => cases a1 <;> first | exact False.elim q1 | (cases a2 <;> exact False.elim q1)
end
end T3

namespace T3
open PySem PySem.Spec PyProof.Rows L2

/-! ### what a def promises -/
abbrev Sp3 := List D → H3 → K3 → X3 → Prop
def XR (K : PySem.W.Frag) (F : Hp) : Option Addr → List (Str × D) → Prop
  | none, fs => fs = []
  | some dd, fs => ∃ vs, F dd = some (.xd vs) ∧ RF K F fs vs
theorem XR.mono {K : PySem.W.Frag} {F F' : Hp} (e : Same F F') : ∀ {d : Option Addr} {fs : List (Str × D)}, XR K F d fs → XR K F' d fs
  | none, _, h => h
  | some _, _, ⟨vs, h, r⟩ => ⟨vs, e _ _ h, r.mono e⟩
def postX (K : PySem.W.Frag) (F P : Hp) (E : X3) (c : Value) (d : Option Addr) (H : Hp) : Prop := ∃ F' fs G, Same F F' ∧ RH K F' P G H ∧ XR K F' d fs ∧ E c fs G
def lowSp (K : PySem.W.Frag) (sp : Sp3) : Sp := fun vs H Q E => ∃ F P ds G Q3 E3, R3s K F ds vs ∧ RH K F P G H ∧ sp ds G Q3 E3 ∧ (∀ v H', post K F P Q3 v H' → Q v H') ∧ ∀ c d H', postX K F P E3 c d H' → E c d H'
abbrev W3 := Value → List (Str × D) → S3 → H3 → Prop
def lowW (K : PySem.W.Frag) (B : Bs) (W : W3) : WX := fun c d τ H => ∃ F σ G fs, Same B.F F ∧ RS K F σ τ ∧ RH K F B.P G H ∧ XR K F d fs ∧ W c fs σ G
abbrev Fk (P : Program) (w : World) (K : PySem.W.Frag) (mg : Str → Option Value) (base : Heap) (k : Nat) (f : Addr) (fd : FuncData) (ps : List Str) (sp : Sp3) : Prop := FnOk P w K mg base (L2.CX P w) k f fd ps (lowSp K sp)
/-- another way of looking at a value and a heap -/
def View (d : D) (G : H3) (d' : D) (G' : H3) : Prop := ∀ (K : PySem.W.Frag) (F P H : Hp) (v : V), RH K F P G H → R3 K F d v → ∃ F', Same F F' ∧ RH K F' P G' H ∧ R3 K F' d' v
theorem View.refl (d : D) (G : H3) : View d G d G := fun K F P H v h r => ⟨F, Same.refl F, h, r⟩
theorem View.trans {d d1 d2 : D} {G G1 G2 : H3} (a : View d G d1 G1) (b : View d1 G1 d2 G2) : View d G d2 G2 := fun K F P H v h r => by
  obtain ⟨F1, f1, h1, r1⟩ := a K F P H v h r
  obtain ⟨F2, f2, h2, r2⟩ := b K F1 P H v h1 r1
  exact ⟨F2, f1.trans f2, h2, r2⟩
theorem View.less {d : D} {G G' : H3} (h : ∀ a o, G' a = some o → G a = some o) : View d G d G' := fun K F P H v hh r => ⟨F, Same.refl F, hh.less h, r⟩
theorem View.lst {p : Addr} {G : H3} {xs : List D} (h : G p = some (.lst xs)) : View (.ref p) G (.lst xs) (dn G p) := fun K F P H v hh r => by
  cases r
  obtain ⟨vs, e, rs⟩ := hh.hp _ _ h
  obtain ⟨f1, hh1⟩ := hh.freeze h e
  exact ⟨_, f1, hh1, .lst upd_same (rs.mono f1)⟩
theorem View.obj {p C : Addr} {G : H3} {fs : List (Str × D)} (h : G p = some (.ins C fs)) : View (.ref p) G (.obj C fs) (dn G p) := fun K F P H v hh r => by
  cases r
  obtain ⟨dx, vs, e, rs⟩ := hh.hp _ _ h
  obtain ⟨f1, hh1⟩ := hh.freeze h e
  exact ⟨_, f1, hh1, .obj upd_same (rs.mono f1)⟩
theorem dn_up {G : H3} {p : Addr} {o : O3} (h : G p = none) : dn (up G p o) p = G := by
  funext b
  unfold dn up
  by_cases e : b = p
  · rw [if_pos e, e, h]
  · rw [if_neg e, if_neg e]
def start3 (N : List Str) (ds : List D) : S3 := ds.map some ++ List.replicate (N.length - ds.length) none
theorem rs_start {K : PySem.W.Frag} {F : Hp} {N : List Str} {ds : List D} {vs : List V} (r : R3s K F ds vs) : RS K F (start3 N ds) (L2.start N vs) := by
  have hl := r.length
  refine ⟨by unfold start3 L2.start; simp [hl], fun i d h => ?_⟩
  unfold start3 at h
  by_cases hi : i < ds.length
  · rw [List.getElem?_append_left (by simpa using hi), List.getElem?_map] at h
    cases e : ds[i]? with
    | none =>
      rw [e] at h
      cases h
    | some x =>
      rw [e] at h
      cases h
      obtain ⟨v, hv, rv⟩ := r.get e
      refine ⟨v, ?_, rv⟩
      unfold L2.start
      rw [List.getElem?_append_left (by simp; omega), List.getElem?_map, hv]
      rfl
  · rw [List.getElem?_append_right (by simpa using hi), List.getElem?_replicate] at h
    split at h <;> cases h

/-- what a def lets out -/
def ex3 (E : X3) : W3 := fun c fs _ G => ∃ G' : H3, (∀ b o, G' b = some o → G b = some o) ∧ E c fs G'
theorem ex_same {E : X3} {c : Value} {fs : List (Str × D)} {σ : S3} {G : H3} (h : E c fs G) : ex3 E c fs σ G := ⟨G, fun _ _ z => z, h⟩
theorem ex_dn {E : X3} {c : Value} {fs : List (Str × D)} {σ : S3} {G : H3} {p : Addr} (h : E c fs (dn G p)) : ex3 E c fs σ G := ⟨dn G p, fun b o z => by
  unfold dn at z
  split at z
  · cases z
  · exact z, h⟩
/-- the end of a def's body -/
def ends3 (Q : K3) : N3 := { nx := fun _ G => Q .non G, rt := fun d G => ∃ d' G', View d G d' G' ∧ Q d' G' }
section
variable {P : Program} {w : World} {K : PySem.W.Frag} {mg : Str → Option Value} {base : Heap}
theorem fn3 {x qual : Str} {st : Stmt} {f : Addr} {fd : FuncData} {N ps : List Str} {k : Nat} {dvs : List V} {sp : Sp3} (FD : FunD K x qual (defArgs st) (defBody st) (defScope st) dvs [] f fd) (S : FnScope N ps (defScope st))
    (len : ∀ ds G Q E, sp ds G Q E → ds.length = ps.length)
    (hb : ∀ (cdv : Value) (A : Around) (outer : List Env) (s : Shared) (H : Hp) (E : XK) (B : Bs) (E3 : X3), Room k (A.deeper (envOfC qual (defScope st) s.heap.objs.size f cdv)) →
      Takes (cxOf (L2.CX P w) P w K mg base N qual (defScope st) f cdv A outer s H E) (lowW K B (ex3 E3)) →
      PassesOwn (model P w) (cxOf (L2.CX P w) P w K mg base N qual (defScope st) f cdv A outer s H E).A (cxOf (L2.CX P w) P w K mg base N qual (defScope st) f cdv A outer s H E).env (cxOf (L2.CX P w) P w K mg base N qual (defScope st) f cdv A outer s H E).xe →
      ∃ t, PB3 (cxOf (L2.CX P w) P w K mg base N qual (defScope st) f cdv A outer s H E) B (defBody st) t ∧ ∀ ds G Q, sp ds G Q E3 → t (ends3 Q) (start3 N ds) G) : Fk P w K mg base (k + 1) f fd ps sp := by
  refine FD.ok S (fun vs H Q E h => ?_) (fun cdv A outer s H vs Q E hr h => ?_)
  · obtain ⟨F, P0, ds, G, Q3, E3, rs, _, h, _⟩ := h
    rw [← rs.length]
    exact len _ _ _ _ h
  · obtain ⟨F, P0, ds, G, Q3, E3, rs, hh, h, hq, he⟩ := h
    obtain ⟨t, ht, hw⟩ := hb cdv A outer s H E ⟨F, P0⟩ E3 hr ((takes_of rfl rfl rfl rfl).imp fun c d τ H' z => by
      obtain ⟨F1, σ1, G1, fs, f1, _, hh1, xr, G2, hl, z⟩ := z
      exact he c d H' ⟨F1, fs, G2, f1, hh1.less hl, xr, z⟩) (passes_of rfl)
    refine ⟨_, ht, F, _, G, _, Same.refl F, rs_start rs, hh, hw ds G Q3 h, fun τ' H' z => ?_, fun v H' z => ?_, fun τ' H' z => ?_, fun τ' H' z => ?_⟩
    · obtain ⟨F1, σ1, G1, f1, _, hh1, z⟩ := z
      exact hq _ _ ⟨F1, .non, G1, f1, hh1, .non, z⟩
    · obtain ⟨F1, d1, G1, f1, hh1, r1, d2, G2, vw, z⟩ := z
      obtain ⟨F2, f2, hh2, r2⟩ := vw K F1 P0 H' v hh1 r1
      exact hq _ _ ⟨F2, d2, G2, f1.trans f2, hh2, r2, z⟩
    · obtain ⟨F1, σ1, G1, f1, _, hh1, z⟩ := z
      exact z.elim
    · obtain ⟨F1, σ1, G1, f1, _, hh1, z⟩ := z
      exact z.elim
end

/-! ### how arguments are bound -/
structure AB (K : PySem.W.Frag) (fd : FuncData) (ps : List Str) (n : Nat) (ks : List Str) (g : List D → List D → List D) : Prop where
  ex : ∃ g1 g2, KBn K fd ps n ks g1 g2 ∧ ∀ F ds vs es zs, ds.length = n → es.length = ks.length → R3s K F ds vs → R3s K F es zs → R3s K F (g ds es) (g2 vs zs)
section
variable {K : PySem.W.Frag} {x qual : Str} {st : Stmt} {dvs : List V} {f : Addr} {fd : FuncData} {ps : List Str}
theorem ab_plain (n : Nat) (h : Binds K fd ps []) (hn : ps.length = n) : AB K fd ps n [] fun ds _ => ds := by
  refine ⟨fun us _ => us, fun vs _ => vs, ⟨fun s us ws X l1 l2 => ?_, fun r _ => r⟩, fun F ds vs es zs _ _ r _ => r⟩
  have b := h s us X (by rw [List.append_nil, l1, hn])
  rw [List.append_nil] at b
  exact b
theorem ab_dflt (n j : Nat) (es : List D) (FD : FunD K x qual (defArgs st) (defBody st) (defScope st) dvs [] f fd) (hd : dvs ≠ []) (hn : n + (dvs.length - j) = ps.length) (he : ∀ F, R3s K F es (dvs.drop j))
    (h : ∀ (T : Addr) (kV doc pm : Value) (an : Option Addr) (cdv ct : Value) (us its : List Value), us.length = n → its.length = dvs.length →
      ∃ k, bindArgs (PySem.W.fnOf x qual (defArgs st) (defBody st) (defScope st) (.ref T) kV doc pm an cdv ct) ⟨us, []⟩ = seqItems? (.ref T) >>= k ∧ k (some its.toArray) = pure (ps.zip (us ++ its.drop j))) : AB K fd ps n [] fun ds _ => ds ++ es := by
  obtain ⟨ws, rw', b⟩ := FD.binds1 n j hd hn h
  refine ⟨fun us _ => us ++ ws, fun vs _ => vs ++ dvs.drop j, ⟨fun s us _ X l1 l2 => ?_, fun r _ => r.append rw'⟩, fun F ds vs _ _ _ _ r _ => r.append (he F)⟩
  have hl : (us ++ ws).length = ps.length := by
    have q := rw'.length
    rw [List.length_drop] at q
    rw [List.length_append, l1]
    omega
  exact b s us X hl
theorem ab_kw (n : Nat) (ks : List Str) (g : {α : Type} → List α → List α → List α → List α) (es : List D) (FD : FunD K x qual (defArgs st) (defBody st) (defScope st) dvs [] f fd) (hd : dvs ≠ []) (he : ∀ F, R3s K F es dvs)
    (hrel : ∀ {vs ds zs : List V} {us its ws : List Value}, Vals vs us → Vals ds its → Vals zs ws → Vals (g vs ds zs) (g us its ws))
    (hrel3 : ∀ F (vs : List V) (ds : List D) (v2 : List V) (d2 : List D) (v3 : List V) (d3 : List D), R3s K F ds vs → R3s K F d2 v2 → R3s K F d3 v3 → R3s K F (g ds d2 d3) (g vs v2 v3))
    (h : ∀ (T : Addr) (kV doc pm : Value) (an : Option Addr) (cdv ct : Value) (us its ws : List Value), us.length = n → its.length = dvs.length → ws.length = ks.length →
      ∃ k, bindArgs (PySem.W.fnOf x qual (defArgs st) (defBody st) (defScope st) (.ref T) kV doc pm an cdv ct) ⟨us, ks.zip ws⟩ = seqItems? (.ref T) >>= k ∧ k (some its.toArray) = pure (ps.zip (g us its ws))) :
    AB K fd ps n ks fun ds zs => g ds es zs := by
  obtain ⟨its, b⟩ := FD.kbindsD n ks g hd hrel h
  exact ⟨_, _, b, fun F ds vs zs ws _ _ r1 r2 => hrel3 F _ _ _ _ _ _ r1 (he F) r2⟩
end

/-! ### calls -/
def call3 (sp : Sp3) (W : W3) (n m : Nat) (g : List D → List D → List D) (ta tk : A3) : E3 := fun σ G Q => ta σ G fun ds G1 => tk σ G1 fun es G2 => (ds.length = n ∧ es.length = m) ∧ sp (g ds es) G2 Q fun c fs G' => W c fs σ G'
section
variable {X : Cx} {B : Bs} {k n : Nat} {f C : Addr} {fd : FuncData} {ps ks : List Str} {sp : Sp3} {W : W3} {g : List D → List D → List D} {x m : Str} {p pos apos : Pos} {e o : Expr} {es : List Expr} {kws : List Keyword} {ta tk : A3} {to : E3}
theorem post_ret {pins : List (Addr × Obj)} {τ : L2.St} {H : Hp} {s s' : Shared} {Q : VK} {E : XK} {r : Result} (hx : PassesAt (L2.CX X.prog X.w) X τ E) (I : Inv X pins τ H s) (h : CR (L2.CX X.prog X.w) X.stack X.prog X.w H s Q E r s') :
    wants (EP X pins τ Q) X.xe r s' := by
  cases r with
  | error er => exact hx pins H s er s' I h
  | ok fl => cases fl with
    | ret u => exact I.after h
    | _ => exact h.elim
theorem run3 {pins : List (Addr × Obj)} {τ : L2.St} {H : Hp} {s : Shared} {Q : VK} {E : XK} {g1 : List Value → List Value → List Value} {g2 : List V → List V → List V} {us ws : List Value} {vs zs : List V} {sp : Sp} (FO : FnOk X.prog X.w X.K X.mg X.base (L2.CX X.prog X.w) k f fd ps sp)
    (hr : Room k X.A) (hb : KBn X.K fd ps n ks g1 g2) (hx : PassesAt (L2.CX X.prog X.w) X τ E) (I : Inv X pins τ H s) (rv : Vals vs us) (rz : Vals zs ws) (l1 : vs.length = n) (l2 : zs.length = ks.length) (h : sp (g2 vs zs) H Q E) :
    wpAny (model X.prog X.w) X.A (call (.ref f) us (ks.zip ws)) (EP X pins τ Q) X.xe s :=
  wpAny_call (codeAny_mono (FO.run _ X.stack s H ⟨us, ks.zip ws⟩ _ _ Q E hr I.env0 (hb.to s us ws I.kIn (rv.length ▸ l1) (rz.length ▸ l2)) (hb.rel rv rz) h) fun r s' hq => post_ret hx I hq)
theorem spl {K : PySem.W.Frag} {F : Hp} {τ : L2.St} {H : Hp} {Q : VK} {σ : S3} {G : H3} {Q3 : K3} {ds : List D} {vs : List V} (hf : Same B.F F) (hs : RS K F σ τ) (hh : RH K F B.P G H) (r : R3s K F ds vs)
    (h : sp ds G Q3 fun c fs G' => W c fs σ G') (k : ∀ v H', post K F B.P Q3 v H' → Q v H') : lowSp K sp vs H Q (WE (lowW K B W) τ) :=
  ⟨F, B.P, ds, G, Q3, _, r, hh, h, k, fun c d H' ⟨F1, fs, G1, f1, hh1, xr, z⟩ => ⟨F1, σ, G1, fs, hf.trans f1, hs.mono f1, hh1, xr, z⟩⟩
theorem e_call (FO : Fk X.prog X.w X.K X.mg X.base k f fd ps sp) (hr : Room k X.A) (tk : Takes X (lowW X.K B W)) (hm : X.mg x = some (.ref f)) (hk : PySem.W.keepIn X.K (.ref f) = true) (ab : AB X.K fd ps n [] g) (ha : PA3 X B (e :: es) ta) (hg : Gl X x := by rfl)
    (hdb : (x == ("__debug__" : Str)) = false := by decide) (he : starEach (e :: es) X.env = (false, eval e X.env) :: starEach es X.env := by rfl) (hpl : (backTo pos (starEach es X.env)).any (·.1) = false := by rfl) :
    PE3 X B (.Call (.Name x p) (e :: es) [] pos) (call3 sp W n 0 g ta nil3) := ⟨fun pins s τ H Q I h => by
  obtain ⟨F, σ, G, Q3, hf, hs, hh, h, kq⟩ := h
  obtain ⟨g1, g2, kb, rel⟩ := ab.ex
  refine wpAny_Call_Name_kw (ld_glob I hg hm ?_ hdb)
  refine PySem.W.callWith_K (h₀ := X.base) I.ok.mod.kin hk (thn (ha.run pos pins s τ H _ I (lowA_run hf hs hh h fun F1 vs ds G1 H1 f1 hh1 r1 q1 => (⟨F1, ds, G1, f1, hh1, r1, q1⟩ : postA X.K F B.P _ vs H1))) fun us s1 z => ?_) he hpl
  obtain ⟨vs, H1, I1, rv, F1, ds, G1, f1, hh1, r1, ⟨l1, l2⟩, q1⟩ := z
  refine ⟨I1.kIn, ?_⟩
  exact run3 (ws := []) (zs := []) FO hr kb (passAt tk τ) I1 rv .nil (r1.length ▸ l1) rfl (spl (hf.trans f1) (hs.mono f1) hh1 (rel F1 ds vs [] [] l1 rfl r1 .nil) q1 fun v H' z => kq v H' (z.le f1))⟩
theorem e_call0 (FO : Fk X.prog X.w X.K X.mg X.base k f fd ps sp) (hr : Room k X.A) (tk : Takes X (lowW X.K B W)) (hm : X.mg x = some (.ref f)) (hk : PySem.W.keepIn X.K (.ref f) = true) (ab : AB X.K fd ps 0 [] g) (hg : Gl X x := by rfl)
    (hdb : (x == ("__debug__" : Str)) = false := by decide) : PE3 X B (.Call (.Name x p) [] [] pos) (call3 sp W 0 0 g nil3 nil3) := ⟨fun pins s τ H Q I h => by
  obtain ⟨F, σ, G, Q3, hf, hs, hh, h, kq⟩ := h
  obtain ⟨g1, g2, kb, rel⟩ := ab.ex
  refine wpAny_Call_Name_kw (ld_glob I hg hm ?_ hdb)
  exact PySem.W.callWith_K0 I.kIn hk (run3 (us := []) (vs := []) (ws := []) (zs := []) FO hr kb (passAt tk τ) I .nil .nil rfl rfl (spl hf hs hh (rel F [] [] [] [] rfl rfl .nil .nil) h.2 kq))⟩
end

/-! ### instances -/
def insOf (d : D) (G : H3) : Option (Addr × List (Str × D)) := match d with
  | .obj C fs => some (C, fs)
  | .ref a => match G a with
    | some (.ins C fs) => some (C, fs)
    | _ => none
  | _ => none
theorem insOf_rel {K : PySem.W.Frag} {F P : Hp} {G : H3} {H : Hp} {d : D} {v : V} {C : Addr} {fs : List (Str × D)} (hh : RH K F P G H) (r : R3 K F d v) (e : insOf d G = some (C, fs)) : ∃ a dx vs, v = .ref a ∧ H a = some (.ins C dx vs) ∧ RF K F fs vs := by
  cases r with
  | obj h1 h2 =>
    cases e
    exact ⟨_, _, _, rfl, hh.fz _ _ h1, h2⟩
  | ref a =>
    unfold insOf at e
    cases q : G a with
    | none => simp [q] at e
    | some o =>
      cases o with
      | ins C' fs' =>
        simp [q] at e
        obtain ⟨dx, vs, h1, h2⟩ := hh.hp _ _ q
        exact ⟨a, dx, vs, rfl, by rw [h1, e.1], by rw [← e.2]; exact h2⟩
      | _ => simp [q] at e
  | _ => cases e
/-- what the class must say of a field -/
def FldOk (K : PySem.W.Frag) (f : Str) (C : Addr) : Prop := Cls K C ∧ NoAttr K C f
def getf (cs : List Addr) (f : Str) (d : D) (G : H3) (Q : K3) : Prop := match insOf d G with
  | some (C, fs) => C ∈ cs ∧ match fs.lookup f with
    | some v => Q v G
    | none => False
  | none => False
def fld3 (cs : List Addr) (f : Str) (te : E3) : E3 := fun σ G Q => te σ G fun d G1 => getf cs f d G1 Q
/-- o.f = e: the value first -/
def sfld3 (cs : List Addr) (f : Str) (to te : E3) : T3S := fun N σ G => te σ G fun y G1 => to σ G1 fun d G2 => match d with
  | .ref a => match G2 a with
    | some (.ins C fs) => C ∈ cs ∧ fs.length < 500 ∧ N.nx σ (up G2 a (.ins C (put3 f y fs)))
    | _ => False
  | _ => False
def meth3 (C : Addr) (m : Str) (sp : Sp3) (W : W3) (n : Nat) (g : List D → List D → List D) (to : E3) (ta : A3) : E3 := fun σ G Q => to σ G fun d G1 => (∃ fs, insOf d G1 = some (C, fs) ∧ fs.lookup m = none) ∧
  ta σ G1 fun ds G2 => ds.length + 1 = n ∧ sp (g (d :: ds) []) G2 Q fun c fs G' => W c fs σ G'
/-- a new instance, a thing of the heap -/
def make3 (C : Addr) (sp : Sp3) (W : W3) (n m : Nat) (g : List D → List D → List D) (ta tk : A3) : E3 := fun σ G Q => ta σ G fun ds G1 => tk σ G1 fun es G2 => (ds.length + 1 = n ∧ es.length = m) ∧
  ∀ x, G2 x = none → sp (g (.ref x :: ds) es) (up G2 x (.ins C [])) (fun v G3 => v = .non ∧ Q (.ref x) G3) fun c fs G' => W c fs σ G'
/-- .. a value from now on -/
def mkf3 (C : Addr) (sp : Sp3) (W : W3) (n m : Nat) (g : List D → List D → List D) (ta tk : A3) : E3 := fun σ G Q => ta σ G fun ds G1 => tk σ G1 fun es G2 => (ds.length + 1 = n ∧ es.length = m) ∧
  ∀ x, G2 x = none → sp (g (.ref x :: ds) es) (up G2 x (.ins C [])) (fun v G3 => v = .non ∧ match G3 x with
    | some (.ins C fs) => Q (.obj C fs) (dn G3 x)
    | _ => False) fun c fs G' => W c fs σ G'
section
variable {X : Cx} {B : Bs} {k n : Nat} {f C : Addr} {fd : FuncData} {ps ks : List Str} {sp : Sp3} {W : W3} {g : List D → List D → List D} {x m fl : Str} {p pos apos : Pos} {e o : Expr} {es : List Expr} {kws : List Keyword} {ta tk : A3} {to te : E3} {cs : List Addr}
theorem e_fld (hc : ∀ C ∈ cs, FldOk X.K fl C) (he : PE3 X B e te) (hb : attributeBase e fl X.env (eval e X.env) = eval e X.env := by rfl) : PE3 X B (.Attribute e fl pos) (fld3 cs fl te) := (pe_fld he hb).weak fun τ H Q ⟨F, σ, G, Q3, hf, hs, hh, h, kq⟩ =>
  low_run hf hs hh h fun F1 v d G1 H1 f1 hh1 r1 q1 => by
    unfold getf at q1
    split at q1
    · rename_i C fs hi
      obtain ⟨hC, q1⟩ := q1
      split at q1
      · rename_i y hy
        obtain ⟨a, dx, vs, rfl, ha, rf⟩ := insOf_rel hh1 r1 hi
        obtain ⟨u, hu, ru⟩ := rf.lookup hy
        exact ⟨a, C, dx, vs, u, rfl, ha, (hc C hC).1, (hc C hC).2, hu, kq u H1 ⟨F1, y, G1, f1, hh1, ru, q1⟩⟩
      · exact q1.elim
    · exact q1.elim
theorem RF.small {K : PySem.W.Frag} {F : Hp} {fs : List (Str × D)} {vs : List (Str × V)} (r : RF K F fs vs) (h : fs.length < 500) : vs.length < 1000 := by
  rw [← r.length]
  omega
theorem s_fld {value : Expr} {tpos : Pos} (hc : ∀ C ∈ cs, FldOk X.K fl C) (ho : PE3 X B o to) (he : PE3 X B value te) (hs : swapsWith value (some (.Attribute o fl tpos)) pos.line X.env = pure false := by rfl) : PS3 X B (.Assign [.Attribute o fl tpos] value pos) (sfld3 cs fl to te) :=
  (ps_fld ho he hs).weak fun Ed τ H ⟨F, σ, G, N, hf, hs, hh, h, kn⟩ => low_run hf hs hh h fun F1 v y G1 H1 f1 hh1 r1 q1 => low_run (hf.trans f1) (hs.mono f1) hh1 q1 fun F2 u d G2 H2 f2 hh2 r2 q2 => by
    cases r2 with
    | ref a =>
      simp only at q2
      split at q2
      · rename_i C fs hi
        obtain ⟨hC, hl, q2⟩ := q2
        obtain ⟨dx, vs, h1, h2⟩ := hh2.hp _ _ hi
        exact ⟨a, C, dx, vs, rfl, h1, (hc C hC).1, (hc C hC).2, RF.small h2 hl, kn.nx _ _ ⟨F2, σ, _, f1.trans f2, hs.mono (f1.trans f2), hh2.put (o := .ins C (put3 fl y fs)) hi ⟨dx, _, rfl, h2.put (r1.mono f2)⟩, q2⟩⟩
      · exact q2.elim
    | _ => exact q2.elim
theorem e_meth {pl : Sem Bool} (FO : Fk X.prog X.w X.K X.mg X.base k f fd ps sp) (hr : Room k X.A) (tk : Takes X (lowW X.K B W)) (c : Cls X.K C) (hm : Meth X.K C m f) (ab : AB X.K fd ps n [] g) (ho : PE3 X B o to) (ha : PA3 X B (e :: es) ta)
    (hst : starEach (e :: es) X.env = (false, eval e X.env) :: starEach es X.env := by rfl) (hpl : (backTo pos (starEach es X.env)).any (·.1) = false := by rfl)
    (ht : eval (.Call (.Attribute o m apos) (e :: es) [] pos) X.env = (eval o X.env >>= fun ov => standAt apos.atName >>= fun _ => holding [ov] (getMethod ov m pl) >>= fun r => callWith pos r.1 r.2 (backTo pos (starEach (e :: es) X.env)) (backToKw pos (keywordEach [] X.env))) := by rfl) :
    PE3 X B (.Call (.Attribute o m apos) (e :: es) [] pos) (meth3 C m sp W n g to ta) := ⟨fun pins s τ H Q I h => by
  obtain ⟨F, σ, G, Q3, hf, hs, hh, h, kq⟩ := h
  obtain ⟨g1, g2, kb, rel⟩ := ab.ex
  refine PySem.W.methodCall_KW (pl := pl) (thn (ho.run pins s τ H _ I (low_run hf hs hh h fun F1 v d G1 H1 f1 hh1 r1 q1 => (⟨F1, d, G1, f1, hh1, r1, q1⟩ : post X.K F B.P _ v H1))) fun u s1 z => ?_) ht
  obtain ⟨v, H1, I1, rv, F1, d, G1, f1, hh1, r1, ⟨fs, hi, hl⟩, q1⟩ := z
  obtain ⟨a, dx, vs, rfl, ea, rf⟩ := insOf_rel hh1 r1 hi
  obtain rfl : u = Value.ref a := rv
  refine getmeth_ok I1 ea c hm (rf.lookup_none hl) ?_
  refine PySem.W.callWith_K (first := [.ref a]) (h₀ := X.base) I.ok.mod.kin hm.kp (thn (ha.run pos pins s1 τ H1 _ I1 (lowA_run (hf.trans f1) (hs.mono f1) hh1 q1 fun F2 vs ds G2 H2 f2 hh2 r2 q2 => (⟨F2, ds, G2, f2, hh2, r2, q2⟩ : postA X.K F1 B.P _ vs H2))) fun us s2 z => ?_) hst hpl
  obtain ⟨vs2, H2, I2, rv2, F2, ds, G2, f2, hh2, r2, l1, q2⟩ := z
  refine ⟨I2.kIn, ?_⟩
  have f12 := f1.trans f2
  exact run3 (us := .ref a :: us) (vs := .ref a :: vs2) (ws := []) (zs := []) FO hr kb (passAt tk τ) I2 (.cons rfl rv2) .nil (by rw [List.length_cons, ← r2.length]; exact l1) rfl
    (spl (hf.trans f12) (hs.mono f12) hh2 (rel F2 (d :: ds) _ [] [] (by rw [List.length_cons]; exact l1) rfl (.cons (r1.mono f2) r2) .nil) q2 fun v H' z => kq v H' (z.le f12))⟩
theorem e_meth0 {pl : Sem Bool} (FO : Fk X.prog X.w X.K X.mg X.base k f fd ps sp) (hr : Room k X.A) (tk : Takes X (lowW X.K B W)) (c : Cls X.K C) (hm : Meth X.K C m f) (ab : AB X.K fd ps n [] g) (ho : PE3 X B o to)
    (ht : eval (.Call (.Attribute o m apos) [] [] pos) X.env = (eval o X.env >>= fun ov => standAt apos.atName >>= fun _ => holding [ov] (getMethod ov m pl) >>= fun r => callWith pos r.1 r.2 (backTo pos (starEach [] X.env)) (backToKw pos (keywordEach [] X.env))) := by rfl) :
    PE3 X B (.Call (.Attribute o m apos) [] [] pos) (meth3 C m sp W n g to nil3) := ⟨fun pins s τ H Q I h => by
  obtain ⟨F, σ, G, Q3, hf, hs, hh, h, kq⟩ := h
  obtain ⟨g1, g2, kb, rel⟩ := ab.ex
  refine PySem.W.methodCall_KW (pl := pl) (thn (ho.run pins s τ H _ I (low_run hf hs hh h fun F1 v d G1 H1 f1 hh1 r1 q1 => (⟨F1, d, G1, f1, hh1, r1, q1⟩ : post X.K F B.P _ v H1))) fun u s1 z => ?_) ht
  obtain ⟨v, H1, I1, rv, F1, d, G1, f1, hh1, r1, ⟨fs, hi, hl⟩, l1, q1⟩ := z
  obtain ⟨a, dx, vs, rfl, ea, rf⟩ := insOf_rel hh1 r1 hi
  obtain rfl : u = Value.ref a := rv
  refine getmeth_ok I1 ea c hm (rf.lookup_none hl) ?_
  exact PySem.W.callWith_K0 (first := [.ref a]) I1.kIn hm.kp (run3 (us := [.ref a]) (vs := [.ref a]) (ws := []) (zs := []) FO hr kb (passAt tk τ) I1 (.cons rfl .nil) .nil l1 rfl
    (spl (hf.trans f1) (hs.mono f1) hh1 (rel F1 [d] _ [] [] l1 rfl (.cons r1 .nil) .nil) q1 fun v H' z => kq v H' (z.le f1)))⟩
/-- an object that nobody names -/
theorem RH.junk {K : PySem.W.Frag} {F P : Hp} {G : H3} {H : Hp} {p : Addr} {u : HO} (r : RH K F P G H) (hp : H p = none) : RH K F P G (upd H p u) := by
  have fp := r.freeF hp
  have gp := r.free hp
  have pp := r.freeP hp
  refine ⟨fun a y e => ?_, r.ap, fun a y e => ?_, fun a y e => ?_, r.pf⟩
  · rw [upd_ne (fun z => by rw [z, fp] at e; cases e)]
    exact r.fz a y e
  · rw [upd_ne (fun z => by rw [z, gp] at e; cases e)]
    exact r.hp a y e
  · rw [upd_ne (fun z => by rw [z, pp] at e; cases e)]
    exact r.pn a y e
theorem runmk {pins : List (Addr × Obj)} {τ : L2.St} {H : Hp} {s : Shared} {Q : VK} {E : XK} {g1 : List Value → List Value → List Value} {g2 : List V → List V → List V} {us ws : List Value} {vs zs : List V} {sp : Sp} (M : Mk X.K C f)
    (FO : FnOk X.prog X.w X.K X.mg X.base (L2.CX X.prog X.w) k f fd ps sp) (hr : Room (k + 1) X.A) (kb : KBn X.K fd ps n ks g1 g2) (hx : PassesAt (L2.CX X.prog X.w) X τ E) (I : Inv X pins τ H s) (rv : Vals vs us) (rz : Vals zs ws) (l1 : vs.length + 1 = n) (l2 : zs.length = ks.length)
    (h : ∀ y dx, H y = none → H dx = none → dx ≠ y → sp (g2 (.ref y :: vs) zs) (upd (upd H dx (.own y)) y (.ins C dx [])) (fun v H2 => v = .non ∧ Q (.ref y) H2) E) : wpAny (model X.prog X.w) X.A (call (.ref C) us (ks.zip ws)) (EP X pins τ Q) X.xe s := by
  have J := Inv.made (C := C) I
  have d0 := h _ _ (I.hok.fresh (Nat.le_succ s.heap.objs.size)) (I.hok.fresh (Nat.le_refl s.heap.objs.size)) (Nat.ne_of_lt (Nat.lt_succ_self _))
  have rr : Vals (V.ref (s.heap.objs.size + 1) :: vs) (Value.ref (s.heap.objs.size + 1) :: us) := .cons rfl rv
  refine wpAny_call (make_map (f := f) I.kIn M.makes M.init (beq_iff_eq.mp M.fn) (codeAny_mono (FO.run _ X.stack _ _ _ _ _ _ E (hr.make C us (ks.zip ws)) (J.env0.make C us (ks.zip ws))
    (kb.to _ _ ws J.kIn (rr.length.symm.trans l1) (rz.length.symm.trans l2)) (kb.rel rr rz) d0) fun r s' z => ?_))
  have z2 := post_ret hx J z
  cases r with
  | error er => exact z2
  | ok fl => cases fl with
    | ret u =>
      obtain ⟨v, H', I3, rv, ev, q3⟩ := z2
      subst ev
      exact ⟨rv, V.ref (s.heap.objs.size + 1), H', I3, rfl, q3⟩
    | _ => exact z2.elim
end
end T3

namespace T3
open PySem PySem.Spec PyProof.Rows L2

abbrev PK3 (X : Cx) (B : Bs) (e : List Keyword) (t : A3) : Prop := PK X e (lowA X.K B t)
theorem _root_.L2.PK.weak {X : Cx} {e : List Keyword} {t t' : TA} (h : PK X e t) (w : ∀ τ H Q, t' τ H Q → t τ H Q) : PK X e t' := ⟨fun pos pins s τ H Q I q => h.run pos pins s τ H Q I (w τ H Q q)⟩
section
variable {X : Cx} {B : Bs} {k n : Nat} {f C : Addr} {fd : FuncData} {ps ks : List Str} {sp : Sp3} {W : W3} {g : List D → List D → List D} {x m fl : Str} {p pos apos kpos : Pos} {e o : Expr} {es : List Expr} {kws : List Keyword} {ta tk : A3} {to te : E3} {nm : Option Str}
theorem k_nil : PK3 X B [] nil3 := pk_nil.weak fun τ H Q ⟨F, σ, G, Q3, hf, hs, hh, h, k⟩ => k [] H ⟨F, [], G, Same.refl F, hh, .nil, h⟩
theorem k_cons (ha : PE3 X B e te) (hr : PK3 X B kws tk) : PK3 X B (⟨nm, e, kpos⟩ :: kws) (cons3 te tk) := (pk_cons ha hr).weak fun τ H Q ⟨F, σ, G, Q3, hf, hs, hh, h, k⟩ =>
  low_run hf hs hh h fun F1 v d G1 H1 f1 hh1 r1 q1 => lowA_run (hf.trans f1) (hs.mono f1) hh1 q1 fun F2 vs ds G2 H2 f2 hh2 r2 q2 => k _ H2 ⟨F2, _, G2, f1.trans f2, hh2, .cons (r1.mono f2) r2, q2⟩
/-- the heart of C(..) -/
theorem mk_at {F2 : Hp} {g1 : List Value → List Value → List Value} {g2 : List V → List V → List V} {pins : List (Addr × Obj)} {τ : L2.St} {H2 : Hp} {s : Shared} {Q : VK} {σ : S3} {G2 : H3} {R3' : K3} {us ws : List Value} {vs zs : List V} {ds es : List D}
    (M : Mk X.K C f) (FO : Fk X.prog X.w X.K X.mg X.base k f fd ps sp) (hr : Room (k + 1) X.A) (tk' : Takes X (lowW X.K B W)) (kb : KBn X.K fd ps n ks g1 g2)
    (rel : ∀ F ds vs es zs, ds.length = n → es.length = ks.length → R3s X.K F ds vs → R3s X.K F es zs → R3s X.K F (g ds es) (g2 vs zs)) (I : Inv X pins τ H2 s) (rv : Vals vs us) (rz : Vals zs ws) (hf : Same B.F F2) (hs : RS X.K F2 σ τ) (hh : RH X.K F2 B.P G2 H2)
    (r1 : R3s X.K F2 ds vs) (r2 : R3s X.K F2 es zs) (l1 : ds.length + 1 = n) (l2 : es.length = ks.length)
    (h : ∀ y, G2 y = none → sp (g (.ref y :: ds) es) (up G2 y (.ins C [])) (fun v G3 => v = .non ∧ R3' (.ref y) G3) fun c fs G' => W c fs σ G')
    (hR : ∀ y F' G' H', Same F2 F' → RH X.K F' B.P G' H' → R3' (.ref y) G' → Q (.ref y) H') : wpAny (model X.prog X.w) X.A (call (.ref C) us (ks.zip ws)) (EP X pins τ Q) X.xe s := by
  refine runmk M FO hr kb (passAt tk' τ) I rv rz (by rw [← r1.length]; exact l1) (by rw [← r2.length]; exact l2) fun y dx hy hdx ne => ?_
  have j1 := hh.junk (p := dx) (u := .own y) hdx
  have j2 := j1.new (p := y) (o := .ins C []) (u := .ins C dx []) (by rw [upd_ne (Ne.symm ne)]; exact hy) ⟨dx, [], rfl, .nil⟩
  refine spl hf hs j2 (rel F2 (.ref y :: ds) _ es zs (by rw [List.length_cons]; exact l1) l2 (.cons (.ref y) r1) r2) (h y (hh.free hy)) fun v H' z => ?_
  obtain ⟨F', d, G', f', hh', r', ed, q⟩ := z
  subst ed
  cases r'
  exact ⟨rfl, hR y F' G' H' f' hh' q⟩
theorem e_make (M : Mk X.K C f) (FO : Fk X.prog X.w X.K X.mg X.base k f fd ps sp) (hr : Room (k + 1) X.A) (tk' : Takes X (lowW X.K B W)) (hm : X.mg x = some (.ref C)) (ab : AB X.K fd ps n [] g) (ha : PA3 X B (e :: es) ta) (hg : Gl X x := by rfl)
    (hdb : (x == ("__debug__" : Str)) = false := by decide) (he : starEach (e :: es) X.env = (false, eval e X.env) :: starEach es X.env := by rfl) (hpl : (backTo pos (starEach es X.env)).any (·.1) = false := by rfl) :
    PE3 X B (.Call (.Name x p) (e :: es) [] pos) (make3 C sp W n 0 g ta nil3) := ⟨fun pins s τ H Q I h => by
  obtain ⟨F, σ, G, Q3, hf, hs, hh, h, kq⟩ := h
  obtain ⟨g1, g2, kb, rel⟩ := ab.ex
  refine wpAny_Call_Name_kw (ld_glob I hg hm ?_ hdb)
  refine PySem.W.callWith_K (h₀ := X.base) I.ok.mod.kin M.kp (thn (ha.run pos pins s τ H _ I (lowA_run hf hs hh h fun F1 vs ds G1 H1 f1 hh1 r1 q1 => (⟨F1, ds, G1, f1, hh1, r1, q1⟩ : postA X.K F B.P _ vs H1))) fun us s1 z => ?_) he hpl
  obtain ⟨vs, H1, I1, rv, F1, ds, G1, f1, hh1, r1, ⟨l1, l2⟩, q1⟩ := z
  refine ⟨I1.kIn, ?_⟩
  exact mk_at (ws := []) (zs := []) M FO hr tk' kb rel I1 rv .nil (hf.trans f1) (hs.mono f1) hh1 r1 .nil l1 rfl q1 fun y F' G' H' f' hh' q => kq _ _ ⟨F', _, G', f1.trans f', hh', .ref y, q⟩⟩
theorem e_make0 (M : Mk X.K C f) (FO : Fk X.prog X.w X.K X.mg X.base k f fd ps sp) (hr : Room (k + 1) X.A) (tk' : Takes X (lowW X.K B W)) (hm : X.mg x = some (.ref C)) (ab : AB X.K fd ps n [] g) (hg : Gl X x := by rfl)
    (hdb : (x == ("__debug__" : Str)) = false := by decide) : PE3 X B (.Call (.Name x p) [] [] pos) (make3 C sp W n 0 g nil3 nil3) := ⟨fun pins s τ H Q I h => by
  obtain ⟨F, σ, G, Q3, hf, hs, hh, h, kq⟩ := h
  obtain ⟨g1, g2, kb, rel⟩ := ab.ex
  refine wpAny_Call_Name_kw (ld_glob I hg hm ?_ hdb)
  exact PySem.W.callWith_K0 I.kIn M.kp (mk_at (us := []) (vs := []) (ws := []) (zs := []) M FO hr tk' kb rel I .nil .nil hf hs hh .nil .nil h.1.1 rfl h.2 fun y F' G' H' f' hh' q => kq _ _ ⟨F', _, G', f', hh', .ref y, q⟩)⟩
theorem e_maken (M : Mk X.K C f) (FO : Fk X.prog X.w X.K X.mg X.base k f fd ps sp) (hr : Room (k + 1) X.A) (tk' : Takes X (lowW X.K B W)) (hm : X.mg x = some (.ref C)) (ab : AB X.K fd ps n ks g) (ha : PA3 X B (e :: es) ta) (hkw : PK3 X B kws tk) (hg : Gl X x := by rfl)
    (hall : (backToKw pos (keywordEach kws X.env)).all (·.1.isSome) = true := by rfl) (hks : (backToKw pos (keywordEach kws X.env)).filterMap (·.1) = ks := by rfl)
    (hdb : (x == ("__debug__" : Str)) = false := by decide) (he : starEach (e :: es) X.env = (false, eval e X.env) :: starEach es X.env := by rfl)
    (hpl : ((backTo pos (starEach (e :: es) X.env)).any (·.1) || (backToKw pos (keywordEach kws X.env)).any (·.1.isNone)) = false := by rfl) :
    PE3 X B (.Call (.Name x p) (e :: es) kws pos) (make3 C sp W n ks.length g ta tk) := ⟨fun pins s τ H Q I h => by
  obtain ⟨F, σ, G, Q3, hf, hs, hh, h, kq⟩ := h
  obtain ⟨g1, g2, kb, rel⟩ := ab.ex
  refine wpAny_Call_Name_kw (ld_glob I hg hm ?_ hdb)
  refine PySem.W.callWith_KW (h₀ := X.base) I.ok.mod.kin M.kp hall (thn (ha.run pos pins s τ H _ I (lowA_run hf hs hh h fun F1 vs ds G1 H1 f1 hh1 r1 q1 => (⟨F1, ds, G1, f1, hh1, r1, q1⟩ : postA X.K F B.P _ vs H1))) fun us s1 z => ?_) hpl he
  obtain ⟨vs, H1, I1, rv, F1, ds, G1, f1, hh1, r1, q1⟩ := z
  refine thn (hkw.run pos pins s1 τ H1 _ I1 (lowA_run (hf.trans f1) (hs.mono f1) hh1 q1 fun F2 vs ds G2 H2 f2 hh2 r2 q2 => (⟨F2, ds, G2, f2, hh2, r2, q2⟩ : postA X.K F1 B.P _ vs H2))) fun ws s2 z => ?_
  obtain ⟨zs, H2, I2, rz, F2, es', G2, f2, hh2, r2, ⟨l1, l2⟩, q2⟩ := z
  refine ⟨I2.kIn, ?_⟩
  rw [hks]
  have f12 := f1.trans f2
  exact mk_at M FO hr tk' kb rel I2 rv rz (hf.trans f12) (hs.mono f12) hh2 (r1.mono f2) r2 l1 l2 q2 fun y F' G' H' f' hh' q => kq _ _ ⟨F', _, G', f12.trans f', hh', .ref y, q⟩⟩
theorem e_makek (M : Mk X.K C f) (FO : Fk X.prog X.w X.K X.mg X.base k f fd ps sp) (hr : Room (k + 1) X.A) (tk' : Takes X (lowW X.K B W)) (hm : X.mg x = some (.ref C)) (ab : AB X.K fd ps n ks g) (hkw : PK3 X B kws tk) (hg : Gl X x := by rfl)
    (hall : (backToKw pos (keywordEach kws X.env)).all (·.1.isSome) = true := by rfl) (hks : (backToKw pos (keywordEach kws X.env)).filterMap (·.1) = ks := by rfl) (hdb : (x == ("__debug__" : Str)) = false := by decide)
    (hpl : ((backTo pos (starEach [] X.env)).any (·.1) || (backToKw pos (keywordEach kws X.env)).any (·.1.isNone)) = false := by rfl) :
    PE3 X B (.Call (.Name x p) [] kws pos) (make3 C sp W n ks.length g nil3 tk) := ⟨fun pins s τ H Q I h => by
  obtain ⟨F, σ, G, Q3, hf, hs, hh, h, kq⟩ := h
  obtain ⟨g1, g2, kb, rel⟩ := ab.ex
  refine wpAny_Call_Name_kw (ld_glob I hg hm ?_ hdb)
  refine PySem.W.callWith_KW0 (h₀ := X.base) I.ok.mod.kin M.kp hall ?_ hpl
  refine thn (hkw.run pos pins s τ H _ I (lowA_run hf hs hh h fun F2 vs ds G2 H2 f2 hh2 r2 q2 => (⟨F2, ds, G2, f2, hh2, r2, q2⟩ : postA X.K F B.P _ vs H2))) fun ws s2 z => ?_
  obtain ⟨zs, H2, I2, rz, F2, es', G2, f2, hh2, r2, ⟨l1, l2⟩, q2⟩ := z
  refine ⟨I2.kIn, ?_⟩
  rw [hks]
  exact mk_at (us := []) (vs := []) M FO hr tk' kb rel I2 .nil rz (hf.trans f2) (hs.mono f2) hh2 .nil r2 l1 l2 q2 fun y F' G' H' f' hh' q => kq _ _ ⟨F', _, G', f2.trans f', hh', .ref y, q⟩⟩
/-- f(.., k = v, ..) -/
theorem e_callk (FO : Fk X.prog X.w X.K X.mg X.base k f fd ps sp) (hr : Room k X.A) (tk' : Takes X (lowW X.K B W)) (hm : X.mg x = some (.ref f)) (hk : PySem.W.keepIn X.K (.ref f) = true) (ab : AB X.K fd ps n ks g) (ha : PA3 X B (e :: es) ta) (hkw : PK3 X B kws tk) (hg : Gl X x := by rfl)
    (hall : (backToKw pos (keywordEach kws X.env)).all (·.1.isSome) = true := by rfl) (hks : (backToKw pos (keywordEach kws X.env)).filterMap (·.1) = ks := by rfl)
    (hdb : (x == ("__debug__" : Str)) = false := by decide) (he : starEach (e :: es) X.env = (false, eval e X.env) :: starEach es X.env := by rfl)
    (hpl : ((backTo pos (starEach (e :: es) X.env)).any (·.1) || (backToKw pos (keywordEach kws X.env)).any (·.1.isNone)) = false := by rfl) :
    PE3 X B (.Call (.Name x p) (e :: es) kws pos) (call3 sp W n ks.length g ta tk) := ⟨fun pins s τ H Q I h => by
  obtain ⟨F, σ, G, Q3, hf, hs, hh, h, kq⟩ := h
  obtain ⟨g1, g2, kb, rel⟩ := ab.ex
  refine wpAny_Call_Name_kw (ld_glob I hg hm ?_ hdb)
  refine PySem.W.callWith_KW (h₀ := X.base) I.ok.mod.kin hk hall (thn (ha.run pos pins s τ H _ I (lowA_run hf hs hh h fun F1 vs ds G1 H1 f1 hh1 r1 q1 => (⟨F1, ds, G1, f1, hh1, r1, q1⟩ : postA X.K F B.P _ vs H1))) fun us s1 z => ?_) hpl he
  obtain ⟨vs, H1, I1, rv, F1, ds, G1, f1, hh1, r1, q1⟩ := z
  refine thn (hkw.run pos pins s1 τ H1 _ I1 (lowA_run (hf.trans f1) (hs.mono f1) hh1 q1 fun F2 vs ds G2 H2 f2 hh2 r2 q2 => (⟨F2, ds, G2, f2, hh2, r2, q2⟩ : postA X.K F1 B.P _ vs H2))) fun ws s2 z => ?_
  obtain ⟨zs, H2, I2, rz, F2, es', G2, f2, hh2, r2, ⟨l1, l2⟩, q2⟩ := z
  refine ⟨I2.kIn, ?_⟩
  rw [hks]
  have f12 := f1.trans f2
  exact run3 FO hr kb (passAt tk' τ) I2 rv rz (r1.length ▸ l1) (r2.length ▸ l2) (spl (hf.trans f12) (hs.mono f12) hh2 (rel F2 ds vs es' zs l1 l2 (r1.mono f2) r2) q2 fun v H' z => kq v H' (z.le f12))⟩
end

/-! ### a new thing is looked at as a value -/
def frzk (Q : K3) : K3 := fun d G => match d with
  | .ref y => match G y with
    | some (.ins C fs) => Q (.obj C fs) (dn G y)
    | some (.lst xs) => Q (.lst xs) (dn G y)
    | _ => False
  | _ => False
def frz3 (t : E3) : E3 := fun σ G Q => t σ G (frzk Q)
theorem e_frz {X : Cx} {B : Bs} {e : Expr} {t : E3} (h : PE3 X B e t) : PE3 X B e (frz3 t) := h.weak fun τ H Q ⟨F, σ, G, Q3, hf, hs, hh, h, k⟩ =>
  ⟨F, σ, G, frzk Q3, hf, hs, hh, h, fun v H' z => by
    obtain ⟨F1, d, G1, f1, hh1, r1, q1⟩ := z
    cases r1 with
    | ref y =>
      unfold frzk at q1
      simp only at q1
      split at q1
      · rename_i C fs hy
        obtain ⟨F2, f2, hh2, r2⟩ := View.obj hy X.K F1 B.P H' (.ref y) hh1 (.ref y)
        exact k _ _ ⟨F2, _, _, f1.trans f2, hh2, r2, q1⟩
      · rename_i xs hy
        obtain ⟨F2, f2, hh2, r2⟩ := View.lst hy X.K F1 B.P H' (.ref y) hh1 (.ref y)
        exact k _ _ ⟨F2, _, _, f1.trans f2, hh2, r2, q1⟩
      · exact q1.elim
    | _ => exact q1.elim⟩

/-! ### an own exception class over ValueError, with one field -/
/-- what its __init__ promises -/
def spExc (C : Addr) (fl : Str) : Sp := fun vs H Q _ => ∃ (a : Addr) (v : V), vs = [.ref a, v] ∧ H a = some (exo a C none) ∧ ∀ dx, H dx = none → dx ≠ a → Q .non (upd (upd H dx (exd dx [(fl, v)])) a (exo a C (some dx)))
/-- what the class says -/
structure XC (P : Program) (w : World) (K : PySem.W.Frag) (mg : Str → Option Value) (base : Heap) (C : Addr) (fl : Str) (fI : Addr) (fd : FuncData) (ps : List Str) : Prop where
  cl : OexC K C
  iC : PySem.W.findIn K (.ref C) "__init__" = some (some (.ref fI))
  tI : PySem.W.typeIn K (.ref fI) = some (.type "function")
  fo : FnOk P w K mg base (L2.CX P w) 1 fI fd ps (spExc C fl)
  bi : Binds K fd ps []
def raise3 (C : Addr) (fl : Str) (W : W3) (ta : A3) : T3S := fun _ σ G => ta σ G fun ds G1 => match ds with
  | [d] => W (.ref C) [(fl, d)] σ G1
  | _ => False
theorem exc_heap {H1 : Hp} {a dx : Addr} {o1 o2 o3 o4 : HO} (ha : H1 a = none) (ne : dx ≠ a) : upd (del (upd (upd (upd H1 a o1) dx o2) a o3) a) dx o4 = upd H1 dx o4 := by
  funext b
  by_cases h : b = dx
  · rw [h, upd_same, upd_same]
  · rw [upd_ne h, upd_ne h]
    by_cases h2 : b = a
    · rw [h2, del_same, ha]
    · rw [del_ne h2, upd_ne h2, upd_ne h, upd_ne h2]
theorem s_raise {X : Cx} {B : Bs} {C fI : Addr} {fl x : Str} {fd : FuncData} {ps : List Str} {W : W3} {e : Expr} {ta : A3} {p pos pos2 : Pos} (hc : X.calm = true) (xc : XC X.prog X.w X.K X.mg X.base C fl fI fd ps) (hr : Room 2 X.A) (tk : Takes X (lowW X.K B W)) (hm : X.mg x = some (.ref C))
    (ha : PA3 X B [e] ta) (hg : Gl X x := by rfl) (hdb : (x == ("__debug__" : Str)) = false := by decide) (he : starEach (e :: []) X.env = (false, eval e X.env) :: starEach [] X.env := by rfl) (hpl : (backTo pos (starEach [] X.env)).any (·.1) = false := by rfl) :
    PS3 X B (.Raise (some (.Call (.Name x p) [e] [] pos)) none pos2) (raise3 C fl W ta) :=
  (ps_raise hc tk (pmk_oex (dvs := []) (ds := []) xc.cl xc.iC xc.tI xc.fo hr xc.bi .nil passL hg hm ha hdb he hpl)).weak fun Ed τ H ⟨F, σ, G, N, hf, hs, hh, h, kn⟩ => by
    refine lowA_run hf hs hh h fun F1 vs ds G1 H1 f1 hh1 r1 q1 => ?_
    cases r1 with
    | nil => exact q1.elim
    | cons d1 r1 => cases r1 with
      | cons _ _ => exact q1.elim
      | nil =>
        refine ⟨by simp, fun a ha => ⟨a, _, rfl, upd_same, fun dx hdx ne => ⟨rfl, dx, _, upd_same, by rw [upd_ne ne]; exact upd_same, ?_, ?_⟩⟩⟩
        · rw [upd_ne ne] at hdx
          exact hdx
        · rw [upd_ne ne] at hdx
          rw [exc_heap ha ne]
          obtain ⟨e1, hh2⟩ := hh1.frz (u := .xd [(fl, _)]) hdx
          exact ⟨_, σ, G1, _, hf.trans (f1.trans e1), hs.mono (f1.trans e1), hh2, ⟨_, upd_same, .cons (d1.mono e1) .nil⟩, q1⟩
end T3

namespace T3
open PySem PySem.Spec PyProof.Rows L2

/-! ### try: clauses with and without a name -/
structure Hd where
  c : Value
  sl : Option Nat
  ts : Addr → Value → Option Addr → TS
def outOf (i : Nat) (Ed : Ends) : Ends := { nx := fun τ H => Ed.nx (τ.set i none) H, rt := Ed.rt, bk := fun τ H => Ed.bk (τ.set i none) H, ct := fun τ H => Ed.ct (τ.set i none) H }
def inSuite (hd : Hd) (a : Addr) (cls : Value) (d : Option Addr) (Ed : Ends) (τ : L2.St) (H : Hp) : Prop := match hd.sl with
  | none => hd.ts a cls d Ed τ H
  | some i => hd.ts a cls d (outOf i Ed) (τ.set i (some (.ref a))) H
def wTry (K : PySem.W.Frag) (Wo : WX) (Ed : Ends) : List Hd → WX
  | [] => Wo
  | hd :: r => fun cls d τ H => ∃ b, PySem.W.exmOne K cls hd.c = some b ∧ (b = true → ∀ a, H a = none → inSuite hd a cls d Ed τ H) ∧ (b = false → wTry K Wo Ed r cls d τ H)
inductive TryOk (X : Cx) : List ExceptHandler → List Hd → Prop
  | nil : TryOk X [] []
  | plain {x : Str} {c : Value} {ts : Addr → Value → Option Addr → TS} {b : Stmt} {bs : List Stmt} {p1 p2 : Pos} {hds : List ExceptHandler} {l : List Hd} (hc : Names X x c)
      (hs : ∀ (a : Addr) (oe : Obj) (cls : Value) (d : Option Addr) (pn : List (Addr × Obj)), Zc cls d oe → (∃ vs, oe.data = .fields vs) → PSs (X.suite a ((a, oe) :: pn)) (b :: bs) (ts a cls d)) (r : TryOk X hds l) :
      TryOk X (.ExceptHandler (some (.Name x p1)) none (b :: bs) p2 :: hds) (⟨c, none, ts⟩ :: l)
  | named {x n : Str} {i : Nat} {c : Value} {ts : Addr → Value → Option Addr → TS} {b : Stmt} {bs : List Stmt} {p1 p2 : Pos} {hds : List ExceptHandler} {l : List Hd} (hc : Names X x c) (hN : X.N.Nodup) (hi : X.N[i]? = some n) (hl : X.env.kindOf n = some .local)
      (hs : ∀ (a : Addr) (oe : Obj) (cls : Value) (d : Option Addr) (pn : List (Addr × Obj)), Zc cls d oe → (∃ vs, oe.data = .fields vs) → PSs (X.suite a ((a, oe) :: pn)) (b :: bs) (ts a cls d)) (r : TryOk X hds l) :
      TryOk X (.ExceptHandler (some (.Name x p1)) (some n) (b :: bs) p2 :: hds) (⟨c, some i, ts⟩ :: l)
section
variable {X : Cx} {body : List Stmt} {h0 : ExceptHandler} {hds : List ExceptHandler} {l : List Hd} {pos : Pos} {tb : WX → TS} {Wo : WX}
theorem try_land {pins : List (Addr × Obj)} {τ : L2.St} {H : Hp} {s' : Shared} {Ed : Ends} {a : Addr} {B : Heap} {sI : Shared} {cls : Value} {d : Option Addr} (hsk : X.stack = X.env :: X.outer) (hf : X.env.frame = some X.env.locals) (tk : Takes X Wo)
    (ok : X.Ok) (J : Inv X pins τ H sI) (nb : ∀ b o, sI.heap.get? b = some o → b ∉ frs X.stack → B.get? b = some o) (up : sI.heap.UpToSlots s'.heap) (fl : HandSPX.FlyingZ B (X.env :: X.outer) a (Zc cls d) s'.heap) (na : H a = none) (os : s'.os = sI.os) (ag : AllBare s'.gens) :
    ∀ {hs : List ExceptHandler} {l : List Hd}, TryOk X hs l → wTry X.K Wo Ed l cls d τ H → wpAny (model X.prog X.w) X.A (handleBy (.ref a) X.env hs) (SP X pins Ed) X.xe s' := by
  have J3 : Inv X pins τ H s' := J.landed nb fl.1 up os ag
  obtain ⟨oe, vs, he, hz, hd⟩ := fl.there
  have off : ∀ {o : Obj} {vs : Array Value}, s'.heap.get? a = some o → o.data = .fields vs → a ∉ frs (X.env :: X.outer) := fun {o vs} e dd hm => by
    obtain ⟨_, o2, e2, hnf⟩ := fl.2.2.1.mem hm
    rw [e] at e2
    cases e2
    exact hnf _ dd
  have nfr := off he hd
  have nL : a ≠ X.env.locals := fun z => nfr (List.mem_filterMap.mpr ⟨X.env, List.mem_cons_self, by rw [hf, z]⟩)
  have nF : a ∉ X.fs := fun hm => by
    obtain ⟨e, h1, h2⟩ := List.mem_filterMap.mp hm
    exact nfr (List.mem_filterMap.mpr ⟨e, List.mem_cons_of_mem _ h1, h2⟩)
  have S3 := J3.suite he hd na nL nF
  have LT : PySem.W.Looks (model X.prog X.w) s'.heap (typeOf (.ref a)) cls := fun A Q E s2 k q => wpAny_typeOf_ref (k _ _ he) (by rw [hz.1]; exact q)
  have test : ∀ {x : Str} {c : Value} {p : Pos} {Q E : Value → Shared → Prop}, Names X x c → Q c s' → wpAny (model X.prog X.w) (X.A.mark (some (.ref a))) (eval (.Name x p) X.env) Q E s' := fun {x c p Q E} hc q => by
    obtain ⟨hg, hdb, hm | ⟨hm, hv, hnn⟩⟩ := hc
    · exact ld_glob (X := X.suite a ((a, oe) :: (X.pn ++ pins))) S3 hg hm q hdb
    · exact ld_blt (X := X.suite a ((a, oe) :: (X.pn ++ pins))) S3 hg hm hv q hnn hdb
  intro hs l hk
  induction hk with
  | nil =>
    intro w
    obtain ⟨_, _, _, oe, vs, T, _, _, he, _, hd, h1, _⟩ := id fl
    refine wpAny_handleBy_nil ?_
    unfold PySem.passOn
    refine wpAny_bind (wpAny_field he hd h1 ?_)
    rw [if_neg (show ¬ ((Value.ref T == Value.none) = true) from by simp)]
    have last : wpAny (model X.prog X.w) X.A (setFlight (.ref a) X.env.frame) (fun _ s4 => wpAny (model X.prog X.w) X.A (throw (.ref a) : Sem Flow) (SP X pins Ed) X.xe s4) X.xe s' := by
      rw [hf]
      exact HandSPX.setFlight_upZ fl fun h4 hh4 up4 => wpAny_throw (tk _ _ ⟨a, B, sI, pins, τ, H, cls, d, rfl, J, nb, up.trans up4, .inr (.inr (by rw [hsk]; exact hh4)), na, os, ag, w⟩)
    first
      | exact wpAny_bind (wpAny_pure (wpAny_bind last))
      | exact wpAny_bind last
  | @plain x c ts b bs p1 p2 hds2 l2 hc hsu r ih =>
    intro w
    obtain ⟨b1, hb1, hy, hn⟩ := w
    refine wpAny_handleBy_cons (codeAny_handlers_test ?_) (by intro q; cases q)
    refine test hc ((PySem.W.exm_one (M := model X.prog X.w) J3.kIn LT hb1).here ?_)
    cases b1 with
    | false => exact ih (hn rfl)
    | true =>
      refine codeAny_handlers_suite ?_
      refine HandSPX.lands_againZ fl fun h4 fl4 up4 => ?_
      have J4 : Inv X pins τ H { s' with heap := h4 } := J.landed nb fl4.1 (up.trans up4) os ag
      obtain ⟨oe4, vs4, he4, hz4, hd4⟩ := fl4.there
      have S4 := J4.suite he4 hd4 na nL nF
      refine wpAny_mono ((hsu a oe4 cls d (X.pn ++ pins) hz4 ⟨_, hd4⟩).run [] _ _ H Ed S4 (hy rfl a na)) (fun f s6 z => ?_) fun _ _ z => z.elim
      cases f with
      | ret u => exact let ⟨v6, τ6, H6, S6, r6, q6⟩ := z; ⟨v6, τ6, H6, S6.unsuite ok, r6, q6⟩
      | next => exact let ⟨τ6, H6, S6, q6⟩ := z; ⟨τ6, H6, S6.unsuite ok, q6⟩
      | brk => exact let ⟨τ6, H6, S6, q6⟩ := z; ⟨τ6, H6, S6.unsuite ok, q6⟩
      | cont => exact let ⟨τ6, H6, S6, q6⟩ := z; ⟨τ6, H6, S6.unsuite ok, q6⟩
  | @named x n i c ts b bs p1 p2 hds2 l2 hc hN hi hl hsu r ih =>
    intro w
    obtain ⟨b1, hb1, hy, hn⟩ := w
    refine wpAny_handleBy_cons (codeAny_handlers_test ?_) (by intro q; cases q)
    refine test hc ((PySem.W.exm_one (M := model X.prog X.w) J3.kIn LT hb1).here ?_)
    cases b1 with
    | false => exact ih (hn rfl)
    | true =>
      refine codeAny_handlers_suite_as ?_
      refine HandSPX.lands_againZ fl fun h4 fl4 up4 => ?_
      have J4 : Inv X pins τ H { s' with heap := h4 } := J.landed nb fl4.1 (up.trans up4) os ag
      obtain ⟨oe4, vs4, he4, hz4, hd4⟩ := fl4.there
      have S4 := J4.suite he4 hd4 na nL nF
      refine store_ok (X := X.suite a ((a, oe4) :: (X.pn ++ pins))) (v := .ref a) S4 hN hi (.inl hl) rfl (fun s5 S5 => ?_) (.inr hl)
      refine wpAny_mono ((hsu a oe4 cls d (X.pn ++ pins) hz4 ⟨_, hd4⟩).run [] s5 _ H (outOf i Ed) S5 (hy rfl a na)) (fun f s6 z => ?_) fun _ _ z => z.elim
      have gone : ∀ {τ6 : L2.St} {H6 : Hp} {Q : Shared → Prop}, Inv (X.suite a ((a, oe4) :: (X.pn ++ pins))) [] τ6 H6 s6 → (∀ s7, Inv X pins (τ6.set i none) H6 s7 → Q s7) →
          wpAny (model X.prog X.w) X.A (do bindName X.env n .none; unbindBehindTheSuite X.env n p2) (fun _ s7 => Q s7) X.xe s6 := fun {τ6 H6 Q} S6 q => gone_ok (S6.unsuite ok) hN hi hl q
      cases f with
      | ret u => exact let ⟨v6, τ6, H6, S6, r6, q6⟩ := z; gone S6 fun s7 J7 => ⟨v6, _, H6, J7, r6, q6⟩
      | next => exact let ⟨τ6, H6, S6, q6⟩ := z; gone S6 fun s7 J7 => ⟨_, H6, J7, q6⟩
      | brk => exact let ⟨τ6, H6, S6, q6⟩ := z; gone S6 fun s7 J7 => ⟨_, H6, J7, q6⟩
      | cont => exact let ⟨τ6, H6, S6, q6⟩ := z; gone S6 fun s7 J7 => ⟨_, H6, J7, q6⟩
theorem try_rule (hsk : X.stack = X.env :: X.outer) (hf : X.env.frame = some X.env.locals) (tk : Takes X Wo)
    (hb : ∀ (W : WX) (pn : List (Addr × Obj)) (xe : Value → Shared → Prop), Takes (X.tr pn xe) W → PassesOwn (model X.prog X.w) X.A X.env xe → PSs (X.tr pn xe) body (tb W)) (hh : TryOk X (h0 :: hds) l) :
    PS X (.Try body (h0 :: hds) [] [] pos) (fun Ed τ H => tb (wTry X.K Wo Ed l) Ed τ H) := ⟨fun pins s τ H Ed I h => by
  have ok := I.ok
  have hfr : X.A.frames = some (X.env :: X.outer) := by rw [ok.frames, hsk]
  refine wpAny_Try_except ?_
  refine wpAny_mono ((hb (wTry X.K Wo Ed l) (X.pn ++ pins) (fun e s1 => wpAny (model X.prog X.w) X.A (noteFrame e X.env) (fun _ s2 => wpAny (model X.prog X.w) X.A (setFlight e none) (fun _ s3 =>
    wpAny (model X.prog X.w) X.A (handleBy e X.env (h0 :: hds)) (SP X pins Ed) X.xe s3) X.xe s2) X.xe s1) (fun u s' xx => ?_) PassesOwn.looking).run [] s τ H Ed (I.toTry _) h) (fun f s1 z => ?_) (fun e s1 he => he)
  · obtain ⟨a, B, sI, pins', τ', H', cls, d, rfl, J', nb, up, sky, na, os, ag, w⟩ := xx
    have J : Inv X pins τ' H' sI := J'.ofTry ok
    show wpAny (model X.prog X.w) X.A (noteFrame (.ref a) X.env) _ _ _
    refine Sky.land Zc.steady hfr hf (by rw [← hsk]; exact sky) fun h3 fl3 up3 => ?_
    exact try_land (s' := { s' with heap := h3 }) hsk hf tk ok J nb (up.trans up3) fl3 na os ag hh w
  · cases f with
    | ret u => exact let ⟨v, τ', H', J', r, q⟩ := z; ⟨v, τ', H', J'.ofTry ok, r, q⟩
    | next => exact let ⟨τ', H', J', q⟩ := z; wpAny_execs_nil ⟨τ', H', J'.ofTry ok, q⟩
    | brk => exact let ⟨τ', H', J', q⟩ := z; ⟨τ', H', J'.ofTry ok, q⟩
    | cont => exact let ⟨τ', H', J', q⟩ := z; ⟨τ', H', J'.ofTry ok, q⟩⟩
end

/-! ### .. over trees -/
structure Hd3 where
  c : Value
  sl : Option Nat
  ts : Addr → Value → List (Str × D) → T3S
def outOf3 (i : Nat) (N : N3) : N3 := { nx := fun σ G => N.nx (σ.set i none) G, rt := N.rt, bk := fun σ G => N.bk (σ.set i none) G, ct := fun σ G => N.ct (σ.set i none) G }
def inSuite3 (hd : Hd3) (a : Addr) (cls : Value) (fs : List (Str × D)) (N : N3) (σ : S3) (G : H3) : Prop := match hd.sl with
  | none => hd.ts a cls fs N σ G
  | some i => hd.ts a cls fs (outOf3 i N) (σ.set i (some (.ref a))) G
def wTry3 (K : PySem.W.Frag) (Wo : W3) (N : N3) : List Hd3 → W3
  | [] => Wo
  | hd :: r => fun cls fs σ G => ∃ b, PySem.W.exmOne K cls hd.c = some b ∧ if b = true then ∀ a, inSuite3 hd a cls fs N σ G else wTry3 K Wo N r cls fs σ G
/-- what the except suite knows -/
structure Sui (X : Cx) (B : Bs) (a : Addr) (oe : Obj) (cls : Value) (d : Option Addr) (fs : List (Str × D)) (B' : Bs) : Prop where
  z : Zc cls d oe
  f : ∃ vs, oe.data = .fields vs
  le : Same B.F B'.F
  pe : B'.P = B.P
  x : XR X.K B'.F d fs
def lowHd (K : PySem.W.Frag) (B : Bs) (hd : Hd3) : Hd := ⟨hd.c, hd.sl, fun a cls d Ed τ H => ∃ (B' : Bs) (fs : List (Str × D)), Same B.F B'.F ∧ B'.P = B.P ∧ XR K B'.F d fs ∧ lowS K B' (hd.ts a cls fs) Ed τ H⟩
inductive TryOk3 (X : Cx) (B : Bs) : List ExceptHandler → List Hd3 → Prop
  | nil : TryOk3 X B [] []
  | plain {x : Str} {c : Value} {ts : Addr → Value → List (Str × D) → T3S} {b : Stmt} {bs : List Stmt} {p1 p2 : Pos} {hds : List ExceptHandler} {l : List Hd3} (hc : Names X x c)
      (hs : ∀ (a : Addr) (oe : Obj) (cls : Value) (d : Option Addr) (pn : List (Addr × Obj)) (fs : List (Str × D)) (B' : Bs), Sui X B a oe cls d fs B' → PB3 (X.suite a ((a, oe) :: pn)) B' (b :: bs) (ts a cls fs)) (r : TryOk3 X B hds l) :
      TryOk3 X B (.ExceptHandler (some (.Name x p1)) none (b :: bs) p2 :: hds) (⟨c, none, ts⟩ :: l)
  | named {x n : Str} {c : Value} {ts : Addr → Value → List (Str × D) → T3S} {b : Stmt} {bs : List Stmt} {p1 p2 : Pos} {hds : List ExceptHandler} {l : List Hd3} (i : Nat) (hc : Names X x c) (hN : X.N.Nodup) (hi : X.N[i]? = some n) (hl : X.env.kindOf n = some .local)
      (hs : ∀ (a : Addr) (oe : Obj) (cls : Value) (d : Option Addr) (pn : List (Addr × Obj)) (fs : List (Str × D)) (B' : Bs), Sui X B a oe cls d fs B' → PB3 (X.suite a ((a, oe) :: pn)) B' (b :: bs) (ts a cls fs)) (r : TryOk3 X B hds l) :
      TryOk3 X B (.ExceptHandler (some (.Name x p1)) (some n) (b :: bs) p2 :: hds) (⟨c, some i, ts⟩ :: l)
def try3 (K : PySem.W.Frag) (Wo : W3) (l : List Hd3) (tb : W3 → T3S) : T3S := fun N σ G => tb (wTry3 K Wo N l) N σ G
section
variable {X : Cx} {B : Bs} {body : List Stmt} {h0 : ExceptHandler} {hds : List ExceptHandler} {l : List Hd3} {pos : Pos} {tb : W3 → T3S} {Wo : W3}
theorem TryOk3.low : ∀ {hs : List ExceptHandler} {l : List Hd3}, TryOk3 X B hs l → TryOk X hs (l.map (lowHd X.K B))
  | _, _, .nil => .nil
  | _, _, .plain hc hs r => .plain hc (fun a oe cls d pn hz hf => ⟨fun pins s τ H Ed I ⟨B', fs, le, pe, xr, h⟩ => (hs a oe cls d pn fs B' ⟨hz, hf, le, pe, xr⟩).run pins s τ H Ed I h⟩) r.low
  | _, _, .named i hc hN hi hl hs r => .named hc hN hi hl (fun a oe cls d pn hz hf => ⟨fun pins s τ H Ed I ⟨B', fs, le, pe, xr, h⟩ => (hs a oe cls d pn fs B' ⟨hz, hf, le, pe, xr⟩).run pins s τ H Ed I h⟩) r.low
theorem wTry_low {K : PySem.W.Frag} {F F1 : Hp} {N : N3} {Ed : Ends} {cls : Value} {d : Option Addr} {fs : List (Str × D)} {σ : S3} {τ : L2.St} {G : H3} {H : Hp} (hf : Same B.F F) (f1 : Same F F1) (kn : NR K F B.P N Ed) (hs : RS K F1 σ τ) (hh : RH K F1 B.P G H) (xr : XR K F1 d fs) :
    ∀ {l : List Hd3}, wTry3 K Wo N l cls fs σ G → wTry K (lowW K B Wo) Ed (l.map (lowHd K B)) cls d τ H
  | [], h => ⟨F1, σ, G, fs, hf.trans f1, hs, hh, xr, h⟩
  | hd :: r, ⟨b, e, h⟩ => by
    refine ⟨b, e, fun q a _ => ?_, fun q => ?_⟩
    · rw [if_pos q] at h
      have h := h a
      obtain ⟨c, sl, ts⟩ := hd
      cases sl with
      | none => exact ⟨⟨F1, B.P⟩, fs, hf.trans f1, rfl, xr, lowS_of (B := ⟨F1, B.P⟩) (Same.refl F1) hs hh h (kn.le f1)⟩
      | some i =>
        refine ⟨⟨F1, B.P⟩, fs, hf.trans f1, rfl, xr, lowS_of (B := ⟨F1, B.P⟩) (Same.refl F1) (hs.set i (.ref a)) hh h ⟨fun τ1 H1 z => ?_, fun v H1 z => kn.rt v H1 (z.le f1), fun τ1 H1 z => ?_, fun τ1 H1 z => ?_⟩⟩
        · obtain ⟨F2, σ2, G2, f2, hs2, hh2, z⟩ := z
          exact kn.nx _ _ ⟨F2, _, G2, f1.trans f2, hs2.gone i, hh2, z⟩
        · obtain ⟨F2, σ2, G2, f2, hs2, hh2, z⟩ := z
          exact kn.bk _ _ ⟨F2, _, G2, f1.trans f2, hs2.gone i, hh2, z⟩
        · obtain ⟨F2, σ2, G2, f2, hs2, hh2, z⟩ := z
          exact kn.ct _ _ ⟨F2, _, G2, f1.trans f2, hs2.gone i, hh2, z⟩
    · rw [if_neg (by rw [q]; exact Bool.false_ne_true)] at h
      exact wTry_low hf f1 kn hs hh xr h
theorem s_try (tk : Takes X (lowW X.K B Wo)) (hsk : X.stack = X.env :: X.outer) (hfr : X.env.frame = some X.env.locals)
    (hb : ∀ (W : W3) (B2 : Bs) (pn : List (Addr × Obj)) (xe : Value → Shared → Prop), Takes (X.tr pn xe) (lowW X.K B2 W) → PassesOwn (model X.prog X.w) X.A X.env xe → PB3 (X.tr pn xe) B2 body (tb W)) (hh : TryOk3 X B (h0 :: hds) l) :
    PS3 X B (.Try body (h0 :: hds) [] [] pos) (try3 X.K Wo l tb) :=
  (try_rule (tb := fun W Ed τ H => ∃ B2 W', (∀ c d τ H, lowW X.K B2 W' c d τ H → W c d τ H) ∧ lowS X.K B2 (tb W') Ed τ H) hsk hfr tk
    (fun W pn xe tk2 po => ⟨fun pins s τ H Ed I ⟨B2, W', le, h⟩ => (hb W' B2 pn xe (tk2.imp le) po).run pins s τ H Ed I h⟩) hh.low).weak fun Ed τ H ⟨F, σ, G, N, hf, hs, hh', h, kn⟩ =>
    ⟨⟨F, B.P⟩, _, fun c d τ1 H1 ⟨F1, σ1, G1, fs, f1, hs1, hh1, xr, z⟩ => wTry_low hf f1 kn hs1 hh1 xr z, lowS_of (B := ⟨F, B.P⟩) (Same.refl F) hs hh' h kn⟩
end

/-! ### the error within its suite -/
/-- err.f, err the error that the suite holds at a -/
def xfld3 (a : Addr) (cls : Value) (fs : List (Str × D)) (cs : List Addr) (f : Str) (te : E3) : E3 := fun σ G Q => te σ G fun x G1 => match x with
  | .ref b => b = a ∧ (∃ C ∈ cs, cls = .ref C) ∧ match fs.lookup f with
    | some d => Q d G1
    | none => False
  | _ => False
def XfOk (K : PySem.W.Frag) (f : Str) (C : Addr) : Prop := XfC K C ∧ PySem.W.findIn K (.ref C) f = some none
section
variable {X : Cx} {B B' : Bs} {a : Addr} {oe : Obj} {cls : Value} {d : Option Addr} {pn : List (Addr × Obj)} {fs : List (Str × D)} {e : Expr} {te : E3} {pos : Pos} {f : Str} {cs : List Addr}
theorem e_xf (S : Sui X B a oe cls d fs B') (hc : ∀ C ∈ cs, XfOk X.K f C) (he : PE3 (X.suite a ((a, oe) :: pn)) B' e te) (hb : attributeBase e f X.env (eval e X.env) = eval e X.env := by rfl) :
    PE3 (X.suite a ((a, oe) :: pn)) B' (.Attribute e f pos) (xfld3 a cls fs cs f te) := ⟨fun pins s τ H Q I h => by
  obtain ⟨F, σ, G, Q3, hf, hs, hh, h, k⟩ := h
  by_cases hcl : ∃ C, C ∈ cs ∧ cls = .ref C
  · obtain ⟨C, hC, rfl⟩ := hcl
    refine (pe_xf (n := f) (hc C hC).1 (hc C hC).2 S.z S.f he hb).run pins s τ H Q I ?_
    refine low_run hf hs hh h fun F1 v d1 G1 H1 f1 hh1 r1 q1 => ?_
    cases r1 with
    | ref b =>
      obtain ⟨eb, _, q1⟩ := q1
      split at q1
      · rename_i y hy
        have xr := S.x.mono (hf.trans f1)
        cases d with
        | none =>
          have z : fs = [] := xr
          rw [z] at hy
          cases hy
        | some dd =>
          obtain ⟨vs, e1, rf⟩ := xr
          obtain ⟨u, hu, ru⟩ := rf.lookup hy
          exact ⟨by rw [eb], rfl, dd, vs, u, rfl, hh1.fz _ _ e1, hu, k u H1 ⟨F1, y, G1, f1, hh1, ru, q1⟩⟩
      · exact q1.elim
    | _ => exact q1.elim
  · refine attr_of hb (thn (he.run pins s τ H (fun _ _ => False) I (low_run hf hs hh h fun F1 v d1 G1 H1 f1 hh1 r1 q1 => ?_)) fun u s1 z => ?_)
    · cases r1 with
      | ref b => exact hcl q1.2.1
      | _ => exact q1.elim
    · obtain ⟨_, _, _, _, z⟩ := z
      exact z.elim⟩
end

/-! ### calls of built-ins by values -/
abbrev C3 := List D → H3 → K3 → Prop
def lowC (K : PySem.W.Frag) (B : Bs) (r : C3) : List V → Hp → VK → Prop := fun vs H Q => ∃ F ds G Q3, Same B.F F ∧ R3s K F ds vs ∧ RH K F B.P G H ∧ r ds G Q3 ∧ ∀ v H', post K F B.P Q3 v H' → Q v H'
abbrev CallR3 (X : Cx) (B : Bs) (f : Value) (r : C3) : Prop := CallR X f (lowC X.K B r)
def cb3 (r : C3) (ta : A3) : E3 := fun σ G Q => ta σ G fun ds G1 => r ds G1 Q
section
variable {X : Cx} {B : Bs} {x : Str} {p pos : Pos} {e : Expr} {es : List Expr} {ta : A3} {id T : String} {r : C3}
theorem low_cb {K : PySem.W.Frag} {τ : L2.St} {H : Hp} {Q : VK} (h : low K B (cb3 r ta) τ H Q) : tCB (lowC K B r) (lowA K B ta) τ H Q := by
  obtain ⟨F, σ, G, Q3, hf, hs, hh, h, k⟩ := h
  exact lowA_run hf hs hh h fun F1 vs ds G1 H1 f1 hh1 r1 q1 => ⟨F1, ds, G1, Q3, hf.trans f1, r1, hh1, q1, fun v H' z => k v H' (z.le f1)⟩
theorem e_cb (hc : CallR3 X B (.builtin id) r) (hm : X.mg x = none) (hv : bootBuiltins x = some (.builtin id)) (ha : PA3 X B (e :: es) ta) (hg : Gl X x := by rfl) (hn : x ≠ "__name__" := by decide) (hdb : (x == ("__debug__" : Str)) = false := by decide)
    (he : starEach (e :: es) X.env = (false, eval e X.env) :: starEach es X.env := by rfl) (hpl : (backTo pos (starEach es X.env)).any (·.1) = false := by rfl) : PE3 X B (.Call (.Name x p) (e :: es) [] pos) (cb3 r ta) := (pe_callB hc hg hm hv ha hn hdb he hpl).weak fun _ _ _ h => low_cb h
theorem e_ct (hc : CallR3 X B (.type T) r) (hm : X.mg x = none) (hv : bootBuiltins x = some (.type T)) (ha : PA3 X B (e :: es) ta) (hg : Gl X x := by rfl) (hn : x ≠ "__name__" := by decide) (hdb : (x == ("__debug__" : Str)) = false := by decide)
    (he : starEach (e :: es) X.env = (false, eval e X.env) :: starEach es X.env := by rfl) (hpl : (backTo pos (starEach es X.env)).any (·.1) = false := by rfl) : PE3 X B (.Call (.Name x p) (e :: es) [] pos) (cb3 r ta) := (pe_callTy hc hg hm hv ha hn hdb he hpl).weak fun _ _ _ h => low_cb h
/-- from a rule of the layer below: what it asks follows -/
theorem callR_low {f : Value} {r0 : List V → Hp → VK → Prop} (h : CallR X f r0) (w : ∀ vs H Q, lowC X.K B r vs H Q → r0 vs H Q) : CallR3 X B f r := fun pins s τ H xs us Q I rv q => h pins s τ H xs us Q I rv (w xs H Q q)
end

/-! ### isinstance -/
def typ (d : D) (G : H3) : Option Value := match d with
  | .non => some (.type "NoneType")
  | .bl _ => some (.type "bool")
  | .int _ => some (.type "int")
  | .str _ => some (.type "str")
  | .tup _ => some (.type "tuple")
  | .lst _ => some (.type "list")
  | .kls _ => some (.type "list")
  | .obj C _ => some (.ref C)
  | .ref a => match G a with
    | some (.lst _) => some (.type "list")
    | some (.dic _) => some (.type "dict")
    | some (.ins C _) => some (.ref C)
    | none => none
  | .ty _ => none
/-- what a class must say, so that isinstance asks its instances rightly -/
structure InsOk (K : PySem.W.Frag) (C : Addr) : Prop where
  cl : Cls K C
  ha : PySem.W.findIn K (.ref C) "__class__" = some (some (.builtin "object.__class__"))
  hn : PySem.W.specialIn K (.builtin "object.__class__") "__get__" = some (some (.builtin "getset_descriptor.__get__"))
  ht : PySem.W.takesIn K (.builtin "object.__class__") = some true
  hm : PySem.W.mroIn K C (.type "object") = some true
def TypOk (K : PySem.W.Frag) : Value → Prop
  | .ref C => InsOk K C
  | _ => True
def clsv (d : D) : Option Value := match d with
  | .ty n => some (.type n)
  | .ref C => some (.ref C)
  | _ => none
def isi (K : PySem.W.Frag) : C3 := fun ds G Q => match ds with
  | [x, c] => ∃ t u b, typ x G = some t ∧ TypOk K t ∧ clsv c = some u ∧ PySem.W.kitOne K t u = some b ∧ Q (.bl b) G
  | _ => False
theorem sqT_ty {K : PySem.W.Frag} {H : Hp} {a : Addr} {vs : List V} (h : SqT K H a vs) : TyX K H (.ref a) (.type "tuple") := by
  rcases h with (h | ⟨o, h⟩) | ⟨o, its, n, h1, h2, _⟩
  · exact .base (.tup h)
  · exact .fTuple h
  · exact .kTuple h1 h2
theorem sqL_ty {K : PySem.W.Frag} {H : Hp} {a : Addr} {vs : List V} (h : SqL K H a vs) : TyX K H (.ref a) (.type "list") := by
  rcases h with (h | ⟨o, h⟩) | ⟨o, its, n, h1, h2, _⟩
  · exact .base (.lst h)
  · exact .base (.frz h)
  · exact .kList h1 h2
theorem typ_rel {K : PySem.W.Frag} {F P : Hp} {G : H3} {H : Hp} {d : D} {v : V} {t : Value} (hh : RH K F P G H) (r : R3 K F d v) (e : typ d G = some t) (ok : TypOk K t) : TyX K H v t := by
  cases r with
  | non => cases e; exact .base .non
  | bl b => cases e; exact .base (.bl b)
  | int b => cases e; exact .base (.int b)
  | str b => cases e; exact .base (.str b)
  | ty n => cases e
  | tup h1 h2 => cases e; exact sqT_ty (same_t hh.fz h1)
  | lst h1 h2 => cases e; exact sqL_ty (SqL.of (hh.fz _ _ h1))
  | kls h1 h2 => cases e; exact sqL_ty (hh.fz.seq h1)
  | obj h1 h2 =>
    cases e
    exact .base (.ins (hh.fz _ _ h1) ok.cl ok.ha ok.hn ok.ht ok.hm)
  | ref a =>
    cases q : G a with
    | none => simp [typ, q] at e
    | some o =>
      cases o with
      | lst xs =>
        simp [typ, q] at e
        obtain ⟨vs, h1, _⟩ := hh.hp _ _ q
        rw [← e]
        exact .base (.lst h1)
      | dic xs =>
        simp [typ, q] at e
        obtain ⟨vs, h1, _⟩ := hh.hp _ _ q
        rw [← e]
        exact .base (.dK h1)
      | ins C fs =>
        simp [typ, q] at e
        obtain ⟨dx, vs, h1, _⟩ := hh.hp _ _ q
        subst e
        exact .base (.ins h1 ok.cl ok.ha ok.hn ok.ht ok.hm)
theorem clsv_rel {K : PySem.W.Frag} {F : Hp} {c : D} {v : V} {u : Value} (r : R3 K F c v) (e : clsv c = some u) : ClsV v u := by
  cases r with
  | ty n => cases e; exact .ty n
  | ref a => cases e; exact .own a
  | _ => cases e
theorem c_isi {X : Cx} {B : Bs} : CallR3 X B (.builtin "isinstance") (isi X.K) := callR_low call_isi fun vs H Q ⟨F, ds, G, Q3, hf, r, hh, h, k⟩ => by
  cases r with
  | nil => exact h.elim
  | cons r1 r => cases r with
    | nil => exact h.elim
    | cons r2 r => cases r with
      | cons _ _ => exact h.elim
      | nil =>
        obtain ⟨t, u, b, e1, ok, e2, e3, q⟩ := h
        exact ⟨_, _, t, u, b, rfl, clsv_rel r2 e2, typ_rel hh r1 e1 ok, e3, k _ _ ⟨F, .bl b, G, Same.refl F, hh, .bl b, q⟩⟩
/-- .. of the error that a suite holds -/
def isx (K : PySem.W.Frag) (a : Addr) (cls : Value) : C3 := fun ds G Q => match ds with
  | [.ref b, c] => b = a ∧ ∃ C u k, cls = .ref C ∧ ExcC K C ∧ clsv c = some u ∧ PySem.W.kitOne K (.ref C) u = some k ∧ Q (.bl k) G
  | _ => False
theorem c_isx {X : Cx} {B B' : Bs} {a : Addr} {oe : Obj} {cls : Value} {d : Option Addr} {pn : List (Addr × Obj)} {fs : List (Str × D)} (S : Sui X B a oe cls d fs B') : CallR3 (X.suite a ((a, oe) :: pn)) B' (.builtin "isinstance") (isx X.K a cls) := by
  intro pins s τ H xs us Q I rv ⟨F, ds, G, Q3, hf, r, hh, h, k⟩
  cases r with
  | nil => exact h.elim
  | @cons d1 v1 _ _ r1 r => cases r with
    | nil => cases d1 <;> exact h.elim
    | @cons d2 v2 _ _ r2 r => cases r with
      | cons _ _ => cases d1 <;> exact h.elim
      | nil =>
        cases r1 with
        | ref b =>
          obtain ⟨rfl, C, u, kk, rfl, xc, e2, e3, q⟩ := h
          cases rv with
          | cons rx rr => cases rr with
            | cons rt rr =>
              cases rr
              cases rx
              have ec := (clsv_rel r2 e2).eq rt
              subst ec
              obtain ⟨hget, _⟩ := I.pin (b, oe) (List.mem_append_left _ List.mem_cons_self)
              obtain ⟨vs, hv⟩ := S.f
              have hcl : (PySem.W.clsIn X.K C).isSome = true := by
                obtain ⟨cd, hc, _⟩ := PySem.W.any_some xc.hd
                rw [hc]
                rfl
              have fin : EP (X.suite b ((b, oe) :: pn)) pins τ Q (.bool kk) s := ⟨.bl kk, H, I, rfl, k _ _ ⟨F, .bl kk, G, Same.refl F, hh, .bl kk, q⟩⟩
              have xr := S.x.mono hf
              cases d with
              | none =>
                have J : PySem.W.InstAt s.heap b oe C none := ⟨hget, S.z.1, by unfold PySem.W.notCls; rw [hv] <;> rfl, by rw [S.z.2]; trivial⟩
                exact PySem.W.kia_one (PySem.W.kitx_exc hcl xc.hg xc.hk xc.hs xc.ha xc.hn xc.ht xc.hm) I.kIn J e3 (fun z => nomatch z) fun tk => ⟨.bl kk, H, I.kept (t' := tk) fun _ _ z => z, rfl, k _ _ ⟨F, .bl kk, G, Same.refl F, hh, .bl kk, q⟩⟩
              | some dd =>
                obtain ⟨ws, e1, rf⟩ := xr
                obtain ⟨mA, hns, hr⟩ := (show ObjOk X.prog X.w H s.heap dd (.xd ws) from I.hok dd _ (hh.fz _ _ e1))
                obtain ⟨od, ho, hl⟩ := lookIn_ns hns
                have J : PySem.W.InstAt s.heap b oe C (some od) := ⟨hget, S.z.1, by unfold PySem.W.notCls; rw [hv] <;> rfl, by rw [S.z.2]; exact ho⟩
                exact PySem.W.kia_one (PySem.W.kitx_exc hcl xc.hg xc.hk xc.hs xc.ha xc.hn xc.ht xc.hm) I.kIn J e3 (fun z => nomatch z) fun tk => ⟨.bl kk, H, I.kept (t' := tk) fun _ _ z => z, rfl, k _ _ ⟨F, .bl kk, G, Same.refl F, hh, .bl kk, q⟩⟩
        | _ => exact h.elim
end T3

namespace T3
open PySem PySem.Spec PyProof.Rows L2

/-! ### lists and tuples as they are read -/
def lsv (d : D) (G : H3) : Option (List D) := match d with
  | .lst xs => some xs
  | .kls xs => some xs
  | .ref a => match G a with
    | some (.lst xs) => some xs
    | _ => none
  | _ => none
/-- a list that + takes -/
def lsm (d : D) (G : H3) : Option (List D) := match d with
  | .lst xs => some xs
  | .ref a => match G a with
    | some (.lst xs) => some xs
    | _ => none
  | _ => none
section
variable {K : PySem.W.Frag} {F P : Hp} {G : H3} {H : Hp} {d : D} {v : V} {xs : List D}
theorem lsm_rel (hh : RH K F P G H) (r : R3 K F d v) (e : lsm d G = some xs) : ∃ p vs, v = .ref p ∧ H p = some (.lst vs) ∧ R3s K F xs vs := by
  cases r with
  | lst h1 h2 => cases e; exact ⟨_, _, rfl, hh.fz _ _ h1, h2⟩
  | ref a =>
    cases q : G a with
    | none => simp [lsm, q] at e
    | some o =>
      cases o with
      | lst ys =>
        simp [lsm, q] at e
        subst e
        obtain ⟨vs, h1, h2⟩ := hh.hp _ _ q
        exact ⟨a, vs, rfl, h1, h2⟩
      | _ => simp [lsm, q] at e
  | _ => cases e
theorem lsv_rel (hh : RH K F P G H) (r : R3 K F d v) (e : lsv d G = some xs) : ∃ p vs, v = .ref p ∧ SqL K H p vs ∧ R3s K F xs vs := by
  cases r with
  | lst h1 h2 => cases e; exact ⟨_, _, rfl, SqL.of (hh.fz _ _ h1), h2⟩
  | kls h1 h2 => cases e; exact ⟨_, _, rfl, hh.fz.seq h1, h2⟩
  | ref a =>
    cases q : G a with
    | none => simp [lsv, q] at e
    | some o =>
      cases o with
      | lst ys =>
        simp [lsv, q] at e
        subst e
        obtain ⟨vs, h1, h2⟩ := hh.hp _ _ q
        exact ⟨a, vs, rfl, SqL.of h1, h2⟩
      | _ => simp [lsv, q] at e
  | _ => cases e
end
/-- a new list stands in the heap -/
def newl (xs : List D) (G : H3) (Q : K3) : Prop := ∀ p, G p = none → Q (.ref p) (up G p (.lst xs))
theorem newl_post {K : PySem.W.Frag} {F P : Hp} {G : H3} {H : Hp} {xs : List D} {vs : List V} {Q3 : K3} {Q : VK} (hh : RH K F P G H) (r : R3s K F xs vs) (h : newl xs G Q3) (k : ∀ v H', post K F P Q3 v H' → Q v H') : ∀ p, H p = none → Q (.ref p) (upd H p (.lst vs)) := fun p hp =>
  k _ _ ⟨F, .ref p, _, Same.refl F, hh.new (o := .lst xs) hp ⟨vs, rfl, r⟩, .ref p, h p (hh.free hp)⟩
theorem newt_post {K : PySem.W.Frag} {F P : Hp} {G : H3} {H : Hp} {xs : List D} {vs : List V} {Q3 : K3} {Q : VK} (hh : RH K F P G H) (r : R3s K F xs vs) (h : Q3 (.tup xs) G) (k : ∀ v H', post K F P Q3 v H' → Q v H') : ∀ p, H p = none → Q (.ref p) (upd H p (.tup vs)) := fun p hp => by
  obtain ⟨e1, hh2⟩ := hh.frz (u := .tup vs) hp
  exact k _ _ ⟨_, _, G, e1, hh2, .tup (SqT.of upd_same) (r.mono e1), h⟩
theorem okp {K : PySem.W.Frag} {F P : Hp} {G : H3} {H : Hp} {d : D} {v : V} {Q3 : K3} {Q : VK} (hh : RH K F P G H) (r : R3 K F d v) (h : Q3 d G) (k : ∀ v H', post K F P Q3 v H' → Q v H') : Q v H := k _ _ ⟨F, d, G, Same.refl F, hh, r, h⟩

/-! ### ints, texts, lists: + - * // % ** -/
def add3 : R32 := fun x y G Q => match x, y with
  | .int i, .int j => Q (.int (i + j)) G
  | .str a, .str b => a.length + b.length ≤ sizeLine ∧ Q (.str (a ++ b)) G
  | .tup xs, .tup ys => xs.length + ys.length ≤ sizeLine ∧ Q (.tup (xs ++ ys)) G
  | x, y => ∃ xs ys, lsm x G = some xs ∧ lsm y G = some ys ∧ xs.length + ys.length ≤ sizeLine ∧ newl (xs ++ ys) G Q
def sub3 : R32 := fun x y G Q => match x, y with
  | .int i, .int j => Q (.int (i - j)) G
  | _, _ => False
def MulOk (i j : Int) : Prop := CMul i j ∨ CMulW i j
def mul3 : R32 := fun x y G Q => match x, y with
  | .int i, .int j => MulOk i j ∧ Q (.int (i * j)) G
  | _, _ => False
def fdv3 : R32 := fun x y G Q => match x, y with
  | .int i, .int j => (j ≠ 0 ∧ j.natAbs.log2 < 9000) ∧ Q (.int (i.fdiv j)) G
  | _, _ => False
def mod3 : R32 := fun x y G Q => match x, y with
  | .int i, .int j => 0 < j ∧ Q (.int (i % j)) G
  | _, _ => False
def pow3 : R32 := fun x y G Q => match x, y with
  | .int i, .int j => CPow i j ∧ Q (.int (i ^ j.toNat)) G
  | _, _ => False
def neg3 : R31 := fun x G Q => match x with
  | .int i => Q (.int (-i)) G
  | _ => False
section
variable {X : Cx} {P : Hp}
theorem o_add : OpR3 X P (binaryOp .Add) add3 := by
  intro pins s τ H x y v u Q I rx ry ⟨F, d1, d2, G, Q3, r1, r2, hh, h, k⟩
  have lists : (∃ xs ys, lsm d1 G = some xs ∧ lsm d2 G = some ys ∧ xs.length + ys.length ≤ sizeLine ∧ newl (xs ++ ys) G Q3) → wpAny (model X.prog X.w) X.A (binaryOp .Add v u) (EP X pins τ Q) X.xe s := fun ⟨xs, ys, e1, e2, l, q⟩ => by
    obtain ⟨p, vs, rfl, h1, rs1⟩ := lsm_rel hh r1 e1
    obtain ⟨p2, ws, rfl, h2, rs2⟩ := lsm_rel hh r2 e2
    exact op_cat pins s τ H _ _ v u Q I rx ry ⟨p, p2, vs, ws, rfl, rfl, h1, h2, by rw [← rs1.length, ← rs2.length]; exact l, newl_post hh (rs1.append rs2) q k⟩
  cases r1 with
  | int i => cases r2 with
    | int j => exact op_add pins s τ H _ _ v u Q I rx ry ⟨i, j, rfl, rfl, okp hh (.int _) h k⟩
    | _ => exact lists h
  | str a => cases r2 with
    | str b => exact op_add_str pins s τ H _ _ v u Q I rx ry ⟨a, b, rfl, rfl, h.1, okp hh (.str _) h.2 k⟩
    | _ => exact lists h
  | @tup a xs vs t1 s1 => cases r2 with
    | @tup b ys ws t2 s2 =>
      refine op_catA pins s τ H _ _ v u Q I rx ry ⟨a, b, vs, ws, rfl, rfl, same_t hh.fz t1, same_t hh.fz t2, by rw [← s1.length, ← s2.length]; exact h.1, fun e => ?_, fun e1 e2 => ?_, fun _ _ => newt_post hh (s1.append s2) h.2 k⟩
      · subst e
        have e0 : xs = [] := List.length_eq_zero_iff.mp s1.length
        subst e0
        exact okp hh (.tup t2 s2) (by have q := h.2; rw [List.nil_append] at q; exact q) k
      · subst e2
        have e0 : ys = [] := List.length_eq_zero_iff.mp s2.length
        subst e0
        exact okp hh (.tup t1 s1) (by have q := h.2; rw [List.append_nil] at q; exact q) k
    | _ => exact lists h
  | _ => exact lists h
theorem o_sub : OpR3 X P (binaryOp .Sub) sub3 := by
  intro pins s τ H x y v u Q I rx ry ⟨F, d1, d2, G, Q3, r1, r2, hh, h, k⟩
  cases r1 with
  | int i => cases r2 with
    | int j => exact op_sub pins s τ H _ _ v u Q I rx ry ⟨i, j, rfl, rfl, okp hh (.int _) h k⟩
    | _ => exact h.elim
  | _ => exact h.elim
theorem o_mul : OpR3 X P (binaryOp .Mult) mul3 := by
  intro pins s τ H x y v u Q I rx ry ⟨F, d1, d2, G, Q3, r1, r2, hh, h, k⟩
  cases r1 with
  | int i => cases r2 with
    | int j =>
      rcases h.1 with c | c
      · exact op_mul pins s τ H _ _ v u Q I rx ry ⟨i, j, rfl, rfl, c, okp hh (.int _) h.2 k⟩
      · exact op_mulW pins s τ H _ _ v u Q I rx ry ⟨i, j, rfl, rfl, c, okp hh (.int _) h.2 k⟩
    | _ => exact h.elim
  | _ => exact h.elim
theorem op_fdivZ : OpR X (binaryOp .FloorDiv) (rI (fun _ j => j ≠ 0 ∧ j.natAbs.log2 < 9000) fun i j => .int (i.fdiv j)) := opI fun i j _ _ _ _ _ hc q => floordiv_int hc.1 q (.inl (PyProof.noPylong_of_log2 hc.2))
theorem o_fdv : OpR3 X P (binaryOp .FloorDiv) fdv3 := by
  intro pins s τ H x y v u Q I rx ry ⟨F, d1, d2, G, Q3, r1, r2, hh, h, k⟩
  cases r1 with
  | int i => cases r2 with
    | int j => exact op_fdivZ pins s τ H _ _ v u Q I rx ry ⟨i, j, rfl, rfl, h.1, okp hh (.int _) h.2 k⟩
    | _ => exact h.elim
  | _ => exact h.elim
theorem o_mod : OpR3 X P (binaryOp .Mod) mod3 := by
  intro pins s τ H x y v u Q I rx ry ⟨F, d1, d2, G, Q3, r1, r2, hh, h, k⟩
  cases r1 with
  | int i => cases r2 with
    | int j => exact op_mod pins s τ H _ _ v u Q I rx ry ⟨i, j, rfl, rfl, h.1, okp hh (.int _) h.2 k⟩
    | _ => exact h.elim
  | _ => exact h.elim
theorem o_pow : OpR3 X P (binaryOp .Pow) pow3 := by
  intro pins s τ H x y v u Q I rx ry ⟨F, d1, d2, G, Q3, r1, r2, hh, h, k⟩
  cases r1 with
  | int i => cases r2 with
    | int j => exact op_pow pins s τ H _ _ v u Q I rx ry ⟨i, j, rfl, rfl, h.1, okp hh (.int _) h.2 k⟩
    | _ => exact h.elim
  | _ => exact h.elim
theorem o_neg : UnR3 X P (unaryOp .USub) neg3 := by
  intro pins s τ H x v Q I rx ⟨F, d, G, Q3, r1, hh, h, k⟩
  cases r1 with
  | int i => exact un_neg pins s τ H _ v Q I rx ⟨i, rfl, okp hh (.int _) h k⟩
  | _ => exact h.elim
end

/-! ### comparisons -/
mutual
def pyd : D → Option PyData
  | .non => some .none
  | .bl b => some (.bool b)
  | .int i => some (.int i)
  | .str x => some (.str x)
  | .tup xs => (pyds xs).map .tuple
  | .lst xs => (pyds xs).map .list
  | .kls xs => (pyds xs).map .list
  | _ => none
def pyds : List D → Option (List PyData)
  | [] => some []
  | d :: ds => (pyd d).bind fun p => (pyds ds).map fun ps => p :: ps
end
/-- as data; a list of the heap, too -/
def pyat (G : H3) (d : D) : Option PyData := match d with
  | .ref a => match G a with
    | some (.lst xs) => (pyds xs).map .list
    | _ => none
  | d => pyd d
section
variable {K : PySem.W.Frag} {F P : Hp} {G : H3} {H : Hp}
mutual
theorem pyd_rel (hz : Same F H) : ∀ {d : D} {v : V} {p : PyData}, R3 K F d v → pyd d = some p → Dp K H v p
  | _, _, _, .non, e => by simp only [pyd] at e; cases e; exact .non
  | _, _, _, .bl b, e => by simp only [pyd] at e; cases e; exact .bl b
  | _, _, _, .int i, e => by simp only [pyd] at e; cases e; exact .int i
  | _, _, _, .str x, e => by simp only [pyd] at e; cases e; exact .str x
  | _, _, _, .ty n, e => by simp only [pyd] at e; cases e
  | _, _, _, .ref a, e => by simp only [pyd] at e; cases e
  | _, _, _, .obj h1 h2, e => by simp only [pyd] at e; cases e
  | _, _, _, .tup h1 h2, e => by
    simp only [pyd] at e
    obtain ⟨ps, e1, e2⟩ := Option.map_eq_some_iff.mp e
    subst e2
    exact .tup (same_t hz h1) (pyds_rel hz h2 e1)
  | _, _, _, .lst h1 h2, e => by
    simp only [pyd] at e
    obtain ⟨ps, e1, e2⟩ := Option.map_eq_some_iff.mp e
    subst e2
    exact .lst (SqL.of (hz _ _ h1)) (pyds_rel hz h2 e1)
  | _, _, _, .kls h1 h2, e => by
    simp only [pyd] at e
    obtain ⟨ps, e1, e2⟩ := Option.map_eq_some_iff.mp e
    subst e2
    exact .lst (hz.seq h1) (pyds_rel hz h2 e1)
theorem pyds_rel (hz : Same F H) : ∀ {ds : List D} {vs : List V} {ps : List PyData}, R3s K F ds vs → pyds ds = some ps → DpAll K H vs ps
  | _, _, _, .nil, e => by simp only [pyds] at e; cases e; exact .nil
  | _, _, _, .cons h1 h2, e => by
    simp only [pyds] at e
    obtain ⟨p, e1, e⟩ := Option.bind_eq_some_iff.mp e
    obtain ⟨ps, e2, e3⟩ := Option.map_eq_some_iff.mp e
    subst e3
    exact .cons (pyd_rel hz h1 e1) (pyds_rel hz h2 e2)
end
theorem pyat_rel (hh : RH K F P G H) {d : D} {v : V} {p : PyData} (r : R3 K F d v) (e : pyat G d = some p) : Dp K H v p := by
  cases r with
  | ref a =>
    cases q : G a with
    | none => simp [pyat, q] at e
    | some o =>
      cases o with
      | lst xs =>
        simp only [pyat, q] at e
        obtain ⟨ps, e1, e2⟩ := Option.map_eq_some_iff.mp e
        subst e2
        obtain ⟨vs, h1, h2⟩ := hh.hp _ _ q
        exact .lst (SqL.of h1) (pyds_rel hh.fz h2 e1)
      | _ => simp [pyat, q] at e
  | non => exact pyd_rel hh.fz .non e
  | bl b => exact pyd_rel hh.fz (.bl b) e
  | int b => exact pyd_rel hh.fz (.int b) e
  | str b => exact pyd_rel hh.fz (.str b) e
  | ty b => exact pyd_rel hh.fz (.ty b) e
  | tup h1 h2 => exact pyd_rel hh.fz (.tup h1 h2) e
  | lst h1 h2 => exact pyd_rel hh.fz (.lst h1 h2) e
  | kls h1 h2 => exact pyd_rel hh.fz (.kls h1 h2) e
  | obj h1 h2 => exact pyd_rel hh.fz (.obj h1 h2) e
end
def dat3 (f : Bool → Bool) : R32 := fun x y G Q => ∃ p q, pyat G x = some p ∧ pyat G y = some q ∧ (SeqAt.shaped p = true ∧ SeqAt.shaped q = true) ∧ Q (.bl (f (PyData.eqv p q))) G
def eqn3 (f : Bool → Bool) : R32 := fun x y G Q => match x, y with
  | .int i, .int j => Q (.bl (f (decide (i = j)))) G
  | .str i, .str j => Q (.bl (f (decide (i = j)))) G
  | .bl i, .bl j => Q (.bl (f (decide (i = j)))) G
  | x, y => dat3 f x y G Q
abbrev eq3 : R32 := eqn3 id
abbrev ne3 : R32 := eqn3 not
def cmi3 (f : Int → Int → Bool) : R32 := fun x y G Q => match x, y with
  | .int i, .int j => Q (.bl (f i j)) G
  | _, _ => False
abbrev lt3 : R32 := cmi3 fun i j => decide (i < j)
abbrev le3 : R32 := cmi3 fun i j => decide (i ≤ j)
abbrev gt3 : R32 := cmi3 fun i j => decide (j < i)
abbrev ge3 : R32 := cmi3 fun i j => decide (j ≤ i)
/-- is, is not: None and truths -/
def isn3 (f : Bool → Bool) : R32 := fun x y G Q => match x, y with
  | .bl i, .bl j => Q (.bl (f (decide (i = j)))) G
  | .non, .non => Q (.bl (f true)) G
  | .obj _ _, .non => Q (.bl (f false)) G
  | .tup _, .non => Q (.bl (f false)) G
  | .int _, .non => Q (.bl (f false)) G
  | .str _, .non => Q (.bl (f false)) G
  | .ref _, .non => Q (.bl (f false)) G
  | .lst _, .non => Q (.bl (f false)) G
  | .bl _, .non => Q (.bl (f false)) G
  | _, _ => False
section
variable {X : Cx} {P : Hp}
theorem o_eq (hu : X.A.units + 64 < cLine) : OpR3 X P (compareOp .Eq) eq3 := by
  intro pins s τ H x y v u Q I rx ry ⟨F, d1, d2, G, Q3, r1, r2, hh, h, k⟩
  have dat : dat3 id d1 d2 G Q3 → wpAny (model X.prog X.w) X.A (compareOp .Eq v u) (EP X pins τ Q) X.xe s := fun ⟨p, q, e1, e2, ⟨s1, s2⟩, q3⟩ =>
    op_eqD hu pins s τ H x y v u Q I rx ry ⟨p, q, pyat_rel hh r1 e1, pyat_rel hh r2 e2, s1, s2, okp hh (.bl _) q3 k⟩
  have sc : ∀ b, scal x y = true → decide (x = y) = b → Q3 (.bl b) G → wpAny (model X.prog X.w) X.A (compareOp .Eq v u) (EP X pins τ Q) X.xe s := fun b e e2 q3 =>
    op_eq pins s τ H x y v u Q I rx ry ⟨e, by rw [e2]; exact okp hh (.bl _) q3 k⟩
  cases r1 with
  | int i => cases r2 with
    | int j => exact sc _ rfl (by simp) h
    | _ => exact dat h
  | str i => cases r2 with
    | str j => exact sc _ rfl (by simp) h
    | _ => exact dat h
  | bl i => cases r2 with
    | bl j => exact sc _ rfl (by simp) h
    | _ => exact dat h
  | _ => exact dat h
theorem o_ne (hu : X.A.units + 64 < cLine) : OpR3 X P (compareOp .NotEq) ne3 := by
  intro pins s τ H x y v u Q I rx ry ⟨F, d1, d2, G, Q3, r1, r2, hh, h, k⟩
  have dat : dat3 not d1 d2 G Q3 → wpAny (model X.prog X.w) X.A (compareOp .NotEq v u) (EP X pins τ Q) X.xe s := fun ⟨p, q, e1, e2, ⟨s1, s2⟩, q3⟩ =>
    op_neD hu pins s τ H x y v u Q I rx ry ⟨p, q, pyat_rel hh r1 e1, pyat_rel hh r2 e2, s1, s2, okp hh (.bl _) q3 k⟩
  have sc : ∀ b, scal x y = true → (!decide (x = y)) = b → Q3 (.bl b) G → wpAny (model X.prog X.w) X.A (compareOp .NotEq v u) (EP X pins τ Q) X.xe s := fun b e e2 q3 =>
    op_ne pins s τ H x y v u Q I rx ry ⟨e, by rw [e2]; exact okp hh (.bl _) q3 k⟩
  cases r1 with
  | int i => cases r2 with
    | int j => exact sc _ rfl (by simp) h
    | _ => exact dat h
  | str i => cases r2 with
    | str j => exact sc _ rfl (by simp) h
    | _ => exact dat h
  | bl i => cases r2 with
    | bl j => exact sc _ rfl (by simp) h
    | _ => exact dat h
  | _ => exact dat h
theorem o_cmi {op : CmpOp} {f : Int → Int → Bool} (h0 : OpR X (compareOp op) (rI0 fun i j => .bl (f i j))) : OpR3 X P (compareOp op) (cmi3 f) := by
  intro pins s τ H x y v u Q I rx ry ⟨F, d1, d2, G, Q3, r1, r2, hh, h, k⟩
  cases r1 with
  | int i => cases r2 with
    | int j => exact h0 pins s τ H _ _ v u Q I rx ry ⟨i, j, rfl, rfl, okp hh (.bl _) h k⟩
    | _ => exact h.elim
  | _ => exact h.elim
theorem o_lt : OpR3 X P (compareOp .Lt) lt3 := o_cmi op_lt
theorem o_le : OpR3 X P (compareOp .LtE) le3 := o_cmi op_le
theorem o_gt : OpR3 X P (compareOp .Gt) gt3 := o_cmi op_gt
theorem o_ge : OpR3 X P (compareOp .GtE) ge3 := o_cmi op_ge
theorem o_is : OpR3 X P (compareOp .Is) (isn3 id) := by
  intro pins s τ H x y v u Q I rx ry ⟨F, d1, d2, G, Q3, r1, r2, hh, h, k⟩
  have nn : ∀ b, y = .non → decide (x = .non) = b → Q3 (.bl b) G → wpAny (model X.prog X.w) X.A (compareOp .Is v u) (EP X pins τ Q) X.xe s := fun b e e2 q3 =>
    op_isN pins s τ H x y v u Q I rx ry ⟨e, by rw [e2]; exact okp hh (.bl _) q3 k⟩
  cases r2 with
  | bl j => cases r1 with
    | bl i => exact op_is_bl pins s τ H _ _ v u Q I rx ry ⟨i, j, rfl, rfl, okp hh (.bl _) h k⟩
    | _ => exact h.elim
  | non => cases r1 with
    | ty n => exact h.elim
    | kls _ _ => exact h.elim
    | _ => exact nn _ rfl (by simp) h
  | _ => cases r1 <;> exact h.elim
theorem o_isnot : OpR3 X P (compareOp .IsNot) (isn3 not) := by
  intro pins s τ H x y v u Q I rx ry ⟨F, d1, d2, G, Q3, r1, r2, hh, h, k⟩
  have nn : ∀ b, y = .non → (!decide (x = .non)) = b → Q3 (.bl b) G → wpAny (model X.prog X.w) X.A (compareOp .IsNot v u) (EP X pins τ Q) X.xe s := fun b e e2 q3 =>
    op_notN pins s τ H x y v u Q I rx ry ⟨e, by rw [e2]; exact okp hh (.bl _) q3 k⟩
  cases r2 with
  | bl j => cases r1 with
    | bl i => exact op_isnot_bl pins s τ H _ _ v u Q I rx ry ⟨i, j, rfl, rfl, okp hh (.bl _) h k⟩
    | _ => exact h.elim
  | non => cases r1 with
    | ty n => exact h.elim
    | kls _ _ => exact h.elim
    | _ => exact nn _ rfl (by simp) h
  | _ => cases r1 <;> exact h.elim
end
end T3

namespace T3
open PySem PySem.Spec PyProof.Rows L2

/-! ### subscripts -/
def at3 (xs : List D) (i : Int) : Option D := if 0 ≤ i then xs[i.toNat]? else if 0 ≤ i + xs.length then xs[(i + xs.length).toNat]? else none
theorem at3_rel {K : PySem.W.Frag} {F : Hp} {xs : List D} {vs : List V} {i : Int} {d : D} (r : R3s K F xs vs) (e : at3 xs i = some d) : ∃ v, atI vs i = some v ∧ R3 K F d v := by
  have hl := r.length
  unfold at3 at e
  by_cases h : 0 ≤ i
  · rw [if_pos h] at e
    obtain ⟨v, hv, rv⟩ := r.get e
    refine ⟨v, ?_, rv⟩
    have hi : i < vs.length := by
      have := (List.getElem?_eq_some_iff.mp hv).1
      omega
    unfold atI ixN
    rw [if_pos h, if_pos hi]
    exact hv
  · rw [if_neg h] at e
    by_cases h2 : 0 ≤ i + xs.length
    · rw [if_pos h2] at e
      obtain ⟨v, hv, rv⟩ := r.get e
      refine ⟨v, ?_, rv⟩
      unfold atI ixN
      rw [if_neg h, if_pos (by omega), ← hl]
      exact hv
    · rw [if_neg h2] at e
      cases e
/-- what follows of an item -/
def opt3 (o : Option D) (G : H3) (Q : K3) : Prop := match o with
  | some d => Q d G
  | none => False
def ix3 : R32 := fun x y G Q => match y with
  | .int i => match x with
    | .tup xs => opt3 (at3 xs i) G Q
    | .lst xs => opt3 (at3 xs i) G Q
    | .kls xs => opt3 (at3 xs i) G Q
    | .str z => z.length ≤ sizeLine ∧ ∃ c, atI z.cps.toList i = some c ∧ Q (.str ⟨#[c]⟩) G
    | .ref a => match G a with
      | some (.lst xs) => opt3 (at3 xs i) G Q
      | some (.dic kvs) => opt3 (get3 kvs (.inl i)) G Q
      | _ => False
    | _ => False
  | .str k => match x with
    | .ref a => match G a with
      | some (.dic kvs) => opt3 (get3 kvs (.inr k)) G Q
      | _ => False
    | _ => False
  | _ => False
section
variable {X : Cx} {B : Bs} {P : Hp}
theorem opt3_of {o : Option D} {G : H3} {Q : K3} (h : opt3 o G Q) : ∃ d, o = some d ∧ Q d G := by
  cases o with
  | none => exact h.elim
  | some d => exact ⟨d, rfl, h⟩
theorem ix_dic (hu : X.A.units + 1 < cLine) : IxR X (fun x y H Q => ∃ a v, x = .ref a ∧ DGet H a y (some v) ∧ Q v H) := by
  intro value slice pins s σ H x y v u Q I rx ry h hs
  obtain ⟨a, z, rfl, g, q⟩ := h
  obtain rfl : v = Value.ref a := rx
  exact tail_any (dict_typeIs I g) PySem.F.slot_dict_getitem.lookup (d_getItem hu I g ry fun w' s' I' r' => ⟨z, H, I', r', q⟩) hs
theorem i_ix (hu : X.A.units + 1 < cLine) : IxR X (lowR X.K P ix3) := by
  intro value slice pins s τ H x y v u Q I rx ry ⟨F, d1, d2, G, Q3, r1, r2, hh, h, k⟩ hs
  have seq : ∀ {xs : List D} {p : Addr} {vs : List V} {i : Int}, x = .ref p → y = .int i → SqL X.K H p vs → R3s X.K F xs vs → opt3 (at3 xs i) G Q3 → wpAny (model X.prog X.w) X.A (subscriptTail value slice v u) (EP X pins τ Q) X.xe s := fun {xs p vs i} ex ey hq rs z => by
    obtain ⟨d, e, q⟩ := opt3_of z
    obtain ⟨w, hw, rw'⟩ := at3_rel rs e
    exact ix_list value slice pins s τ H x y v u Q I rx ry ⟨p, vs, i, w, ex, ey, hq, hw, okp hh rw' q k⟩ hs
  have dic : ∀ {a : Addr} {kvs : List (Key × D)} {kk : Key}, x = .ref a → y = kV kk → G a = some (.dic kvs) → opt3 (get3 kvs kk) G Q3 → wpAny (model X.prog X.w) X.A (subscriptTail value slice v u) (EP X pins τ Q) X.xe s := fun {a kvs kk} ex ey hG z => by
    obtain ⟨d, e, q⟩ := opt3_of z
    obtain ⟨vs, h1, rk⟩ := hh.hp _ _ hG
    rcases rk.get (k := kk) with ⟨d', w, e1, e2, r⟩ | ⟨e1, _⟩
    · rw [e1] at e
      cases e
      refine ix_dic hu value slice pins s τ H x y v u Q I rx ry ⟨a, w, ex, ?_, okp hh r q k⟩ hs
      rw [ey, ← e2]
      exact DGet.k h1
    · rw [e1] at e
      cases e
  cases r2 with
  | int i => cases r1 with
    | tup h1 h2 =>
      obtain ⟨d, e, q⟩ := opt3_of h
      obtain ⟨w, hw, rw'⟩ := at3_rel h2 e
      exact ix_tup value slice pins s τ H _ _ v u Q I rx ry ⟨_, _, i, w, rfl, rfl, same_t hh.fz h1, hw, okp hh rw' q k⟩ hs
    | lst h1 h2 => exact seq rfl rfl (SqL.of (hh.fz _ _ h1)) h2 h
    | kls h1 h2 => exact seq rfl rfl (hh.fz.seq h1) h2 h
    | str z =>
      obtain ⟨hz, c, e, q⟩ := h
      exact ix_str value slice pins s τ H _ _ v u Q I rx ry ⟨z, i, c, rfl, rfl, hz, e, okp hh (.str _) q k⟩ hs
    | ref a =>
      simp only [ix3] at h
      split at h
      · rename_i xs hG
        obtain ⟨vs, h1, rs⟩ := hh.hp _ _ hG
        exact seq rfl rfl (SqL.of h1) rs h
      · rename_i kvs hG
        exact dic (kk := .inl i) rfl rfl hG h
      · exact h.elim
    | _ => exact h.elim
  | str z => cases r1 with
    | ref a =>
      simp only [ix3] at h
      split at h
      · rename_i kvs hG
        exact dic (kk := .inr z) rfl rfl hG h
      · exact h.elim
    | _ => exact h.elim
  | _ => exact h.elim
theorem e_ix {a b : Expr} {ta tb : E3} {pos : Pos} (hu : X.A.units + 1 < cLine) (ha : PE3 X B a ta) (hb : PE3 X B b tb) (hs : PlainIx b := by intro _ _; rfl) : PE3 X B (.Subscript a b pos) (op3 ix3 ta tb) := (pe_ix (i_ix hu) ha hb hs).weak fun _ _ _ h => low_op h
end

/-! ### a[i] = v -/
def st3 (o i v : D) (G : H3) (Q : H3 → Prop) : Prop := match o with
  | .ref a => match G a with
    | some (.lst xs) => match i with
      | .int k => (0 ≤ k ∧ k < xs.length) ∧ Q (up G a (.lst (xs.set k.toNat v)))
      | _ => False
    | some (.dic kvs) => match i with
      | .int k => kvs.length < 1000 ∧ Q (up G a (.dic (putK3 kvs (.inl k) v)))
      | .str k => kvs.length < 1000 ∧ Q (up G a (.dic (putK3 kvs (.inr k) v)))
      | _ => False
    | _ => False
  | _ => False
def gsub3 (to ti : E3) : G3t := fun v σ G Q => to σ G fun o G1 => ti σ G1 fun i G2 => st3 o i v G2 fun G3 => Q σ G3
def lowSet (K : PySem.W.Frag) (P : Hp) : TSet := fun o i v H Q => ∃ F d1 d2 d3 G Q3, R3 K F d1 o ∧ R3 K F d2 i ∧ R3 K F d3 v ∧ RH K F P G H ∧ st3 d1 d2 d3 G Q3 ∧ ∀ H', (∃ F' G', Same F F' ∧ RH K F' P G' H' ∧ Q3 G') → Q H'
section
variable {X : Cx} {B : Bs} {P : Hp}
theorem set_dic (hu : X.A.units + 1 < cLine) : PSet X (fun o i v H Q => ∃ a H', o = .ref a ∧ DPut H a i v H' ∧ Q H') := by
  intro pins s σ H o i v ov iv u Q I ro ri rv h
  obtain ⟨a, H', rfl, g, q⟩ := h
  obtain rfl : ov = Value.ref a := ro
  exact d_setItem hu I g ri rv fun s' I' => ⟨H', I', q⟩
theorem z1000 {n : Nat} (h : n < 1000) : n < sizeLine := by
  rw [sizeLine_eq]
  omega
theorem i_set (hu : X.A.units + 1 < cLine) : PSet X (lowSet X.K P) := by
  intro pins s τ H o i v ov iv u Q I ro ri rv ⟨F, d1, d2, d3, G, Q3, r1, r2, r3, hh, h, k⟩
  have dic : ∀ {a : Addr} {kvs : List (Key × D)} {kk : Key}, o = .ref a → i = kV kk → G a = some (.dic kvs) → kvs.length < 1000 → Q3 (up G a (.dic (putK3 kvs kk d3))) → wpAny (model X.prog X.w) X.A (setItem ov iv u) (fun _ s' => ∃ H', Inv X pins τ H' s' ∧ Q H') X.xe s := fun {a kvs kk} eo ei hG hl q => by
    obtain ⟨vs, h1, rk⟩ := hh.hp _ _ hG
    refine set_dic hu pins s τ H o i v ov iv u Q I ro ri rv ⟨a, _, eo, ?_, k _ ⟨F, _, Same.refl F, hh.put (o := .dic (putK3 kvs kk d3)) hG ⟨_, rfl, rk.put r3⟩, q⟩⟩
    rw [ei]
    exact DPut.k h1 (by rw [← rk.length]; exact z1000 hl)
  cases r1 with
  | ref a =>
    simp only [st3] at h
    split at h
    · rename_i xs hG
      obtain ⟨vs, h1, rs⟩ := hh.hp _ _ hG
      cases r2 with
      | int kk =>
        obtain ⟨⟨b1, b2⟩, q⟩ := h
        refine set_list pins s τ H _ _ v ov iv u Q I ro ri rv ⟨a, vs, kk, kk.toNat, rfl, rfl, h1, ?_, k _ ⟨F, _, Same.refl F, hh.put (o := .lst (xs.set kk.toNat d3)) hG ⟨_, rfl, rs.set r3 _⟩, q⟩⟩
        unfold ixN
        rw [if_pos b1, if_pos (by rw [← rs.length]; exact b2)]
      | _ => exact h.elim
    · rename_i kvs hG
      cases r2 with
      | int kk => exact dic (kk := .inl kk) rfl rfl hG h.1 h.2
      | str kk => exact dic (kk := .inr kk) rfl rfl hG h.1 h.2
      | _ => exact h.elim
    · exact h.elim
  | _ => exact h.elim
theorem g_sub {o i : Expr} {to ti : E3} {pos : Pos} (hu : X.A.units + 1 < cLine) (ho : PE3 X B o to) (hi : PE3 X B i ti)
    (ha : ∀ v, assign (.Subscript o i pos) X.env v = (holding [v] (eval o X.env) >>= fun ov => holding [v, ov] (eval i X.env) >>= fun iv => standAt pos >>= fun _ => holding [v, ov, iv] (setItem ov iv v) >>= fun _ => release [v, ov, iv] []) := by intro _; rfl) : PG3 X B (.Subscript o i pos) (gsub3 to ti) :=
  (pg_sub ho hi (i_set (P := B.P) hu) ha).weak fun v τ H Q ⟨F, σ, G, Q3, d, hf, hs, hh, r, h, k⟩ => low_run hf hs hh h fun F1 v1 d1 G1 H1 f1 hh1 r1 q1 => low_run (hf.trans f1) (hs.mono f1) hh1 q1 fun F2 v2 d2 G2 H2 f2 hh2 r2 q2 =>
    ⟨F2, d1, d2, d, G2, _, r1.mono f2, r2, r.mono (f1.trans f2), hh2, q2, fun H' ⟨F', G', f', hh', q⟩ => k _ H' ⟨F', σ, G', f1.trans (f2.trans f'), hs.mono (f1.trans (f2.trans f')), hh', q⟩⟩
end

/-! ### a dict that is written out, its keys texts -/
def dkeys : List (D × D) → Option (List (Key × D))
  | [] => some []
  | (.str k, d) :: r => (dkeys r).map fun l => (.inr k, d) :: l
  | (.int k, d) :: r => (dkeys r).map fun l => (.inl k, d) :: l
  | _ => none
def prs3 : List (E3 × E3) → S3 → H3 → (List (D × D) → H3 → Prop) → Prop
  | [], _, G, Q => Q [] G
  | (tk, tv) :: r, σ, G, Q => tk σ G fun x G1 => tv σ G1 fun y G2 => prs3 r σ G2 fun ps G3 => Q ((x, y) :: ps) G3
def dic3 (trs : List (E3 × E3)) : E3 := fun σ G Q => prs3 trs σ G fun ps G2 => ∃ kvs, dkeys ps = some kvs ∧ (kvs.length ≤ 15 ∧ (kvs.map (·.1)).Nodup) ∧ ∀ p, G2 p = none → Q (.ref p) (up G2 p (.dic kvs))
section
variable {X : Cx} {B : Bs} {pos : Pos}
inductive PD3 (X : Cx) (B : Bs) (pos : Pos) : List (Option Expr) → List Expr → List (E3 × E3) → Prop
  | nil : PD3 X B pos [] [] []
  | cons {k v : Expr} {ks : List (Option Expr)} {vs : List Expr} {tk tv : E3} {trs : List (E3 × E3)} (hk : ∀ B', PE3 X B' k tk) (hv : ∀ B', PE3 X B' v tv) (hr : PD3 X B pos ks vs trs) : PD3 X B pos (some k :: ks) (v :: vs) ((tk, tv) :: trs)
theorem PD3.low (B' : Bs) : ∀ {ks : List (Option Expr)} {vs : List Expr} {trs : List (E3 × E3)}, PD3 X B pos ks vs trs → PPs X pos ks vs (trs.map fun t => (low X.K B' t.1, low X.K B' t.2))
  | _, _, _, .nil => pps_nil
  | _, _, _, .cons hk hv hr => pps_cons (hk B') (hv B') (hr.low B')
theorem nodup_merge : ∀ {more acc : List (Key × V)}, ((acc ++ more).map (·.1)).Nodup → more.foldl (fun a kv => putK a kv.1 kv.2) acc = acc ++ more
  | [], acc, _ => by simp
  | p :: r, acc, h => by
    have e : putK acc p.1 p.2 = acc ++ [p] := by
      unfold putK
      rw [if_neg]
      intro q
      rw [List.any_eq_true] at q
      obtain ⟨z, hz, e⟩ := q
      have e' := of_decide_eq_true e
      rw [List.map_append, List.map_cons, List.nodup_append] at h
      exact h.2.2 z.1 (List.mem_map_of_mem hz) p.1 List.mem_cons_self e'
    rw [List.foldl_cons, e, nodup_merge (by rw [List.append_assoc]; exact h), List.append_assoc]
    rfl
end
end T3

namespace T3
open PySem PySem.Spec PyProof.Rows L2

/-! ### the dict -/
inductive RP (K : PySem.W.Frag) (F : Hp) : List (D × D) → List (V × V) → Prop
  | nil : RP K F [] []
  | cons {a b : D} {u v : V} {ds : List (D × D)} {vs : List (V × V)} : R3 K F a u → R3 K F b v → RP K F ds vs → RP K F ((a, b) :: ds) ((u, v) :: vs)
theorem RP.keys {K : PySem.W.Frag} {F : Hp} : ∀ {ps : List (D × D)} {us : List (V × V)} {kvs : List (Key × D)}, RP K F ps us → dkeys ps = some kvs → ∃ vs, us = vs.map (fun kv => (kV kv.1, kv.2)) ∧ RK K F kvs vs
  | _, _, _, .nil, e => by
    cases e
    exact ⟨[], rfl, .nil⟩
  | _, _, _, .cons ra rb r, e => by
    cases ra with
    | int i =>
      simp only [dkeys] at e
      obtain ⟨l, e1, e2⟩ := Option.map_eq_some_iff.mp e
      subst e2
      obtain ⟨vs, e3, rk⟩ := RP.keys r e1
      exact ⟨(.inl i, _) :: vs, by rw [e3]; rfl, .cons rb rk⟩
    | str i =>
      simp only [dkeys] at e
      obtain ⟨l, e1, e2⟩ := Option.map_eq_some_iff.mp e
      subst e2
      obtain ⟨vs, e3, rk⟩ := RP.keys r e1
      exact ⟨(.inr i, _) :: vs, by rw [e3]; rfl, .cons rb rk⟩
    | _ => simp [dkeys] at e
def exl (K : PySem.W.Frag) (t : E3) : TE := fun τ H Q => ∃ B', low K B' t τ H Q
theorem prs_run {K : PySem.W.Frag} {B' : Bs} {τ : L2.St} {σ : S3} : ∀ {trs : List (E3 × E3)} {F : Hp} {G : H3} {H : Hp} {Q3 : List (D × D) → H3 → Prop} {Q : List (V × V) → Hp → Prop}, Same B'.F F → RS K F σ τ → RH K F B'.P G H → prs3 trs σ G Q3 →
    (∀ F' us ps G' H', Same F F' → RH K F' B'.P G' H' → RP K F' ps us → Q3 ps G' → Q us H') → tPairs (trs.map fun t => (exl K t.1, exl K t.2)) τ H Q
  | [], F, G, H, Q3, Q, hf, hs, hh, h, k => k F [] [] G H (Same.refl F) hh .nil h
  | (tk, tv) :: r, F, G, H, Q3, Q, hf, hs, hh, h, k =>
    ⟨B', low_run hf hs hh h fun F1 v1 d1 G1 H1 f1 hh1 r1 q1 => ⟨B', low_run (hf.trans f1) (hs.mono f1) hh1 q1 fun F2 v2 d2 G2 H2 f2 hh2 r2 q2 =>
      prs_run (trs := r) (hf.trans (f1.trans f2)) (hs.mono (f1.trans f2)) hh2 q2 fun F3 us ps G3 H3' f3 hh3 rp q3 => k F3 _ _ G3 H3' (f1.trans (f2.trans f3)) hh3 (.cons (r1.mono (f2.trans f3)) (r2.mono f3) rp) q3⟩⟩
theorem PD3.ex {X : Cx} {B : Bs} {pos : Pos} : ∀ {ks : List (Option Expr)} {vs : List Expr} {trs : List (E3 × E3)}, PD3 X B pos ks vs trs → PPs X pos ks vs (trs.map fun t => (exl X.K t.1, exl X.K t.2))
  | _, _, _, .nil => pps_nil
  | _, _, _, .cons hk hv hr => pps_cons ⟨fun pins s τ H Q I ⟨B', z⟩ => (hk B').run pins s τ H Q I z⟩ ⟨fun pins s τ H Q I ⟨B', z⟩ => (hv B').run pins s τ H Q I z⟩ hr.ex
theorem e_dic {X : Cx} {B : Bs} {pos : Pos} {ks : List (Option Expr)} {vs : List Expr} {trs : List (E3 × E3)} (h : PD3 X B pos ks vs trs) (hall : ks.all (·.isSome) = true := by rfl) (hl : ks.length = vs.length := by rfl) (h0 : ks ≠ [] := by exact fun z => by cases z) (h15 : ks.length ≤ 15 := by decide) : PE3 X B (.Dict ks vs pos) (dic3 trs) :=
  (pe_disp h.ex hall hl h0 h15).weak fun τ H Q ⟨F, σ, G, Q3, hf, hs, hh, hq, k⟩ p hp => by
    have pp := hh.freeP hp
    refine prs_run (B' := ⟨B.F, upd B.P p (.dK [])⟩) hf hs (hh.pin hp) hq fun F2 us ps G2 H2 f2 hh2 rp q2 => ?_
    obtain ⟨kvs, e, ⟨hl2, nd⟩, q2⟩ := q2
    obtain ⟨vs2, e2, rk⟩ := rp.keys e
    refine ⟨hh2.pn p _ upd_same, vs2, e2, by rw [← rk.length]; exact hl2, ?_⟩
    have em : mergeK [] vs2 = vs2 := by
      have z := nodup_merge (more := vs2) (acc := []) (by rw [List.nil_append, rk.keys]; exact nd)
      rw [List.nil_append] at z
      exact z
    rw [em]
    have hh3 := (hh2.repin (u' := .dK vs2)).unpin (o := .dic kvs) pp ⟨vs2, rfl, rk⟩
    exact k _ _ ⟨F2, .ref p, _, f2, hh3, .ref p, q2 p (hh2.pf p _ upd_same).2⟩

/-! ### [e for target in iter if test] -/
def wipe3 (σ : S3) : List Nat → S3
  | [] => σ
  | v :: vs => (wipe3 σ vs).set v none
theorem RS.wipe {K : PySem.W.Frag} {F : Hp} {σ : S3} {τ : L2.St} (r : RS K F σ τ) : ∀ vs : List Nat, RS K F (wipe3 σ vs) (L2.wipe τ vs)
  | [] => r
  | v :: vs => (r.wipe vs).gone v
theorem wipe_at (τ : L2.St) : ∀ (vs : List Nat) (i : Nat), i ∈ vs → ∀ x, L2.wipe (τ.set i x) vs = L2.wipe τ vs
  | v :: vs, i, h, x => by
    unfold L2.wipe
    by_cases e : i ∈ vs
    · rw [wipe_at τ vs i e x]
    · have e2 : i = v := by
        rcases List.mem_cons.mp h with z | z
        · exact z
        · exact absurd z e
      subst e2
      have out : ∀ (ws : List Nat), i ∉ ws → L2.wipe (τ.set i x) ws = (L2.wipe τ ws).set i x := by
        intro ws
        induction ws with
        | nil => intro _; rfl
        | cons w ws ih =>
          intro hn
          unfold L2.wipe
          rw [ih fun z => hn (List.mem_cons_of_mem _ z), List.set_comm _ _ (fun z => hn (by rw [z]; exact List.mem_cons_self))]
      rw [out vs e, List.set_set]
theorem wipe_wipe (τ : L2.St) : ∀ vs ws : List Nat, (∀ i ∈ ws, i ∈ vs) → L2.wipe (L2.wipe τ ws) vs = L2.wipe τ vs
  | vs, [], _ => rfl
  | vs, w :: ws, h => by
    show L2.wipe ((L2.wipe τ ws).set w none) vs = _
    rw [wipe_at _ vs w (h w List.mem_cons_self), wipe_wipe τ vs ws fun i hi => h i (List.mem_cons_of_mem _ hi)]
/-- a target within a comprehension -/
def CT (K : PySem.W.Frag) (vs : List Nat) (g : TG) (sv : D → S3 → Option S3) : Prop := ∀ (F P : Hp) (G : H3) (H : Hp) (σ σ2 : S3) (τ : L2.St) (d : D) (v : V), RH K F P G H → R3 K F d v → RS K F σ τ → sv d σ = some σ2 →
  ∃ τ2, RS K F σ2 τ2 ∧ L2.wipe τ2 vs = L2.wipe τ vs ∧ ∀ Q : L2.St → Hp → Prop, Q τ2 H → g v τ H Q
def svn (i : Nat) : D → S3 → Option S3 := fun d σ => some (σ.set i (some d))
def svs : List Nat → List D → S3 → Option S3
  | [], [], σ => some σ
  | i :: is, d :: ds, σ => svs is ds (σ.set i (some d))
  | _, _, _ => none
def svt (is : List Nat) : D → S3 → Option S3 := fun d σ => match d with
  | .tup ds => svs is ds σ
  | _ => none
def gNs : List Nat → TGs
  | [] => gNil
  | i :: is => gCons (gName i) (gNs is)
theorem ct_name {K : PySem.W.Frag} {vs : List Nat} {i : Nat} (h : i ∈ vs) : CT K vs (gName i) (svn i) := fun F P G H σ σ2 τ d v hh r rs e => by
  cases e
  exact ⟨_, rs.set i r, wipe_at τ vs i h _, fun Q q => q⟩
theorem ct_ns {K : PySem.W.Frag} {vs : List Nat} {F : Hp} {H : Hp} : ∀ {is : List Nat} {ds : List D} {us : List V} {σ σ2 : S3} {τ : L2.St}, (∀ i ∈ is, i ∈ vs) → R3s K F ds us → RS K F σ τ → svs is ds σ = some σ2 →
    ds.length = is.length ∧ ∃ τ2, RS K F σ2 τ2 ∧ L2.wipe τ2 vs = L2.wipe τ vs ∧ ∀ Q : L2.St → Hp → Prop, Q τ2 H → gNs is us τ H Q
  | [], [], _, σ, σ2, τ, _, .nil, rs, e => by
    cases e
    exact ⟨rfl, τ, rs, rfl, fun Q q => ⟨rfl, q⟩⟩
  | [], _ :: _, _, _, _, _, _, _, _, e => by cases e
  | _ :: _, [], _, _, _, _, _, _, _, e => by cases e
  | i :: is, d :: ds, _, σ, σ2, τ, hi, .cons r rr, rs, e => by
    obtain ⟨hl, τ2, rs2, hw, hq⟩ := ct_ns (H := H) (is := is) (fun j hj => hi j (List.mem_cons_of_mem _ hj)) rr (rs.set i r) e
    exact ⟨by rw [List.length_cons, List.length_cons, hl], τ2, rs2, hw.trans (wipe_at τ vs i (hi i List.mem_cons_self) _), fun Q q => ⟨_, _, rfl, hq Q q⟩⟩
theorem ct_tup {K : PySem.W.Frag} {vs is : List Nat} (h : ∀ i ∈ is, i ∈ vs) : CT K vs (gTup K is.length (gNs is)) (svt is) := fun F P G H σ σ2 τ d v hh r rs e => by
  cases r with
  | tup h1 h2 =>
    obtain ⟨hl, τ2, rs2, hw, hq⟩ := ct_ns (H := H) h h2 rs e
    exact ⟨τ2, rs2, hw, fun Q q => ⟨_, _, rfl, same_t hh.fz h1, by rw [← h2.length, hl], hq Q q⟩⟩
  | _ => cases e
def lci (keep : H3 → Prop) (sv : D → S3 → Option S3) (tt : B3) (te : E3) (σw : S3) (Q : List D → H3 → Prop) : List D → List D → H3 → Prop
  | [], acc, G => Q acc G
  | x :: xs, acc, G => match sv x σw with
    | some σ2 => tt σ2 G fun b G3 => if b = true then te σ2 G3 fun y G4 => (acc.length < 10000 ∧ keep G4) ∧ lci keep sv tt te σw Q xs (acc ++ [y]) G4 else keep G3 ∧ lci keep sv tt te σw Q xs acc G3
    | none => False
def yes3 : B3 := fun _ G Q => Q true G
/-- what becomes of the items: a list of the heap, or a value -/
abbrev Fin3 := List D → H3 → K3 → Prop
def finv : Fin3 := fun ds G Q => Q (.lst ds) G
def FinOk (fin : Fin3) : Prop := ∀ (K : PySem.W.Frag) (F P : Hp) (G : H3) (H : Hp) (L : Addr) (xs : List D) (us : List V) (Q : K3), RH K F (upd P L (.lst us)) G H → P L = none → R3s K F xs us → fin xs G Q → post K F P Q (.ref L) H
theorem fin_new : FinOk newl := fun K F P G H L xs us Q hh pL r h => ⟨F, .ref L, _, Same.refl F, hh.unpin (o := .lst xs) pL ⟨us, rfl, r⟩, .ref L, h L (hh.pf L _ upd_same).2⟩
theorem fin_val : FinOk finv := fun K F P G H L xs us Q hh pL r h => by
  have gL := (hh.pf L _ upd_same).2
  obtain ⟨F2, f2, hh2, r2⟩ := View.lst (up_same (G := G) (a := L) (o := .lst xs)) K F P H (.ref L) (hh.unpin (o := .lst xs) pL ⟨us, rfl, r⟩) (.ref L)
  rw [dn_up gL] at hh2
  exact ⟨F2, _, G, f2, hh2, r2, h⟩
def lcg3 (fin : Fin3) (ti : I3) (sv : D → S3 → Option S3) (tt : B3) (te : E3) (vs : List Nat) : E3 := fun σ G Q => ti σ G fun j G1 => lci j.keep sv tt te (wipe3 σ vs) (fun ds G2 => fin ds G2 Q) j.items [] G1
abbrev lc3 := lcg3 newl
abbrev lcf3 := lcg3 finv
def exb (K : PySem.W.Frag) (t : B3) : TT := fun τ H Q => ∃ B', lowB K B' t τ H Q
theorem lc_low {fin : Fin3} (fo : FinOk fin) {K : PySem.W.Frag} {B : Bs} {ti : I3} {g : TG} {sv : D → S3 → Option S3} {tt : B3} {te : E3} {vs : List Nat} {τ : L2.St} {H : Hp} {Q : VK} (ct : CT K vs g sv) (h : low K B (lcg3 fin ti sv tt te vs) τ H Q) : tLc (lowI K B ti) g (exb K tt) (exl K te) vs τ H Q := by
  obtain ⟨F, σ, G, Q3, hf, hs, hh, h, k⟩ := h
  refine ⟨F, σ, G, _, hf, hs, hh, h, fun J H1 ⟨F1, G1, j, f1, hh1, jr, kp, q1⟩ L hL => ?_⟩
  have pL := hh1.freeP hL
  refine ⟨fun i m H' => m = j.items.length - i ∧ i ≤ j.items.length ∧ ∃ F' G' acc us, Same F1 F' ∧ RH K F' (upd B.P L (.lst us)) G' H' ∧ R3s K F' acc us ∧ j.keep G' ∧ lci j.keep sv tt te (wipe3 σ vs) (fun ds G2 => fin ds G2 Q3) (j.items.drop i) acc G',
    ⟨_, rfl, Nat.zero_le _, F1, G1, [], [], Same.refl F1, hh1.pin hL, .nil, kp, q1⟩, ?_⟩
  rintro i m H2 ⟨rfl, hi, F2, G2, acc, us, f2, hh2, ra, kp2, q2⟩
  obtain ⟨j1, j2⟩ := jr i H2 G2 F2 _ f2 hh2 kp2
  by_cases hlt : i < j.items.length
  · obtain ⟨go, yl⟩ := j1 hlt
    obtain ⟨x, hx, hd⟩ := drop_at hlt
    rw [hd] at q2
    refine .inr ⟨go, fun H' => ∃ F' G' acc us, Same F1 F' ∧ RH K F' (upd B.P L (.lst us)) G' H' ∧ R3s K F' acc us ∧ j.keep G' ∧ lci j.keep sv tt te (wipe3 σ vs) (fun ds G2 => fin ds G2 Q3) (j.items.drop (i + 1)) acc G', fun H' z => ⟨_, by omega, rfl, hlt, z⟩, fun v H3' y => ?_⟩
    obtain ⟨F3, d, f3, hh3, e3, r3⟩ := yl v H3' y
    rw [hx] at e3
    cases e3
    simp only [lci] at q2
    split at q2
    · rename_i σ2 hsv
      obtain ⟨τ2, rs2, hw, hq⟩ := ct F3 _ G2 H3' (wipe3 σ vs) σ2 (L2.wipe τ vs) x v hh3 r3 ((hs.mono (f1.trans (f2.trans f3))).wipe vs) hsv
      refine hq _ ⟨hw.trans (wipe_wipe τ vs vs fun _ z => z), ⟨F3, upd B.P L (.lst us)⟩, ?_⟩
      refine lowB_run (B := ⟨F3, upd B.P L (.lst us)⟩) (Same.refl F3) rs2 hh3 q2 fun F4 b G4 H4 f4 hh4 q4 => ?_
      cases b with
      | true =>
        rw [if_pos rfl] at q4 ⊢
        refine ⟨⟨F3, upd B.P L (.lst us)⟩, low_run (B := ⟨F3, upd B.P L (.lst us)⟩) f4 (rs2.mono f4) hh4 q4 fun F5 w d5 G5 H5 f5 hh5 r5 q5 => ?_⟩
        have f35 := f3.trans (f4.trans f5)
        refine ⟨us, hh5.pn L _ upd_same, ?_, F5, G5, acc ++ [d5], us ++ [w], f2.trans f35, hh5.repin, (ra.mono f35).append (.cons r5 .nil), q5.1.2, q5.2⟩
        rw [← ra.length, sizeLine_eq]
        have := q5.1.1
        omega
      | false =>
        rw [if_neg Bool.false_ne_true] at q4 ⊢
        have f34 := f3.trans f4
        exact ⟨F4, G4, acc, us, f2.trans f34, hh4, ra.mono f34, q4.1, q4.2⟩
    · exact q2.elim
  · have e : i = j.items.length := by omega
    subst e
    rw [List.drop_length] at q2
    exact .inl ⟨j2 (Nat.le_refl _), k _ _ ((fo K F2 B.P G2 H2 L acc us Q3 hh2 pL ra q2).le (f1.trans f2))⟩
section
variable {X : Cx} {B : Bs} {elt tg iter : Expr} {ifs : List Expr} {scope : Scope} {own : List (Str × Nat)} {pos : Pos} {ti : I3} {g : TG} {sv : D → S3 → Option S3} {tt : B3} {te : E3}
abbrev Bk (X : Cx) (scope : Scope) (Y : Cx → Prop) : Prop := ∀ (s : Shared) (H : Hp) (C : Addr) (cl : List (Str × Addr)) (fp : List Addr), Y (X.blk s H scope (compEnvC scope cl C X.env) fp)
inductive Ifs3 (X : Cx) : List Expr → B3 → Prop
  | nil : Ifs3 X [] yes3
  | one {c : Expr} {t : B3} (h : ∀ B', PT3 X B' c t) : Ifs3 X [c] t
theorem Ifs3.pts {X : Cx} {ifs : List Expr} {t : B3} (h : Ifs3 X ifs t) : PTs X ifs (exb X.K t) := by
  cases h with
  | nil => exact ⟨fun pins s τ H Q I ⟨B', F, σ, G, Q3, hf, hs, hh, h, k⟩ => pts_nil.run pins s τ H Q I (k true H ⟨F, G, Same.refl F, hh, h⟩)⟩
  | one h => exact pts_one ⟨fun pins s τ H Q I ⟨B', z⟩ => (h B').run pins s τ H Q I z⟩
theorem ex_run {e : Expr} {t : E3} (h : ∀ B', PE3 X B' e t) : PE X e (exl X.K t) := ⟨fun pins s τ H Q I ⟨B', z⟩ => (h B').run pins s τ H Q I z⟩
theorem e_lc (ct : CT X.K (own.map (·.2)) g sv) (hc : X.calm = true) (hN : X.N.Nodup) (hi : PI3 X B tg iter ti) (ok : BlkOk X.N X.env.scope scope own) (hg : Bk X scope fun Y => PG Y tg g) (ht : Bk X scope fun Y => Ifs3 Y ifs tt)
    (he : Bk X scope fun Y => ∀ B', PE3 Y B' elt te) (hs : ∀ x, foldedSetIterable iter X.env x = pure x := by intro _; rfl) : PE3 X B (.ListComp elt [⟨tg, iter, ifs, 0⟩] scope pos) (lc3 ti sv tt te (own.map (·.2))) :=
  (pe_lc hc hN hi ok hg (fun s H C cl fp => (ht s H C cl fp).pts) (fun s H C cl fp => ex_run (he s H C cl fp)) hs).weak fun τ H Q h => lc_low fin_new ct h
theorem s_lc {y : Str} {py spos : Pos} (i : Nat) (ct : CT X.K (own.map (·.2)) g sv) (hc : X.calm = true) (hN : X.N.Nodup) (hi : PI3 X B tg iter ti) (ok : BlkOk X.N X.env.scope scope own) (hg : Bk X scope fun Y => PG Y tg g) (ht : Bk X scope fun Y => Ifs3 Y ifs tt)
    (he : Bk X scope fun Y => ∀ B', PE3 Y B' elt te) (hsw : swapsWith (.ListComp elt [⟨tg, iter, ifs, 0⟩] scope pos) (some (.Name y py)) spos.line X.env = pure true) (hy : X.N[i]? = some y := by rfl) (hyl : X.env.scope.names.lookup y = some .local := by rfl) (hs : ∀ x, foldedSetIterable iter X.env x = pure x := by intro _; rfl) :
    PS3 X B (.Assign [.Name y py] (.ListComp elt [⟨tg, iter, ifs, 0⟩] scope pos) spos) (set3 i (lc3 ti sv tt te (own.map (·.2)))) :=
  (ps_setLc hc hN hy hyl hsw hi ok hg (fun s H C cl fp => (ht s H C cl fp).pts) (fun s H C cl fp => ex_run (he s H C cl fp)) hs).weak fun Ed τ H ⟨F, σ, G, N, hf, hs, hh, h, kn⟩ =>
    lc_low fin_new ct ⟨F, σ, G, _, hf, hs, hh, h, fun v H' ⟨F', d, G', f', hh', r', q⟩ => kn.nx _ _ ⟨F', _, G', f', (hs.mono f').set i r', hh', q⟩⟩
theorem e_lcf (ct : CT X.K (own.map (·.2)) g sv) (hc : X.calm = true) (hN : X.N.Nodup) (hi : PI3 X B tg iter ti) (ok : BlkOk X.N X.env.scope scope own) (hg : Bk X scope fun Y => PG Y tg g) (ht : Bk X scope fun Y => Ifs3 Y ifs tt)
    (he : Bk X scope fun Y => ∀ B', PE3 Y B' elt te) (hs : ∀ x, foldedSetIterable iter X.env x = pure x := by intro _; rfl) : PE3 X B (.ListComp elt [⟨tg, iter, ifs, 0⟩] scope pos) (lcf3 ti sv tt te (own.map (·.2))) :=
  (pe_lc hc hN hi ok hg (fun s H C cl fp => (ht s H C cl fp).pts) (fun s H C cl fp => ex_run (he s H C cl fp)) hs).weak fun τ H Q h => lc_low fin_val ct h
theorem s_lcf {y : Str} {py spos : Pos} (i : Nat) (ct : CT X.K (own.map (·.2)) g sv) (hc : X.calm = true) (hN : X.N.Nodup) (hi : PI3 X B tg iter ti) (ok : BlkOk X.N X.env.scope scope own) (hg : Bk X scope fun Y => PG Y tg g) (ht : Bk X scope fun Y => Ifs3 Y ifs tt)
    (he : Bk X scope fun Y => ∀ B', PE3 Y B' elt te) (hsw : swapsWith (.ListComp elt [⟨tg, iter, ifs, 0⟩] scope pos) (some (.Name y py)) spos.line X.env = pure true) (hy : X.N[i]? = some y := by rfl) (hyl : X.env.scope.names.lookup y = some .local := by rfl) (hs : ∀ x, foldedSetIterable iter X.env x = pure x := by intro _; rfl) :
    PS3 X B (.Assign [.Name y py] (.ListComp elt [⟨tg, iter, ifs, 0⟩] scope pos) spos) (set3 i (lcf3 ti sv tt te (own.map (·.2)))) :=
  (ps_setLc hc hN hy hyl hsw hi ok hg (fun s H C cl fp => (ht s H C cl fp).pts) (fun s H C cl fp => ex_run (he s H C cl fp)) hs).weak fun Ed τ H ⟨F, σ, G, N, hf, hs, hh, h, kn⟩ =>
    lc_low fin_val ct ⟨F, σ, G, _, hf, hs, hh, h, fun v H' ⟨F', d, G', f', hh', r', q⟩ => kn.nx _ _ ⟨F', _, G', f', (hs.mono f').set i r', hh', q⟩⟩
end
end T3

namespace T3
open PySem PySem.Spec PyProof.Rows L2

/-! ### == by an own __eq__ -/
def onlyb (Q : K3) : K3 := fun d G => match d with
  | .bl b => Q (.bl b) G
  | _ => False
/-- the left one is an instance of the class at C, whose own __eq__ promises sp; else as data -/
def eqo3 (K : PySem.W.Frag) (C : Addr) (sp : Sp3) : R32 := fun x y G Q => match insOf x G with
  | some (C', _) => C' = C ∧ ∃ t, typ y G = some t ∧ (TypOk K t ∧ PySem.W.notFirst K C t = true) ∧ sp [x, y] G (onlyb Q) fun _ _ _ => False
  | none => eq3 x y G Q
theorem o_eqo {X : Cx} {P : Hp} {k : Nat} {f C : Addr} {fd : FuncData} {ps : List Str} {sp : Sp3} (hu : X.A.units + 64 < cLine) (FO : Fk X.prog X.w X.K X.mg X.base k f fd ps sp) (hr : Room k X.A) (ab : AB X.K fd ps 2 [] fun ds _ => ds)
    (hs : PySem.W.findIn X.K (.ref C) "__eq__" = some (some (.ref f))) (hfn : PySem.W.isFn X.K (.ref f) = true) : OpR3 X P (compareOp .Eq) (eqo3 X.K C sp) := by
  intro pins s τ H x y v u Q I rx ry ⟨F, d1, d2, G, Q3, r1, r2, hh, h, k'⟩
  unfold eqo3 at h
  split at h
  · rename_i C' fs hi
    obtain ⟨rfl, t, et, ⟨ok, nf⟩, h⟩ := h
    obtain ⟨a, dx, vs, rfl, ha, rf⟩ := insOf_rel hh r1 hi
    obtain rfl : v = Value.ref a := rx
    obtain ⟨mA, J, _⟩ := ins_get I.hok ha
    obtain ⟨od, J, _⟩ := J.look
    obtain ⟨PP, Z, pz, _⟩ := kit_of I ry (typ_rel hh r2 et ok)
    obtain ⟨m, hF⟩ := I.fr
    obtain ⟨g1, g2, kb, rel⟩ := ab.ex
    show wpAny (model X.prog X.w) X.A (richCompare .Eq (.ref a) u) (EP X pins τ Q) X.xe s
    refine PySem.W.cmp_K (op := .Eq) (tb := t) (by omega) hF I.ok.mod.kin J (Z.ty _ _ I.kIn pz) nf hs hfn ?_
    refine thn (run3 (E := E0) (us := [.ref a, u]) (vs := [.ref a, y]) (ws := []) (zs := []) FO hr kb (fun pins' H' s' e s2 I' c => passL pins' τ H' s' e s2 I' c) I (.cons rfl (.cons ry .nil)) .nil rfl rfl
      (⟨F, P, [d1, d2], G, onlyb Q3, fun _ _ _ => False, rel F [d1, d2] _ [] [] rfl rfl (.cons r1 (.cons r2 .nil)) .nil, hh, h, fun v' H' z => z, fun c d H' ⟨_, _, _, _, _, _, z⟩ => z.elim⟩ : lowSp X.K sp _ H (fun v' H' => post X.K F P (onlyb Q3) v' H') E0)) fun w s' z => ?_
    obtain ⟨v', H', I', rv', F', d', G', f', hh', r', q⟩ := z
    cases r' with
    | bl b =>
      obtain rfl : w = Value.bool b := rv'
      exact ⟨.bl b, H', I', rfl, k' _ _ ⟨F', .bl b, G', f', hh', .bl b, q⟩⟩
    | _ => exact q.elim
  · exact o_eq hu pins s τ H x y v u Q I rx ry ⟨F, d1, d2, G, Q3, r1, r2, hh, h, k'⟩

/-! ### built-ins -/
def len3 : C3 := fun ds G Q => match ds with
  | [.str z] => z.length ≤ sizeLine ∧ Q (.int z.length) G
  | [.tup xs] => Q (.int xs.length) G
  | [.lst xs] => Q (.int xs.length) G
  | [.kls xs] => Q (.int xs.length) G
  | [.ref a] => match G a with
    | some (.lst xs) => Q (.int xs.length) G
    | some (.dic kvs) => Q (.int kvs.length) G
    | _ => False
  | _ => False
def int3 : C3 := fun ds G Q => match ds with
  | [.int i] => Q (.int i) G
  | [.bl k] => Q (.int (if k then 1 else 0)) G
  | _ => False
def abs3 : C3 := fun ds G Q => match ds with
  | [.int i] => Q (.int (if i < 0 then -i else i)) G
  | _ => False
def str3 : C3 := fun ds G Q => match ds with
  | [.int i] => i.natAbs.log2 < 1920 ∧ Q (.str (toString i)) G
  | _ => False
/-- the items of a list or a tuple -/
def sqv (d : D) (G : H3) : Option (List D) := match d with
  | .tup xs => some xs
  | d => lsv d G
def list3 : C3 := fun ds G Q => match ds with
  | [x] => match sqv x G with
    | some xs => newl xs G Q
    | none => False
  | _ => False
def tuple3 : C3 := fun ds G Q => match ds with
  | [x] => match sqv x G with
    | some xs => Q (.tup xs) G
    | none => False
  | _ => False
def bls : List D → Option (List Bool)
  | [] => some []
  | .bl b :: r => (bls r).map fun l => b :: l
  | _ => none
def all3 : C3 := fun ds G Q => match ds with
  | [x] => ∃ xs bs, lsv x G = some xs ∧ bls xs = some bs ∧ Q (.bl (bs.all id)) G
  | _ => False
theorem bls_rel {K : PySem.W.Frag} {F : Hp} : ∀ {xs : List D} {vs : List V} {bs : List Bool}, R3s K F xs vs → bls xs = some bs → vs = bs.map V.bl
  | _, _, _, .nil, e => by
    cases e
    rfl
  | _, _, _, .cons r rr, e => by
    cases r with
    | bl b =>
      simp only [bls] at e
      obtain ⟨l, e1, e2⟩ := Option.map_eq_some_iff.mp e
      subst e2
      rw [bls_rel rr e1]
      rfl
    | _ => simp [bls] at e
section
variable {X : Cx} {B : Bs}
theorem one_of {K : PySem.W.Frag} {F : Hp} {ds : List D} {vs : List V} (r : R3s K F ds vs) : (∃ d v, ds = [d] ∧ vs = [v] ∧ R3 K F d v) ∨ ∀ d, ds ≠ [d] := by
  cases r with
  | nil => exact .inr fun d e => by cases e
  | cons r rr => cases rr with
    | nil => exact .inl ⟨_, _, rfl, rfl, r⟩
    | cons _ _ => exact .inr fun d e => by cases e
theorem c_len : CallR3 X B (.builtin "len") len3 := by
  intro pins s τ H xs us Q I rv ⟨F, ds, G, Q3, hf, rl, hh, h, k⟩
  rcases one_of rl with ⟨d, v, rfl, rfl, r⟩ | n
  · have seq : ∀ {p : Addr} {vs : List V} {ys : List D}, v = .ref p → (SqL X.K H p vs ∨ SqT X.K H p vs) → R3s X.K F ys vs → Q3 (.int ys.length) G → wpAny (model X.prog X.w) X.A (call (.builtin "len") us) (EP X pins τ Q) X.xe s := fun {p vs ys} ev hq rs q =>
      call_len_seq pins s τ H _ us Q I rv ⟨p, vs, by rw [ev], hq, by rw [← rs.length]; exact okp hh (.int _) q k⟩
    cases r with
    | str z => exact call_len pins s τ H _ us Q I rv ⟨_, z.length, rfl, ⟨h.1, rfl⟩, okp hh (.int _) h.2 k⟩
    | tup h1 h2 => exact seq rfl (.inr (same_t hh.fz h1)) h2 h
    | lst h1 h2 => exact seq rfl (.inl (SqL.of (hh.fz _ _ h1))) h2 h
    | kls h1 h2 => exact seq rfl (.inl (hh.fz.seq h1)) h2 h
    | ref a =>
      simp only [len3] at h
      split at h
      · rename_i ys hG
        obtain ⟨vs, h1, rs⟩ := hh.hp _ _ hG
        exact seq rfl (.inl (SqL.of h1)) rs h
      · rename_i kvs hG
        obtain ⟨vs, h1, rk⟩ := hh.hp _ _ hG
        exact call_lenD pins s τ H _ us Q I rv ⟨a, vs, rfl, h1, by rw [← rk.length]; exact okp hh (.int _) h k⟩
      · exact h.elim
    | _ => exact h.elim
  · unfold len3 at h
    split at h <;> first | exact absurd rfl (n _) | exact h.elim
theorem c_int : CallR3 X B (.type "int") int3 := by
  intro pins s τ H xs us Q I rv ⟨F, ds, G, Q3, hf, rl, hh, h, k⟩
  rcases one_of rl with ⟨d, v, rfl, rfl, r⟩ | n
  · cases r with
    | int i => exact call_int1 pins s τ H _ us Q I rv (.inl ⟨i, rfl, okp hh (.int _) h k⟩)
    | bl b => exact call_int1 pins s τ H _ us Q I rv (.inr ⟨b, rfl, okp hh (.int _) h k⟩)
    | _ => exact h.elim
  · unfold int3 at h
    split at h <;> first | exact absurd rfl (n _) | exact h.elim
theorem c_abs : CallR3 X B (.builtin "abs") abs3 := by
  intro pins s τ H xs us Q I rv ⟨F, ds, G, Q3, hf, rl, hh, h, k⟩
  rcases one_of rl with ⟨d, v, rfl, rfl, r⟩ | n
  · cases r with
    | int i => exact call_abs pins s τ H _ us Q I rv ⟨i, rfl, okp hh (.int _) h k⟩
    | _ => exact h.elim
  · unfold abs3 at h
    split at h <;> first | exact absurd rfl (n _) | exact h.elim
theorem c_str : CallR3 X B (.type "str") str3 := by
  intro pins s τ H xs us Q I rv ⟨F, ds, G, Q3, hf, rl, hh, h, k⟩
  rcases one_of rl with ⟨d, v, rfl, rfl, r⟩ | n
  · cases r with
    | int i => exact call_str_int pins s τ H _ us Q I rv ⟨i, rfl, h.1, okp hh (.str _) h.2 k⟩
    | _ => exact h.elim
  · unfold str3 at h
    split at h <;> first | exact absurd rfl (n _) | exact h.elim
theorem sqv_rel {K : PySem.W.Frag} {F P : Hp} {G : H3} {H : Hp} {d : D} {v : V} {xs : List D} (hh : RH K F P G H) (r : R3 K F d v) (e : sqv d G = some xs) : ∃ p vs, v = .ref p ∧ (SqL K H p vs ∨ SqT K H p vs) ∧ R3s K F xs vs := by
  have ls : lsv d G = some xs → ∃ p vs, v = .ref p ∧ (SqL K H p vs ∨ SqT K H p vs) ∧ R3s K F xs vs := fun e => by
    obtain ⟨p, vs, h1, h2, h3⟩ := lsv_rel hh r e
    exact ⟨p, vs, h1, .inl h2, h3⟩
  cases r with
  | tup h1 h2 =>
    cases e
    exact ⟨_, _, rfl, .inr (same_t hh.fz h1), h2⟩
  | _ => exact ls e
theorem c_list : CallR3 X B (.type "list") list3 := by
  intro pins s τ H xs us Q I rv ⟨F, ds, G, Q3, hf, rl, hh, h, k⟩
  rcases one_of rl with ⟨d, v, rfl, rfl, r⟩ | n
  · simp only [list3] at h
    split at h
    · rename_i ys e
      obtain ⟨p, vs, rfl, hq, rs⟩ := sqv_rel hh r e
      exact call_list_of pins s τ H _ us Q I rv ⟨p, vs, rfl, hq, newl_post hh rs h k⟩
    · exact h.elim
  · unfold list3 at h
    split at h <;> first | exact absurd rfl (n _) | exact h.elim
theorem c_tuple : CallR3 X B (.type "tuple") tuple3 := by
  intro pins s τ H xs us Q I rv ⟨F, ds, G, Q3, hf, rl, hh, h, k⟩
  rcases one_of rl with ⟨d, v, rfl, rfl, r⟩ | n
  · simp only [tuple3] at h
    split at h
    · rename_i ys e
      obtain ⟨p, vs, rfl, hq, rs⟩ := sqv_rel hh r e
      rcases hq with hq | hq
      · exact call_tuple_of pins s τ H _ us Q I rv ⟨p, vs, rfl, .inl ⟨hq, newt_post hh rs h k⟩⟩
      · refine call_tuple_of pins s τ H _ us Q I rv ⟨p, vs, rfl, .inr ⟨hq, ?_⟩⟩
        cases r with
        | tup h1 h2 =>
          cases e
          exact okp hh (.tup h1 h2) h k
        | lst h1 h2 =>
          cases e
          have z := I.list (SqL.of (hh.fz _ _ h1))
          obtain ⟨_, _, pl, _⟩ := z
          obtain ⟨_, _, pt, _⟩ := I.tuple hq
          obtain ⟨o1, n1, e1, c1, _⟩ := pl
          obtain ⟨o2, e2, c2, _⟩ := pt
          rw [e1] at e2
          cases e2
          rw [c1] at c2
          exact absurd (Value.type.inj c2) (by decide)
        | kls h1 h2 =>
          cases e
          have z := I.list (hh.fz.seq h1)
          obtain ⟨_, _, pl, _⟩ := z
          obtain ⟨_, _, pt, _⟩ := I.tuple hq
          obtain ⟨o1, n1, e1, c1, _⟩ := pl
          obtain ⟨o2, e2, c2, _⟩ := pt
          rw [e1] at e2
          cases e2
          rw [c1] at c2
          exact absurd (Value.type.inj c2) (by decide)
        | ref a =>
          obtain ⟨p', vs', e', hq', rs'⟩ := lsv_rel hh (.ref p) e
          cases e'
          obtain ⟨_, _, pl, _⟩ := I.list hq'
          obtain ⟨_, _, pt, _⟩ := I.tuple hq
          obtain ⟨o1, n1, e1, c1, _⟩ := pl
          obtain ⟨o2, e2, c2, _⟩ := pt
          rw [e1] at e2
          cases e2
          rw [c1] at c2
          exact absurd (Value.type.inj c2) (by decide)
        | _ => cases e
    · exact h.elim
  · unfold tuple3 at h
    split at h <;> first | exact absurd rfl (n _) | exact h.elim
theorem c_all (hc : X.calm = true) : CallR3 X B (.builtin "all") all3 := by
  intro pins s τ H xs us Q I rv ⟨F, ds, G, Q3, hf, rl, hh, h, k⟩
  rcases one_of rl with ⟨d, v, rfl, rfl, r⟩ | n
  · obtain ⟨ys, bs, e1, e2, q⟩ := h
    obtain ⟨p, vs, rfl, hq, rs⟩ := lsv_rel hh r e1
    have e3 := bls_rel rs e2
    subst e3
    exact cr_all hc pins s τ H _ us Q I rv ⟨p, bs, rfl, hq, okp hh (.bl _) q k⟩
  · unfold all3 at h
    split at h <;> first | exact absurd rfl (n _) | exact h.elim
end

/-! ### new lists as values -/
theorem newf_post {K : PySem.W.Frag} {F P : Hp} {G : H3} {H : Hp} {xs : List D} {vs : List V} {Q3 : K3} {Q : VK} (hh : RH K F P G H) (r : R3s K F xs vs) (h : Q3 (.lst xs) G) (k : ∀ v H', post K F P Q3 v H' → Q v H') : ∀ p, H p = none → Q (.ref p) (upd H p (.lst vs)) := fun p hp => by
  obtain ⟨e1, hh2⟩ := hh.frz (u := .lst vs) hp
  exact k _ _ ⟨_, _, G, e1, hh2, .lst upd_same (r.mono e1), h⟩
/-- + of two lists -/
def adl3 : R32 := fun x y G Q => match lsm x G with
  | some xs => match lsm y G with
    | some ys => xs.length + ys.length ≤ sizeLine ∧ Q (.lst (xs ++ ys)) G
    | none => False
  | none => False
theorem o_adl {X : Cx} {P : Hp} : OpR3 X P (binaryOp .Add) adl3 := by
  intro pins s τ H x y v u Q I rx ry ⟨F, d1, d2, G, Q3, r1, r2, hh, h, k⟩
  unfold adl3 at h
  split at h
  · rename_i xs e1
    split at h
    · rename_i ys e2
      obtain ⟨p, vs, rfl, h1, rs1⟩ := lsm_rel hh r1 e1
      obtain ⟨p2, ws, rfl, h2, rs2⟩ := lsm_rel hh r2 e2
      exact op_cat pins s τ H _ _ v u Q I rx ry ⟨p, p2, vs, ws, rfl, rfl, h1, h2, by rw [← rs1.length, ← rs2.length]; exact h.1, newf_post hh (rs1.append rs2) h.2 k⟩
    · exact h.elim
  · exact h.elim
/-- list(..) -/
def lisf3 : C3 := fun ds G Q => match ds with
  | [x] => match sqv x G with
    | some xs => Q (.lst xs) G
    | none => False
  | _ => False
theorem c_lisf {X : Cx} {B : Bs} : CallR3 X B (.type "list") lisf3 := by
  intro pins s τ H xs us Q I rv ⟨F, ds, G, Q3, hf, rl, hh, h, k⟩
  rcases one_of rl with ⟨d, v, rfl, rfl, r⟩ | n
  · simp only [lisf3] at h
    split at h
    · rename_i ys e
      obtain ⟨p, vs, rfl, hq, rs⟩ := sqv_rel hh r e
      exact call_list_of pins s τ H _ us Q I rv ⟨p, vs, rfl, hq, newf_post hh rs h k⟩
    · exact h.elim
  · unfold lisf3 at h
    split at h <;> first | exact absurd rfl (n _) | exact h.elim

/-! ### methods of built-in types -/
abbrev M3 := D → List D → H3 → K3 → Prop
def lowM (K : PySem.W.Frag) (P : Hp) (r : M3) : V → List V → Hp → VK → Prop := fun x vs H Q => ∃ F d ds G Q3, R3 K F d x ∧ R3s K F ds vs ∧ RH K F P G H ∧ r d ds G Q3 ∧ ∀ v H', post K F P Q3 v H' → Q v H'
abbrev MtR3 (X : Cx) (P : Hp) (id : String) (r : M3) : Prop := MtR X id (lowM X.K P r)
/-- a receiver that is a list -/
def isl (d : D) (G : H3) : Prop := (lsv d G).isSome = true
def bml3 (r : M3) (to : E3) (ta : A3) : E3 := fun σ G Q => to σ G fun d G1 => isl d G1 ∧ ta σ G1 fun ds G2 => r d ds G2 Q
def bms3 (r : M3) (to : E3) (ta : A3) : E3 := fun σ G Q => to σ G fun d G1 => match d with
  | .str z => ta σ G1 fun ds G2 => r (.str z) ds G2 Q
  | _ => False
def app3 : M3 := fun x ds G Q => match x with
  | .ref a => match G a with
    | some (.lst xs) => match ds with
      | [y] => xs.length < 10000 ∧ Q .non (up G a (.lst (xs ++ [y])))
      | _ => False
    | _ => False
  | _ => False
section
variable {X : Cx} {B : Bs} {P : Hp} {o e : Expr} {es : List Expr} {to : E3} {ta : A3} {name : Str} {apos cpos : Pos} {id : String} {r : M3}
theorem m_app : MtR3 X P "list.append" app3 := by
  intro pins s τ H x vs v us Q I rx rvs ⟨F, d, ds, G, Q3, r1, r2, hh, h, k⟩
  cases r1 with
  | ref a =>
    simp only [app3] at h
    split at h
    · rename_i xs hG
      obtain ⟨ws, h1, rs⟩ := hh.hp _ _ hG
      cases r2 with
      | nil => exact h.elim
      | cons ry rr => cases rr with
        | cons _ _ => exact h.elim
        | nil =>
          refine mt_append pins s τ H _ _ v us Q I rx rvs ⟨a, ws, _, rfl, rfl, h1, ?_, k _ _ ⟨F, .non, _, Same.refl F, hh.put (o := .lst (xs ++ [_])) hG ⟨_, rfl, rs.append (.cons ry .nil)⟩, .non, h.2⟩⟩
          have q := h.1
          rw [← rs.length, sizeLine_eq]
          omega
    · exact h.elim
  | _ => exact h.elim
theorem e_bml (pa : PlainAttrs "list") (slot : Slot "list" name id) (hty : typeOf (.builtin id) = pure (.type "method_descriptor")) (hm : MtR3 X B.P id r) (ho : PE3 X B o to) (ha : PA3 X B (e :: es) ta)
    (hbase : attributeBase o name X.env (eval o X.env) = eval o X.env := by rfl)
    (hfew : ((backTo cpos (starEach (e :: es) X.env)).all (fun x => !x.1) && (backToKw cpos (keywordEach [] X.env)).all (fun x => x.1.isSome) && decide ((e :: es).length + ([] : List Keyword).length + (if ([] : List Keyword).isEmpty then 0 else 1) < 30)) = true := by rfl)
    (hline : (apos.endLine == cpos.line) = true := by rfl) (hs : starEach (e :: es) X.env = (false, eval e X.env) :: starEach es X.env := by rfl) (hplain : (backTo cpos (starEach es X.env)).any (·.1) = false := by rfl) :
    PE3 X B (.Call (.Attribute o name apos) (e :: es) [] cpos) (bml3 r to ta) := (pe_bm pa slot hty hm ho ha hbase hfew hline hs hplain).weak fun τ H Q ⟨F, σ, G, Q3, hf, hs, hh, h, k⟩ =>
  low_run hf hs hh h fun F1 v d G1 H1 f1 hh1 r1 q1 => by
    obtain ⟨il, q1⟩ := q1
    obtain ⟨xs, hx⟩ := Option.isSome_iff_exists.mp il
    obtain ⟨p, vs, rfl, hq, rs⟩ := lsv_rel hh1 r1 hx
    exact ⟨.inl ⟨rfl, vs, hq⟩, lowA_run (hf.trans f1) (hs.mono f1) hh1 q1 fun F2 us ds G2 H2 f2 hh2 r2 q2 => ⟨F2, d, ds, G2, Q3, r1.mono f2, r2, hh2, q2, fun v H' z => k v H' (z.le (f1.trans f2))⟩⟩
end
end T3

namespace T3
open PySem PySem.Spec PyProof.Rows L2

/-! ### more of binding -/
theorem AB.full {K : PySem.W.Frag} {fd : FuncData} {ps : List Str} {n : Nat} (h : AB K fd ps n [] fun ds _ => ds ++ []) : AB K fd ps n [] fun ds _ => ds := by
  have e : (fun (ds : List D) (_ : List D) => ds ++ []) = fun ds _ => ds := by
    funext ds es
    rw [List.append_nil]
  rw [e] at h
  exact h
/-- a row of arguments out of three: by place, from the defaults, by name -/
def sel (ix : List (Nat × Nat)) {α : Type} (ds es fs : List α) : List α := match ix with
  | [] => []
  | (t, i) :: r => ((match t with
    | 0 => ds
    | 1 => es
    | _ => fs)[i]?).toList ++ sel r ds es fs
theorem vals_app : ∀ {a b : List V} {u v : List Value}, Vals a u → Vals b v → Vals (a ++ b) (u ++ v)
  | _, _, _, _, .nil, h => h
  | _, _, _, _, .cons r t, h => .cons r (vals_app t h)
theorem vals_opt {a : List V} {u : List Value} (i : Nat) (r : Vals a u) : Vals (a[i]?).toList (u[i]?).toList := by
  cases e : a[i]? with
  | none =>
    have l : u[i]? = none := by
      rw [List.getElem?_eq_none_iff] at e ⊢
      rw [← r.length]
      exact e
    rw [l]
    exact .nil
  | some x =>
    obtain ⟨y, h1, h2⟩ := r.get e
    rw [h1]
    exact .cons h2 .nil
theorem r3s_opt {K : PySem.W.Frag} {F : Hp} {a : List D} {u : List V} (i : Nat) (r : R3s K F a u) : R3s K F (a[i]?).toList (u[i]?).toList := by
  cases e : a[i]? with
  | none =>
    have l : u[i]? = none := by
      rw [List.getElem?_eq_none_iff] at e ⊢
      rw [← r.length]
      exact e
    rw [l]
    exact .nil
  | some x =>
    obtain ⟨y, h1, h2⟩ := r.get e
    rw [h1]
    exact .cons h2 .nil
theorem sel_vals {vs ds zs : List V} {us its ws : List Value} (h1 : Vals vs us) (h2 : Vals ds its) (h3 : Vals zs ws) : ∀ ix : List (Nat × Nat), Vals (sel ix vs ds zs) (sel ix us its ws)
  | [] => .nil
  | (t, i) :: r => by
    unfold sel
    refine vals_app ?_ (sel_vals h1 h2 h3 r)
    match t with
    | 0 => exact vals_opt i h1
    | 1 => exact vals_opt i h2
    | _ + 2 => exact vals_opt i h3
theorem sel_r3s {K : PySem.W.Frag} {F : Hp} {vs ds zs : List V} {us its ws : List D} (h1 : R3s K F us vs) (h2 : R3s K F its ds) (h3 : R3s K F ws zs) : ∀ ix : List (Nat × Nat), R3s K F (sel ix us its ws) (sel ix vs ds zs)
  | [] => .nil
  | (t, i) :: r => by
    unfold sel
    refine R3s.append ?_ (sel_r3s h1 h2 h3 r)
    match t with
    | 0 => exact r3s_opt i h1
    | 1 => exact r3s_opt i h2
    | _ + 2 => exact r3s_opt i h3
theorem ab_sel {K : PySem.W.Frag} {x qual : Str} {st : Stmt} {dvs : List V} {f : Addr} {fd : FuncData} {ps : List Str} (n : Nat) (ks : List Str) (ix : List (Nat × Nat)) (es : List D) (FD : FunD K x qual (defArgs st) (defBody st) (defScope st) dvs [] f fd) (hd : dvs ≠ []) (he : ∀ F, R3s K F es dvs)
    (h : ∀ (T : Addr) (kV doc pm : Value) (an : Option Addr) (cdv ct : Value) (us its ws : List Value), us.length = n → its.length = dvs.length → ws.length = ks.length →
      ∃ k, bindArgs (PySem.W.fnOf x qual (defArgs st) (defBody st) (defScope st) (.ref T) kV doc pm an cdv ct) ⟨us, ks.zip ws⟩ = seqItems? (.ref T) >>= k ∧ k (some its.toArray) = pure (ps.zip (sel ix us its ws))) :
    AB K fd ps n ks fun ds zs => sel ix ds es zs :=
  ab_kw n ks (fun {α} ds es fs => sel ix ds es fs) es FD hd he (fun r1 r2 r3 => sel_vals r1 r2 r3 ix) (fun F _ _ _ _ _ _ r1 r2 r3 => sel_r3s r1 r2 r3 ix) h

/-! ### a state is looked at in another way -/
def SV (σ : S3) (G : H3) (σ' : S3) (G' : H3) : Prop := ∀ (K : PySem.W.Frag) (F P : Hp) (τ : L2.St) (H : Hp), RS K F σ τ → RH K F P G H → ∃ F', Same F F' ∧ RS K F' σ' τ ∧ RH K F' P G' H
theorem SV.refl (σ : S3) (G : H3) : SV σ G σ G := fun K F P τ H r h => ⟨F, Same.refl F, r, h⟩
theorem SV.trans {σ σ1 σ2 : S3} {G G1 G2 : H3} (h1 : SV σ G σ1 G1) (h2 : SV σ1 G1 σ2 G2) : SV σ G σ2 G2 := fun K F P τ H r h => by
  obtain ⟨F1, f1, r1, hh1⟩ := h1 K F P τ H r h
  obtain ⟨F2, f2, r2, hh2⟩ := h2 K F1 P τ H r1 hh1
  exact ⟨F2, f1.trans f2, r2, hh2⟩
theorem SV.less {σ : S3} {G G' : H3} (h : ∀ a o, G' a = some o → G a = some o) : SV σ G σ G' := fun K F P τ H r hh => ⟨F, Same.refl F, r, hh.less h⟩
theorem SV.val {σ : S3} {G G' : H3} {i : Nat} {d d' : D} (hi : σ[i]? = some (some d)) (v : View d G d' G') : SV σ G (σ.set i (some d')) G' := fun K F P τ H r hh => by
  obtain ⟨w, h1, h2⟩ := r.at_ i d hi
  obtain ⟨F', f, hh', r'⟩ := v K F P H w hh h2
  refine ⟨F', f, ?_, hh'⟩
  have z := (r.mono f).set i r'
  have e : τ.set i (some w) = τ := by
    apply List.ext_getElem?
    intro j
    by_cases hj : i = j
    · subst hj
      have hl : i < τ.length := (List.getElem?_eq_some_iff.mp h1).1
      rw [List.getElem?_set_self hl, h1]
    · rw [List.getElem?_set_ne hj]
  rw [e] at z
  exact z
def view3 (t : T3S) : T3S := fun N σ G => t { N with nx := fun σ1 G1 => ∃ σ2 G2, SV σ1 G1 σ2 G2 ∧ N.nx σ2 G2 } σ G
theorem s_view {X : Cx} {B : Bs} {st : Stmt} {t : T3S} (h : PS3 X B st t) : PS3 X B st (view3 t) := h.weak fun Ed τ H ⟨F, σ, G, N, hf, hs, hh, q, k⟩ =>
  ⟨F, σ, G, _, hf, hs, hh, q, fun τ1 H1 ⟨F1, σ1, G1, f1, hs1, hh1, σ2, G2, v, z⟩ => by
    obtain ⟨F2, f2, hs2, hh2⟩ := v X.K F1 B.P τ1 H1 hs1 hh1
    exact k.nx τ1 H1 ⟨F2, σ2, G2, f1.trans f2, hs2, hh2, z⟩, k.rt, k.bk, k.ct⟩

/-! ### nothing is let out -/
def W0 : W3 := fun _ _ _ _ => False
theorem takesF {X : Cx} {B : Bs} : Takes X (lowW X.K B W0) := takes0.imp fun _ _ _ _ ⟨_, _, _, _, _, _, _, _, z⟩ => z
end T3

namespace T3
open PySem PySem.Spec PyProof.Rows L2

/-! ### the bag that a law draws from -/
def bagL (c a r m n : D) : List (Key × D) := [(.inr "cells", c), (.inr "at", a), (.inr "rest", r), (.inr "mixed", m), (.inr "count", n)]
section
variable {c a r m n v : D}
theorem bag_c : get3 (bagL c a r m n) (.inr "cells") = some c := rfl
theorem bag_a : get3 (bagL c a r m n) (.inr "at") = some a := rfl
theorem bag_r : get3 (bagL c a r m n) (.inr "rest") = some r := rfl
theorem bag_m : get3 (bagL c a r m n) (.inr "mixed") = some m := rfl
theorem bag_n : get3 (bagL c a r m n) (.inr "count") = some n := rfl
theorem bag_pa : putK3 (bagL c a r m n) (.inr "at") v = bagL c v r m n := rfl
theorem bag_pr : putK3 (bagL c a r m n) (.inr "rest") v = bagL c a v m n := rfl
theorem bag_pm : putK3 (bagL c a r m n) (.inr "mixed") v = bagL c a r v n := rfl
theorem bag_pn : putK3 (bagL c a r m n) (.inr "count") v = bagL c a r m v := rfl
theorem bag_len : (bagL c a r m n).length = 5 := rfl
end
/-- at b lies a bag -/
def Bag (b : Addr) (G : H3) : Prop := ∃ (cs : List Int) (i r m n : Int), G b = some (.dic (bagL (.lst (cs.map .int)) (.int i) (.int r) (.int m) (.int n))) ∧ 0 ≤ i
/-- only the bag has changed -/
structure BagTo (b : Addr) (G G' : H3) : Prop where
  bag : Bag b G'
  same : ∀ x, x ≠ b → G' x = G x
theorem BagTo.trans {b : Addr} {G G1 G2 : H3} (h : BagTo b G G1) (h2 : BagTo b G1 G2) : BagTo b G G2 := ⟨h2.bag, fun x hx => (h2.same x hx).trans (h.same x hx)⟩
theorem at3_ints {cs : List Int} {i : Int} (h : 0 ≤ i) (h2 : i < cs.length) : ∃ k, at3 (cs.map .int) i = some (.int k) := by
  unfold at3
  rw [if_pos h]
  have : i.toNat < cs.length := by omega
  exact ⟨cs[i.toNat], by simp [this]⟩
theorem at3_mem {xs : List D} {i : Int} (h : 0 ≤ i) (h2 : i < xs.length) : ∃ d, at3 xs i = some d ∧ d ∈ xs := by
  unfold at3
  rw [if_pos h]
  have : i.toNat < xs.length := by omega
  exact ⟨xs[i.toNat], by simp [this], List.getElem_mem this⟩
/-- a loop, over what stays: done, the items that are behind it -/
theorem iter_inv {keep : H3 → Prop} {g : G3t} {tb : T3S} {N : N3} {Inv : List D → S3 → H3 → Prop} {xs : List D} (hk : ∀ ds σ G, Inv ds σ G → keep G) : ∀ {rest ds : List D} {σ : S3} {G : H3}, ds ++ rest = xs →
    (∀ ds x rest σ G, ds ++ x :: rest = xs → Inv ds σ G → ∀ N' : N3, (∀ σ G, Inv (ds ++ [x]) σ G → N'.nx σ G) → (∀ σ G, Inv (ds ++ [x]) σ G → N'.ct σ G) → N'.rt = N.rt → N'.bk = N.nx → g x σ G fun σ1 G1 => tb N' σ1 G1) →
    Inv ds σ G → (∀ σ G, Inv xs σ G → N.nx σ G) → iter3 keep g tb N rest σ G
  | [], ds, σ, G, e, _, h, hq => by
    rw [List.append_nil] at e
    subst e
    exact hq σ G h
  | x :: rest, ds, σ, G, e, hs, h, hq => by
    have nxt : ∀ σ2 G2, Inv (ds ++ [x]) σ2 G2 → keep G2 ∧ iter3 keep g tb N rest σ2 G2 := fun σ2 G2 h2 => ⟨hk _ _ _ h2, iter_inv hk (by rw [List.append_assoc]; exact e) hs h2 hq⟩
    exact hs ds x rest σ G e h ⟨_, _, _, _⟩ nxt nxt rfl rfl
/-- a list that is made turn by turn, over what stays -/
theorem lci_inv {keep : H3 → Prop} {sv : D → S3 → Option S3} {tt : B3} {te : E3} {σw : S3} {Q : List D → H3 → Prop} {Inv : List D → List D → H3 → Prop} {xs : List D} (hk : ∀ ds acc G, Inv ds acc G → keep G ∧ acc.length < 10000) : ∀ {rest ds acc : List D} {G : H3}, ds ++ rest = xs →
    (∀ ds x rest acc G, ds ++ x :: rest = xs → Inv ds acc G → ∃ σ2, sv x σw = some σ2 ∧ ∀ (Ry : K3) (Rn : H3 → Prop), (∀ y G', Inv (ds ++ [x]) (acc ++ [y]) G' → Ry y G') → (∀ G', Inv (ds ++ [x]) acc G' → Rn G') → tt σ2 G fun b G3 => if b = true then te σ2 G3 Ry else Rn G3) →
    Inv ds acc G → (∀ acc G, Inv xs acc G → Q acc G) → lci keep sv tt te σw Q rest acc G
  | [], ds, acc, G, e, _, h, hq => by
    rw [List.append_nil] at e
    subst e
    exact hq acc G h
  | x :: rest, ds, acc, G, e, hs, h, hq => by
    have e2 : (ds ++ [x]) ++ rest = xs := by rw [List.append_assoc]; exact e
    obtain ⟨σ2, h1, h2⟩ := hs ds x rest acc G e h
    simp only [lci, h1]
    exact h2 _ _ (fun y G' hI => ⟨⟨(hk _ _ _ h).2, (hk _ _ _ hI).1⟩, lci_inv hk e2 hs hI hq⟩) fun G' hI => ⟨(hk _ _ _ hI).1, lci_inv hk e2 hs hI hq⟩
/-- .. each item by itself -/
theorem lci_map {keep : H3 → Prop} {sv : D → S3 → Option S3} {te : E3} {σw : S3} {Q : List D → H3 → Prop} (f : D → D) (G : H3) (hG : keep G) : ∀ {xs acc : List D}, acc.length + xs.length < 10000 → (∀ x ∈ xs, ∃ σ2, sv x σw = some σ2 ∧ ∀ R : K3, R (f x) G → te σ2 G R) → Q (acc ++ xs.map f) G → lci keep sv yes3 te σw Q xs acc G
  | [], acc, _, _, q => by
    rw [List.map_nil, List.append_nil] at q
    exact q
  | x :: xs, acc, hl, h, q => by
    obtain ⟨σ2, h1, h2⟩ := h x List.mem_cons_self
    simp only [lci, h1, yes3, if_true]
    rw [List.length_cons] at hl
    exact h2 _ ⟨⟨by omega, hG⟩, lci_map f G hG (by rw [List.length_append, List.length_cons, List.length_nil]; omega) (fun y hy => h y (List.mem_cons_of_mem _ hy)) (by rw [List.append_assoc]; exact q)⟩
theorem toNat_2 : Int.toNat 2 = 2 := rfl
theorem at3_0 {x : D} {r : List D} : at3 (x :: r) 0 = some x := rfl
theorem at3_1 {x y : D} {r : List D} : at3 (x :: y :: r) 1 = some y := rfl
theorem at3_2 {x y z : D} {r : List D} : at3 (x :: y :: z :: r) 2 = some z := rfl
/-- what a pick promises -/
def spPick : Sp3 := fun ds G Q _ => ∃ (b : Addr) (n : Int), ds = [.ref b, .int n] ∧ Bag b G ∧ (0 < n ∧ n.natAbs.log2 < 9000) ∧ ∀ r G', (0 ≤ r ∧ r < n) → BagTo b G G' → Q (.int r) G'
/-- .. a bag of a script -/
def spBag : Sp3 := fun ds G Q _ => ∃ cs : List Int, ds = [.kls (cs.map .int)] ∧ cs.length < 10000 ∧ ∀ b G', G b = none → BagTo b G G' → Q (.ref b) G'
/-- .. a choice out of a list -/
def spChoice : Sp3 := fun ds G Q _ => ∃ (b : Addr) (xs : List D), ds = [.ref b, .lst xs] ∧ Bag b G ∧ (0 < xs.length ∧ xs.length < 10000) ∧ ∀ d G', d ∈ xs → BagTo b G G' → Q d G'
def spOneIn : Sp3 := fun ds G Q _ => ∃ (b : Addr) (n : Int), ds = [.ref b, .int n] ∧ Bag b G ∧ (0 < n ∧ n.natAbs.log2 < 9000) ∧ ∀ r G', BagTo b G G' → Q (.bl r) G'
theorem mulok_r {i j : Int} (h : -(2 ^ 64) < j ∧ j < 2 ^ 64) : MulOk i j := .inl (.inr h)
theorem mulok_l {i j : Int} (h : -(2 ^ 64) < i ∧ i < 2 ^ 64) : MulOk i j := .inl (.inl h)
theorem log_ok {n : Int} (h0 : 0 < n) (h : n < 2 ^ 64) : n.natAbs.log2 < 9000 := by
  have : n.natAbs < 2 ^ 64 := by omega
  have h2 := (Nat.log2_lt (n := n.natAbs) (k := 64) (by omega)).mpr this
  omega
/-! isinstance of built-in types -/
theorem kt_NoneType_int {K : PySem.W.Frag} : PySem.W.kitOne K (.type "NoneType") (.type "int") = some false := by rfl
theorem kt_NoneType_bool {K : PySem.W.Frag} : PySem.W.kitOne K (.type "NoneType") (.type "bool") = some false := by rfl
theorem kt_NoneType_str {K : PySem.W.Frag} : PySem.W.kitOne K (.type "NoneType") (.type "str") = some false := by rfl
theorem kt_NoneType_tuple {K : PySem.W.Frag} : PySem.W.kitOne K (.type "NoneType") (.type "tuple") = some false := by rfl
theorem kt_NoneType_list {K : PySem.W.Frag} : PySem.W.kitOne K (.type "NoneType") (.type "list") = some false := by rfl
theorem kt_NoneType_dict {K : PySem.W.Frag} : PySem.W.kitOne K (.type "NoneType") (.type "dict") = some false := by rfl
theorem kt_bool_int {K : PySem.W.Frag} : PySem.W.kitOne K (.type "bool") (.type "int") = some true := by rfl
theorem kt_bool_bool {K : PySem.W.Frag} : PySem.W.kitOne K (.type "bool") (.type "bool") = some true := by rfl
theorem kt_bool_str {K : PySem.W.Frag} : PySem.W.kitOne K (.type "bool") (.type "str") = some false := by rfl
theorem kt_bool_tuple {K : PySem.W.Frag} : PySem.W.kitOne K (.type "bool") (.type "tuple") = some false := by rfl
theorem kt_bool_list {K : PySem.W.Frag} : PySem.W.kitOne K (.type "bool") (.type "list") = some false := by rfl
theorem kt_bool_dict {K : PySem.W.Frag} : PySem.W.kitOne K (.type "bool") (.type "dict") = some false := by rfl
theorem kt_int_int {K : PySem.W.Frag} : PySem.W.kitOne K (.type "int") (.type "int") = some true := by rfl
theorem kt_int_bool {K : PySem.W.Frag} : PySem.W.kitOne K (.type "int") (.type "bool") = some false := by rfl
theorem kt_int_str {K : PySem.W.Frag} : PySem.W.kitOne K (.type "int") (.type "str") = some false := by rfl
theorem kt_int_tuple {K : PySem.W.Frag} : PySem.W.kitOne K (.type "int") (.type "tuple") = some false := by rfl
theorem kt_int_list {K : PySem.W.Frag} : PySem.W.kitOne K (.type "int") (.type "list") = some false := by rfl
theorem kt_int_dict {K : PySem.W.Frag} : PySem.W.kitOne K (.type "int") (.type "dict") = some false := by rfl
theorem kt_str_int {K : PySem.W.Frag} : PySem.W.kitOne K (.type "str") (.type "int") = some false := by rfl
theorem kt_str_bool {K : PySem.W.Frag} : PySem.W.kitOne K (.type "str") (.type "bool") = some false := by rfl
theorem kt_str_str {K : PySem.W.Frag} : PySem.W.kitOne K (.type "str") (.type "str") = some true := by rfl
theorem kt_str_tuple {K : PySem.W.Frag} : PySem.W.kitOne K (.type "str") (.type "tuple") = some false := by rfl
theorem kt_str_list {K : PySem.W.Frag} : PySem.W.kitOne K (.type "str") (.type "list") = some false := by rfl
theorem kt_str_dict {K : PySem.W.Frag} : PySem.W.kitOne K (.type "str") (.type "dict") = some false := by rfl
theorem kt_tuple_int {K : PySem.W.Frag} : PySem.W.kitOne K (.type "tuple") (.type "int") = some false := by rfl
theorem kt_tuple_bool {K : PySem.W.Frag} : PySem.W.kitOne K (.type "tuple") (.type "bool") = some false := by rfl
theorem kt_tuple_str {K : PySem.W.Frag} : PySem.W.kitOne K (.type "tuple") (.type "str") = some false := by rfl
theorem kt_tuple_tuple {K : PySem.W.Frag} : PySem.W.kitOne K (.type "tuple") (.type "tuple") = some true := by rfl
theorem kt_tuple_list {K : PySem.W.Frag} : PySem.W.kitOne K (.type "tuple") (.type "list") = some false := by rfl
theorem kt_tuple_dict {K : PySem.W.Frag} : PySem.W.kitOne K (.type "tuple") (.type "dict") = some false := by rfl
theorem kt_list_int {K : PySem.W.Frag} : PySem.W.kitOne K (.type "list") (.type "int") = some false := by rfl
theorem kt_list_bool {K : PySem.W.Frag} : PySem.W.kitOne K (.type "list") (.type "bool") = some false := by rfl
theorem kt_list_str {K : PySem.W.Frag} : PySem.W.kitOne K (.type "list") (.type "str") = some false := by rfl
theorem kt_list_tuple {K : PySem.W.Frag} : PySem.W.kitOne K (.type "list") (.type "tuple") = some false := by rfl
theorem kt_list_list {K : PySem.W.Frag} : PySem.W.kitOne K (.type "list") (.type "list") = some true := by rfl
theorem kt_list_dict {K : PySem.W.Frag} : PySem.W.kitOne K (.type "list") (.type "dict") = some false := by rfl
theorem kt_dict_int {K : PySem.W.Frag} : PySem.W.kitOne K (.type "dict") (.type "int") = some false := by rfl
theorem kt_dict_bool {K : PySem.W.Frag} : PySem.W.kitOne K (.type "dict") (.type "bool") = some false := by rfl
theorem kt_dict_str {K : PySem.W.Frag} : PySem.W.kitOne K (.type "dict") (.type "str") = some false := by rfl
theorem kt_dict_tuple {K : PySem.W.Frag} : PySem.W.kitOne K (.type "dict") (.type "tuple") = some false := by rfl
theorem kt_dict_list {K : PySem.W.Frag} : PySem.W.kitOne K (.type "dict") (.type "list") = some false := by rfl
theorem kt_dict_dict {K : PySem.W.Frag} : PySem.W.kitOne K (.type "dict") (.type "dict") = some true := by rfl
theorem of_dec {p : Prop} [Decidable p] {Q : K3} {G : H3} (h : p) (q : Q (.bl true) G) : Q (.bl (decide p)) G := by
  rw [decide_eq_true h]
  exact q
/-- the end of a def -/
theorem rt_same {Q : K3} {d : D} {G : H3} (h : Q d G) : (ends3 Q).rt d G := ⟨d, G, View.refl d G, h⟩
theorem rt_lst {Q : K3} {p : Addr} {G : H3} {xs : List D} (h : G p = none) (q : Q (.lst xs) G) : (ends3 Q).rt (.ref p) (up G p (.lst xs)) := ⟨.lst xs, _, View.lst up_same, by rw [dn_up h]; exact q⟩
theorem rt_less {Q : K3} {d : D} {G G' : H3} (h : ∀ a o, G' a = some o → G a = some o) (q : Q d G') : (ends3 Q).rt d G := ⟨d, G', View.less h, q⟩
theorem dn_le {G : H3} {p : Addr} : ∀ a o, dn G p a = some o → G a = some o := fun a o z => by
  unfold dn at z
  split at z
  · cases z
  · exact z
theorem rt_dn {Q : K3} {d : D} {G : H3} (p : Addr) (q : Q d (dn G p)) : (ends3 Q).rt d G := rt_less dn_le q
theorem rt_ref {Q : K3} {p : Addr} {G : H3} {xs : List D} (h : G p = some (.lst xs)) (q : Q (.lst xs) (dn G p)) : (ends3 Q).rt (.ref p) G := ⟨.lst xs, _, View.lst h, q⟩
theorem Bag.ne {b p : Addr} {G : H3} (h : Bag b G) (hp : G p = none) : b ≠ p := fun e => by
  obtain ⟨_, _, _, _, _, h, _⟩ := h
  rw [e, hp] at h
  cases h
theorem Bag.up {b p : Addr} {G : H3} {o : O3} (h : Bag b G) (hp : b ≠ p) : Bag b (up G p o) := by
  obtain ⟨cs, i, r, m, n, h, hi⟩ := h
  exact ⟨cs, i, r, m, n, by rw [up_ne hp]; exact h, hi⟩
theorem Bag.dn {b p : Addr} {G : H3} (h : Bag b G) (hp : b ≠ p) : Bag b (T3.dn G p) := by
  obtain ⟨cs, i, r, m, n, h, hi⟩ := h
  exact ⟨cs, i, r, m, n, by unfold T3.dn; rw [if_neg hp]; exact h, hi⟩
theorem BagTo.refl {b : Addr} {G : H3} (h : Bag b G) : BagTo b G G := ⟨h, fun _ _ => rfl⟩
theorem BagTo.back {b p : Addr} {G G2 G3 : H3} {o : O3} (h : BagTo b G G2) (hp : G2 p = none) (h3 : BagTo b (T3.up G2 p o) G3) : BagTo b G (dn G3 p) := by
  have ne := h.bag.ne hp
  refine ⟨?_, fun x hx => ?_⟩
  · obtain ⟨cs, i, r, m, n, h, hi⟩ := h3.bag
    exact ⟨cs, i, r, m, n, by unfold dn; rw [if_neg ne]; exact h, hi⟩
  · unfold dn
    by_cases e : x = p
    · rw [if_pos e, ← h.same x hx, e, hp]
    · rw [if_neg e, h3.same x hx, up_ne e, h.same x hx]
theorem BagTo.at_ {b p : Addr} {G G3 : H3} {o : O3} (ne : b ≠ p) (h3 : BagTo b (T3.up G p o) G3) : G3 p = some o := by
  rw [h3.same p (Ne.symm ne), up_same]
/-! lists that are values or things of the heap -/
theorem ix3_lsv {d : D} {G : H3} {xs : List D} {i : Int} {Q : K3} (h : lsv d G = some xs) (q : opt3 (at3 xs i) G Q) : ix3 d (.int i) G Q := by
  cases d with
  | lst ys =>
    cases h
    exact q
  | kls ys =>
    cases h
    exact q
  | ref a =>
    simp only [lsv] at h
    split at h
    · rename_i ys e
      cases h
      simp only [ix3, e]
      exact q
    · cases h
  | _ => cases h
theorem pyat_lsv {d : D} {G : H3} {xs : List D} {ps : List PyData} (h : lsv d G = some xs) (hp : pyds xs = some ps) : pyat G d = some (.list ps) := by
  cases d with
  | lst ys =>
    cases h
    simp only [pyat, pyd, hp, Option.map_some]
  | kls ys =>
    cases h
    simp only [pyat, pyd, hp, Option.map_some]
  | ref a =>
    simp only [lsv] at h
    split at h
    · rename_i ys e
      cases h
      simp only [pyat, e, hp, Option.map_some]
    · cases h
  | _ => cases h
end T3

namespace T3
open PySem PySem.Spec PyProof.Rows L2

/-! ### the readings by the shape of what they get -/
section
variable {K : PySem.W.Frag} {G : H3} {Q : K3} {R : Bool → H3 → Prop} {i j : Int} {k l : Bool} {s t : Str} {xs ys : List D} {x y d : D} {a b C : Addr} {fs : List (Str × D)} {f : Bool → Bool} {g : Int → Int → Bool} {n : String}
theorem istru_bl : istru (.bl k) G R = R k G := by simp [istru, tru, lok]
theorem istru_int : istru (.int i) G R = R (i != 0) G := by simp [istru, tru, lok]
theorem istru_non : istru .non G R = R false G := by simp [istru, tru, lok]
theorem istru_tup : istru (.tup xs) G R = R (!xs.isEmpty) G := by simp [istru, tru, lok]
theorem istru_lst : istru (.lst xs) G R = R (!xs.isEmpty) G := by simp [istru, tru, lok]
theorem istru_kls : istru (.kls xs) G R = R (!xs.isEmpty) G := by simp [istru, tru, lok]
theorem istru_str : istru (.str s) G R = (s.length ≤ sizeLine ∧ R (s.length != 0) G) := by simp [istru, tru, lok]
theorem add3_ii : add3 (.int i) (.int j) G Q = Q (.int (i + j)) G := rfl
theorem add3_ss : add3 (.str s) (.str t) G Q = (s.length + t.length ≤ sizeLine ∧ Q (.str (s ++ t)) G) := rfl
theorem add3_tt : add3 (.tup xs) (.tup ys) G Q = (xs.length + ys.length ≤ sizeLine ∧ Q (.tup (xs ++ ys)) G) := rfl
theorem sub3_ii : sub3 (.int i) (.int j) G Q = Q (.int (i - j)) G := rfl
theorem mul3_ii : mul3 (.int i) (.int j) G Q = (MulOk i j ∧ Q (.int (i * j)) G) := rfl
theorem fdv3_ii : fdv3 (.int i) (.int j) G Q = ((j ≠ 0 ∧ j.natAbs.log2 < 9000) ∧ Q (.int (i.fdiv j)) G) := rfl
theorem mod3_ii : mod3 (.int i) (.int j) G Q = (0 < j ∧ Q (.int (i % j)) G) := rfl
theorem pow3_ii : pow3 (.int i) (.int j) G Q = (CPow i j ∧ Q (.int (i ^ j.toNat)) G) := rfl
theorem neg3_i : neg3 (.int i) G Q = Q (.int (-i)) G := rfl
theorem eqn3_ii : eqn3 f (.int i) (.int j) G Q = Q (.bl (f (decide (i = j)))) G := rfl
theorem eqn3_ss : eqn3 f (.str s) (.str t) G Q = Q (.bl (f (decide (s = t)))) G := rfl
theorem eqn3_bb : eqn3 f (.bl k) (.bl l) G Q = Q (.bl (f (decide (k = l)))) G := rfl
theorem eqn3_tup : eqn3 f (.tup xs) y G Q = dat3 f (.tup xs) y G Q := rfl
theorem eqn3_lst : eqn3 f (.lst xs) y G Q = dat3 f (.lst xs) y G Q := rfl
theorem eqn3_non : eqn3 f .non y G Q = dat3 f .non y G Q := rfl
theorem cmi3_ii : cmi3 g (.int i) (.int j) G Q = Q (.bl (g i j)) G := rfl
theorem isn3_bb : isn3 f (.bl k) (.bl l) G Q = Q (.bl (f (decide (k = l)))) G := rfl
theorem isn3_nn : isn3 f .non .non G Q = Q (.bl (f true)) G := rfl
theorem isn3_on : isn3 f (.obj C fs) .non G Q = Q (.bl (f false)) G := rfl
theorem isn3_tn : isn3 f (.tup xs) .non G Q = Q (.bl (f false)) G := rfl
theorem isn3_in : isn3 f (.int i) .non G Q = Q (.bl (f false)) G := rfl
theorem isn3_sn : isn3 f (.str s) .non G Q = Q (.bl (f false)) G := rfl
theorem isn3_rn : isn3 f (.ref a) .non G Q = Q (.bl (f false)) G := rfl
theorem isn3_ln : isn3 f (.lst xs) .non G Q = Q (.bl (f false)) G := rfl
theorem isn3_bn : isn3 f (.bl k) .non G Q = Q (.bl (f false)) G := rfl
theorem ix3_lst : ix3 (.lst xs) (.int i) G Q = opt3 (at3 xs i) G Q := rfl
theorem ix3_kls : ix3 (.kls xs) (.int i) G Q = opt3 (at3 xs i) G Q := rfl
theorem ix3_tup : ix3 (.tup xs) (.int i) G Q = opt3 (at3 xs i) G Q := rfl
theorem ix3_ri : ix3 (.ref a) (.int i) G Q = (match G a with
    | some (.lst xs) => opt3 (at3 xs i) G Q
    | some (.dic kvs) => opt3 (get3 kvs (.inl i)) G Q
    | _ => False) := rfl
theorem ix3_rs : ix3 (.ref a) (.str s) G Q = (match G a with
    | some (.dic kvs) => opt3 (get3 kvs (.inr s)) G Q
    | _ => False) := rfl
theorem opt3_some : opt3 (some d) G Q = Q d G := rfl
theorem getf_obj {cs : List Addr} : getf cs s (.obj C fs) G Q = (C ∈ cs ∧ opt3 (fs.lookup s) G Q) := rfl
theorem getf_ref {cs : List Addr} (h : G a = some (.ins C fs)) : getf cs s (.ref a) G Q = (C ∈ cs ∧ opt3 (fs.lookup s) G Q) := by
  unfold getf insOf
  simp only [h]
  rfl
theorem seqj_lst {R : J3 → H3 → Prop} : seqj (.lst xs) G R = R ⟨xs, fun _ => True⟩ G := rfl
theorem seqj_kls {R : J3 → H3 → Prop} : seqj (.kls xs) G R = R ⟨xs, fun _ => True⟩ G := rfl
theorem seqj_ref {R : J3 → H3 → Prop} : seqj (.ref a) G R = (match G a with
    | some (.lst xs) => R ⟨xs, fun G' => G' a = some (.lst xs)⟩ G
    | _ => False) := rfl
theorem tupj_tup {R : J3 → H3 → Prop} : tupj (.tup xs) G R = R ⟨xs, fun _ => True⟩ G := rfl
theorem len3_lst : len3 [.lst xs] G Q = Q (.int xs.length) G := rfl
theorem len3_kls : len3 [.kls xs] G Q = Q (.int xs.length) G := rfl
theorem len3_tup : len3 [.tup xs] G Q = Q (.int xs.length) G := rfl
theorem len3_str : len3 [.str s] G Q = (s.length ≤ sizeLine ∧ Q (.int s.length) G) := rfl
theorem len3_ref : len3 [.ref a] G Q = (match G a with
    | some (.lst xs) => Q (.int xs.length) G
    | some (.dic kvs) => Q (.int kvs.length) G
    | _ => False) := rfl
theorem int3_i : int3 [.int i] G Q = Q (.int i) G := rfl
theorem int3_b : int3 [.bl k] G Q = Q (.int (if k then 1 else 0)) G := rfl
theorem abs3_i : abs3 [.int i] G Q = Q (.int (if i < 0 then -i else i)) G := rfl
theorem str3_i : str3 [.int i] G Q = (i.natAbs.log2 < 1920 ∧ Q (.str (toString i)) G) := rfl
theorem lisf3_lst : lisf3 [.lst xs] G Q = Q (.lst xs) G := rfl
theorem lisf3_kls : lisf3 [.kls xs] G Q = Q (.lst xs) G := rfl
theorem lisf3_tup : lisf3 [.tup xs] G Q = Q (.lst xs) G := rfl
theorem list3_lst : list3 [.lst xs] G Q = newl xs G Q := rfl
theorem list3_kls : list3 [.kls xs] G Q = newl xs G Q := rfl
theorem list3_tup : list3 [.tup xs] G Q = newl xs G Q := rfl
theorem tuple3_lst : tuple3 [.lst xs] G Q = Q (.tup xs) G := rfl
theorem tuple3_kls : tuple3 [.kls xs] G Q = Q (.tup xs) G := rfl
theorem tuple3_tup : tuple3 [.tup xs] G Q = Q (.tup xs) G := rfl
theorem isi_2 : isi K [x, y] G Q = ∃ t u b, typ x G = some t ∧ TypOk K t ∧ clsv y = some u ∧ PySem.W.kitOne K t u = some b ∧ Q (.bl b) G := rfl
theorem typ_non : typ .non G = some (.type "NoneType") := rfl
theorem typ_bl : typ (.bl k) G = some (.type "bool") := rfl
theorem typ_int : typ (.int i) G = some (.type "int") := rfl
theorem typ_str : typ (.str s) G = some (.type "str") := rfl
theorem typ_tup : typ (.tup xs) G = some (.type "tuple") := rfl
theorem typ_lst : typ (.lst xs) G = some (.type "list") := rfl
theorem typ_kls : typ (.kls xs) G = some (.type "list") := rfl
theorem typ_obj : typ (.obj C fs) G = some (.ref C) := rfl
theorem typok_ty : TypOk K (.type n) = True := rfl
theorem typok_ref : TypOk K (.ref C) = InsOk K C := rfl
theorem clsv_ty : clsv (.ty n) = some (.type n) := rfl
theorem clsv_ref : clsv (.ref C) = some (.ref C) := rfl
theorem eqo3_obj {sp : Sp3} : eqo3 K C sp (.obj b fs) y G Q = (b = C ∧ ∃ t, typ y G = some t ∧ (TypOk K t ∧ PySem.W.notFirst K C t = true) ∧ sp [.obj b fs, y] G (onlyb Q) fun _ _ _ => False) := rfl
theorem onlyb_bl : onlyb Q (.bl k) G = Q (.bl k) G := rfl
theorem adl3_ll : adl3 (.lst xs) (.lst ys) G Q = (xs.length + ys.length ≤ sizeLine ∧ Q (.lst (xs ++ ys)) G) := rfl
theorem all3_lst : all3 [.lst xs] G Q = ∃ bs, bls xs = some bs ∧ Q (.bl (bs.all id)) G := by simp [all3, lsv]
theorem frzk_ins (h : G a = some (.ins C fs)) : frzk Q (.ref a) G = Q (.obj C fs) (dn G a) := by simp only [frzk, h]
end
theorem seq3_in {t u : T3S} {N : N3} {σ : S3} {G : H3} (h : t { nx := u N, rt := N.rt, bk := N.bk, ct := N.ct } σ G) : seq3 t u N σ G := h
/-! ### a list of what passes a test -/
def sieve : List D → List Bool → List D
  | x :: xs, k :: ks => if k = true then x :: sieve xs ks else sieve xs ks
  | _, _ => []
inductive AllP (P : D → Bool → Prop) : List D → List Bool → Prop
  | nil : AllP P [] []
  | cons {x : D} {k : Bool} {xs : List D} {ks : List Bool} : P x k → AllP P xs ks → AllP P (x :: xs) (k :: ks)
theorem lci_filter {keep : H3 → Prop} {sv : D → S3 → Option S3} {tt : B3} {te : E3} {σw : S3} {Q : List D → H3 → Prop} {Inv : H3 → Prop} {P : D → Bool → Prop} (hk : ∀ G, Inv G → keep G) : ∀ {xs acc : List D} {G : H3}, acc.length + xs.length < 10000 → Inv G →
    (∀ x ∈ xs, ∃ σ2, sv x σw = some σ2 ∧ (∀ G, Inv G → ∀ R : Bool → H3 → Prop, (∀ k G', P x k → Inv G' → R k G') → tt σ2 G R) ∧ ∀ G (R : K3), R x G → te σ2 G R) →
    (∀ ks G', AllP P xs ks → Inv G' → Q (acc ++ sieve xs ks) G') → lci keep sv tt te σw Q xs acc G
  | [], acc, G, _, hI, _, hq => by
    have z := hq [] G .nil hI
    simp only [sieve, List.append_nil] at z
    exact z
  | x :: xs, acc, G, hl, hI, hs, hq => by
    obtain ⟨σ2, h1, h2, h3⟩ := hs x List.mem_cons_self
    rw [List.length_cons] at hl
    simp only [lci, h1]
    refine h2 G hI _ fun k G' hp hI' => ?_
    cases k with
    | true =>
      rw [if_pos rfl]
      refine h3 _ _ ⟨⟨by omega, hk _ hI'⟩, lci_filter hk (by rw [List.length_append, List.length_cons, List.length_nil]; omega) hI' (fun y hy => hs y (List.mem_cons_of_mem _ hy)) fun ks G2 a hI2 => ?_⟩
      have z := hq (true :: ks) G2 (.cons hp a) hI2
      simp only [sieve, if_true] at z
      rw [List.append_assoc]
      exact z
    | false =>
      rw [if_neg Bool.false_ne_true]
      refine ⟨hk _ hI', lci_filter hk (by omega) hI' (fun y hy => hs y (List.mem_cons_of_mem _ hy)) fun ks G2 a hI2 => ?_⟩
      have z := hq (false :: ks) G2 (.cons hp a) hI2
      simp only [sieve, if_false, Bool.false_eq_true] at z
      exact z
/-! ### the law -/
def spLaw : Sp3 := fun ds G Q _ => ∃ cs : List Int, ds = [.kls (cs.map .int)] ∧ cs.length < 10000 ∧ ∀ G', Q (.bl true) G'
theorem law_end {K : PySem.W.Frag} {H : Hp} {a : Addr} {ns : List Int} (hl : ns.length ≤ 63) (hS : SqL K H a (ns.map V.int)) : lowSp K spLaw [.ref a] H (fun v _ => v = .bl true) fun _ _ _ => False :=
  ⟨H, fun _ => none, [.kls (ns.map .int)], fun _ => none, fun d _ => d = .bl true, fun _ _ _ => False, .cons (.kls hS R3s.ints) .nil, ⟨Same.refl H, fun _ _ z => (nomatch z), fun _ _ z => (nomatch z), fun _ _ z => (nomatch z), fun _ _ z => (nomatch z)⟩,
    ⟨ns, rfl, by omega, fun _ => rfl⟩, fun v H' ⟨_, d, _, _, _, r, e⟩ => by
      subst e
      cases r
      rfl, fun _ _ _ ⟨_, _, _, _, _, _, z⟩ => z⟩
end T3

namespace K52
open PySem PySem.Spec PyProof.Rows L2 T3

/-! ### the text by places -/
def top (i : Nat) : Stmt := PySem.Challenge.pw_fallsunder_k52_prices.main.body.getD i (.Pass ⟨0, 0, 0, 0⟩)
abbrev s_BadNumberx_initx : Stmt := (inClass (top 2) 0)
abbrev s_BadPricesx_initx : Stmt := (inClass (top 3) 0)
abbrev s_is_integer : Stmt := (top 5)
abbrev s_Pricesx_initx : Stmt := (inClass (top 8) 0)
abbrev s_Pricesx_eqx : Stmt := (inClass (top 8) 1)
abbrev s_Prices_total : Stmt := (inClass (top 8) 2)
abbrev s_bag : Stmt := (top 10)
abbrev s_pick : Stmt := (top 11)
abbrev s_choice : Stmt := (top 12)
abbrev s_one_in : Stmt := (top 13)
abbrev s_integer : Stmt := (top 14)
abbrev s_price : Stmt := (top 15)
abbrev s_prices : Stmt := (top 16)
abbrev s_many : Stmt := (top 17)
abbrev s_holds_prices : Stmt := (top 18)
abbrev s_sums_up : Stmt := (top 19)
abbrev s_refused : Stmt := (top 20)
abbrev s_caught : Stmt := (top 21)
abbrev s_bad : Stmt := (top 22)
abbrev s_law : Stmt := (top 23)
abbrev N_BadNumberx_initx : List Str := ["self", "number"]
theorem sc_BadNumberx_initx : FnScope N_BadNumberx_initx ["self", "number"] (defScope s_BadNumberx_initx) := ⟨rfl, rfl, rfl, by decide +kernel, rfl, by decide +kernel, by decide +kernel⟩
abbrev N_BadPricesx_initx : List Str := ["self", "part"]
theorem sc_BadPricesx_initx : FnScope N_BadPricesx_initx ["self", "part"] (defScope s_BadPricesx_initx) := ⟨rfl, rfl, rfl, by decide +kernel, rfl, by decide +kernel, by decide +kernel⟩
abbrev N_is_integer : List Str := ["thing"]
theorem sc_is_integer : FnScope N_is_integer ["thing"] (defScope s_is_integer) := ⟨rfl, rfl, rfl, by decide +kernel, rfl, by decide +kernel, by decide +kernel⟩
abbrev N_Pricesx_initx : List Str := ["self", "restate", "reweigh", "exchange", "part", "price"]
theorem sc_Pricesx_initx : FnScope N_Pricesx_initx ["self", "restate", "reweigh", "exchange"] (defScope s_Pricesx_initx) := ⟨rfl, rfl, rfl, by decide +kernel, rfl, by decide +kernel, by decide +kernel⟩
abbrev N_Pricesx_eqx : List Str := ["self", "other"]
theorem sc_Pricesx_eqx : FnScope N_Pricesx_eqx ["self", "other"] (defScope s_Pricesx_eqx) := ⟨rfl, rfl, rfl, by decide +kernel, rfl, by decide +kernel, by decide +kernel⟩
abbrev N_Prices_total : List Str := ["self", "many_restate", "many_reweigh", "many_exchange"]
theorem sc_Prices_total : FnScope N_Prices_total ["self", "many_restate", "many_reweigh", "many_exchange"] (defScope s_Prices_total) := ⟨rfl, rfl, rfl, by decide +kernel, rfl, by decide +kernel, by decide +kernel⟩
abbrev N_bag : List Str := ["_law_script", "_law_mixed", "_law_cell"]
theorem sc_bag : FnScope N_bag ["_law_script"] (defScope s_bag) := ⟨rfl, rfl, rfl, by decide +kernel, rfl, by decide +kernel, by decide +kernel⟩
abbrev N_pick : List Str := ["_law_bag_here", "_law_many_here", "_law_number", "_law_cell"]
theorem sc_pick : FnScope N_pick ["_law_bag_here", "_law_many_here"] (defScope s_pick) := ⟨rfl, rfl, rfl, by decide +kernel, rfl, by decide +kernel, by decide +kernel⟩
abbrev N_choice : List Str := ["_law_bag_here", "_law_things"]
theorem sc_choice : FnScope N_choice ["_law_bag_here", "_law_things"] (defScope s_choice) := ⟨rfl, rfl, rfl, by decide +kernel, rfl, by decide +kernel, by decide +kernel⟩
abbrev N_one_in : List Str := ["_law_bag_here", "_law_many_here"]
theorem sc_one_in : FnScope N_one_in ["_law_bag_here", "_law_many_here"] (defScope s_one_in) := ⟨rfl, rfl, rfl, by decide +kernel, rfl, by decide +kernel, by decide +kernel⟩
abbrev N_integer : List Str := ["_law_thing"]
theorem sc_integer : FnScope N_integer ["_law_thing"] (defScope s_integer) := ⟨rfl, rfl, rfl, by decide +kernel, rfl, by decide +kernel, by decide +kernel⟩
abbrev N_price : List Str := ["_law_bag_here", "_law_way"]
theorem sc_price : FnScope N_price ["_law_bag_here"] (defScope s_price) := ⟨rfl, rfl, rfl, by decide +kernel, rfl, by decide +kernel, by decide +kernel⟩
abbrev N_prices : List Str := ["_law_bag_here", "_law_row", "_law_k"]
theorem sc_prices : FnScope N_prices ["_law_bag_here"] (defScope s_prices) := ⟨rfl, rfl, rfl, by decide +kernel, rfl, by decide +kernel, by decide +kernel⟩
abbrev N_many : List Str := ["_law_bag_here", "_law_way"]
theorem sc_many : FnScope N_many ["_law_bag_here"] (defScope s_many) := ⟨rfl, rfl, rfl, by decide +kernel, rfl, by decide +kernel, by decide +kernel⟩
abbrev N_holds_prices : List Str := ["_law_made", "_law_row", "_law_told", "_law_one"]
theorem sc_holds_prices : FnScope N_holds_prices ["_law_made", "_law_row"] (defScope s_holds_prices) := ⟨rfl, rfl, rfl, by decide +kernel, rfl, by decide +kernel, by decide +kernel⟩
abbrev N_sums_up : List Str := ["_law_made", "_law_row", "_law_many_here", "_law_told"]
theorem sc_sums_up : FnScope N_sums_up ["_law_made", "_law_row", "_law_many_here"] (defScope s_sums_up) := ⟨rfl, rfl, rfl, by decide +kernel, rfl, by decide +kernel, by decide +kernel⟩
abbrev N_refused : List Str := ["_law_row", "error", "_law_kin"]
theorem sc_refused : FnScope N_refused ["_law_row"] (defScope s_refused) := ⟨rfl, rfl, rfl, by decide +kernel, rfl, by decide +kernel, by decide +kernel⟩
abbrev N_caught : List Str := ["_law_row"]
theorem sc_caught : FnScope N_caught ["_law_row"] (defScope s_caught) := ⟨rfl, rfl, rfl, by decide +kernel, rfl, by decide +kernel, by decide +kernel⟩
abbrev N_bad : List Str := ["_law_bag_here", "_law_bad_here"]
theorem sc_bad : FnScope N_bad ["_law_bag_here"] (defScope s_bad) := ⟨rfl, rfl, rfl, by decide +kernel, rfl, by decide +kernel, by decide +kernel⟩
abbrev N_law : List Str := ["_law_script", "_law_bag_here", "_law_first", "_law_second", "_law_at", "_law_many_here", "_law_k", "_law_one", "_law_two", "_law_odd", "_law_wrong", "_law_due"]
theorem sc_law : FnScope N_law ["_law_script"] (defScope s_law) := ⟨rfl, rfl, rfl, by decide +kernel, rfl, by decide +kernel, by decide +kernel⟩
structure Ad where
  c_FallsError : Addr
  c_BadNumber : Addr
  c_BadPrices : Addr
  c_Prices : Addr
  f_BadNumberx_initx : Addr
  f_BadPricesx_initx : Addr
  f_is_integer : Addr
  f_Pricesx_initx : Addr
  f_Pricesx_eqx : Addr
  f_Prices_total : Addr
  f_bag : Addr
  f_pick : Addr
  f_choice : Addr
  f_one_in : Addr
  f_integer : Addr
  f_price : Addr
  f_prices : Addr
  f_many : Addr
  f_holds_prices : Addr
  f_sums_up : Addr
  f_refused : Addr
  f_caught : Addr
  f_bad : Addr
  f_law : Addr
structure Fd where
  f_BadNumberx_initx : FuncData
  f_BadPricesx_initx : FuncData
  f_is_integer : FuncData
  f_Pricesx_initx : FuncData
  f_Pricesx_eqx : FuncData
  f_Prices_total : FuncData
  f_bag : FuncData
  f_pick : FuncData
  f_choice : FuncData
  f_one_in : FuncData
  f_integer : FuncData
  f_price : FuncData
  f_prices : FuncData
  f_many : FuncData
  f_holds_prices : FuncData
  f_sums_up : FuncData
  f_refused : FuncData
  f_caught : FuncData
  f_bad : FuncData
  f_law : FuncData
/-! ### what the top has written -/
structure Txt (K : PySem.W.Frag) (mg : Str → Option Value) (a : Ad) (d : Fd) : Prop where
  F_BadNumberx_initx : FunD K "__init__" "BadNumber.__init__" (defArgs s_BadNumberx_initx) (defBody s_BadNumberx_initx) (defScope s_BadNumberx_initx) [] [] a.f_BadNumberx_initx d.f_BadNumberx_initx
  F_BadPricesx_initx : FunD K "__init__" "BadPrices.__init__" (defArgs s_BadPricesx_initx) (defBody s_BadPricesx_initx) (defScope s_BadPricesx_initx) [] [] a.f_BadPricesx_initx d.f_BadPricesx_initx
  F_is_integer : FunD K "is_integer" "is_integer" (defArgs s_is_integer) (defBody s_is_integer) (defScope s_is_integer) [] [] a.f_is_integer d.f_is_integer
  g_is_integer : mg "is_integer" = some (.ref a.f_is_integer)
  F_Pricesx_initx : FunD K "__init__" "Prices.__init__" (defArgs s_Pricesx_initx) (defBody s_Pricesx_initx) (defScope s_Pricesx_initx) [.int 1, .int 1, .int 2] [] a.f_Pricesx_initx d.f_Pricesx_initx
  F_Pricesx_eqx : FunD K "__eq__" "Prices.__eq__" (defArgs s_Pricesx_eqx) (defBody s_Pricesx_eqx) (defScope s_Pricesx_eqx) [] [] a.f_Pricesx_eqx d.f_Pricesx_eqx
  F_Prices_total : FunD K "total" "Prices.total" (defArgs s_Prices_total) (defBody s_Prices_total) (defScope s_Prices_total) [] [] a.f_Prices_total d.f_Prices_total
  F_bag : FunD K "_law_bag" "_law_bag" (defArgs s_bag) (defBody s_bag) (defScope s_bag) [] [] a.f_bag d.f_bag
  g_bag : mg "_law_bag" = some (.ref a.f_bag)
  F_pick : FunD K "_law_pick" "_law_pick" (defArgs s_pick) (defBody s_pick) (defScope s_pick) [] [] a.f_pick d.f_pick
  g_pick : mg "_law_pick" = some (.ref a.f_pick)
  F_choice : FunD K "_law_choice" "_law_choice" (defArgs s_choice) (defBody s_choice) (defScope s_choice) [] [] a.f_choice d.f_choice
  g_choice : mg "_law_choice" = some (.ref a.f_choice)
  F_one_in : FunD K "_law_one_in" "_law_one_in" (defArgs s_one_in) (defBody s_one_in) (defScope s_one_in) [] [] a.f_one_in d.f_one_in
  g_one_in : mg "_law_one_in" = some (.ref a.f_one_in)
  F_integer : FunD K "_law_integer" "_law_integer" (defArgs s_integer) (defBody s_integer) (defScope s_integer) [] [] a.f_integer d.f_integer
  g_integer : mg "_law_integer" = some (.ref a.f_integer)
  F_price : FunD K "_law_price" "_law_price" (defArgs s_price) (defBody s_price) (defScope s_price) [] [] a.f_price d.f_price
  g_price : mg "_law_price" = some (.ref a.f_price)
  F_prices : FunD K "_law_prices" "_law_prices" (defArgs s_prices) (defBody s_prices) (defScope s_prices) [] [] a.f_prices d.f_prices
  g_prices : mg "_law_prices" = some (.ref a.f_prices)
  F_many : FunD K "_law_many" "_law_many" (defArgs s_many) (defBody s_many) (defScope s_many) [] [] a.f_many d.f_many
  g_many : mg "_law_many" = some (.ref a.f_many)
  F_holds_prices : FunD K "_law_holds_prices" "_law_holds_prices" (defArgs s_holds_prices) (defBody s_holds_prices) (defScope s_holds_prices) [] [] a.f_holds_prices d.f_holds_prices
  g_holds_prices : mg "_law_holds_prices" = some (.ref a.f_holds_prices)
  F_sums_up : FunD K "_law_sums_up" "_law_sums_up" (defArgs s_sums_up) (defBody s_sums_up) (defScope s_sums_up) [] [] a.f_sums_up d.f_sums_up
  g_sums_up : mg "_law_sums_up" = some (.ref a.f_sums_up)
  F_refused : FunD K "_law_refused" "_law_refused" (defArgs s_refused) (defBody s_refused) (defScope s_refused) [] [] a.f_refused d.f_refused
  g_refused : mg "_law_refused" = some (.ref a.f_refused)
  F_caught : FunD K "_law_caught" "_law_caught" (defArgs s_caught) (defBody s_caught) (defScope s_caught) [] [] a.f_caught d.f_caught
  g_caught : mg "_law_caught" = some (.ref a.f_caught)
  F_bad : FunD K "_law_bad" "_law_bad" (defArgs s_bad) (defBody s_bad) (defScope s_bad) [] [] a.f_bad d.f_bad
  g_bad : mg "_law_bad" = some (.ref a.f_bad)
  F_law : FunD K "law" "law" (defArgs s_law) (defBody s_law) (defScope s_law) [] [] a.f_law d.f_law
  g_law : mg "law" = some (.ref a.f_law)
  cls_Prices : Cls K a.c_Prices
  g_Prices : mg "Prices" = some (.ref a.c_Prices)
  ins_Prices : InsOk K a.c_Prices
  mk_Prices : Mk K a.c_Prices a.f_Pricesx_initx
  na_Prices_restate : NoAttr K a.c_Prices "restate"
  na_Prices_reweigh : NoAttr K a.c_Prices "reweigh"
  na_Prices_exchange : NoAttr K a.c_Prices "exchange"
  me_Prices_total : Meth K a.c_Prices "total" a.f_Prices_total
  eq_Prices : Meth K a.c_Prices "__eq__" a.f_Pricesx_eqx
  g_FallsError : mg "FallsError" = some (.ref a.c_FallsError)
  xe_FallsError : ExcC K a.c_FallsError
  g_BadNumber : mg "BadNumber" = some (.ref a.c_BadNumber)
  xe_BadNumber : ExcC K a.c_BadNumber
  oex_BadNumber : OexC K a.c_BadNumber
  iC_BadNumber : PySem.W.findIn K (.ref a.c_BadNumber) "__init__" = some (some (.ref a.f_BadNumberx_initx))
  tI_BadNumber : PySem.W.typeIn K (.ref a.f_BadNumberx_initx) = some (.type "function")
  no_BadNumber : PySem.W.findIn K (.ref a.c_BadNumber) "number" = some none
  xf_BadNumber : XfOk K "number" a.c_BadNumber
  g_BadPrices : mg "BadPrices" = some (.ref a.c_BadPrices)
  xe_BadPrices : ExcC K a.c_BadPrices
  oex_BadPrices : OexC K a.c_BadPrices
  iC_BadPrices : PySem.W.findIn K (.ref a.c_BadPrices) "__init__" = some (some (.ref a.f_BadPricesx_initx))
  tI_BadPrices : PySem.W.typeIn K (.ref a.f_BadPricesx_initx) = some (.type "function")
  no_BadPrices : PySem.W.findIn K (.ref a.c_BadPrices) "part" = some none
  xf_BadPrices : XfOk K "part" a.c_BadPrices
  n_ValueError : mg "ValueError" = none
  n_all : mg "all" = none
  n_bool : mg "bool" = none
  n_int : mg "int" = none
  n_isinstance : mg "isinstance" = none
  n_len : mg "len" = none
  n_list : mg "list" = none
  n_range : mg "range" = none
  n_tuple : mg "tuple" = none
  k_HIGHEST : ∃ t, mg "HIGHEST" = some (.int 1000 t)
  kit_int_Prices : PySem.W.kitOne K (.type "int") (.ref a.c_Prices) = some false
  kit_tuple_Prices : PySem.W.kitOne K (.type "tuple") (.ref a.c_Prices) = some false
  kit_Prices_Prices : PySem.W.kitOne K (.ref a.c_Prices) (.ref a.c_Prices) = some true
  kit_str_Prices : PySem.W.kitOne K (.type "str") (.ref a.c_Prices) = some false
  kit_BadPrices_FallsError : PySem.W.kitOne K (.ref a.c_BadPrices) (.ref a.c_FallsError) = some true
  kit_BadPrices_ValueError : PySem.W.kitOne K (.ref a.c_BadPrices) (.type "ValueError") = some true
  kit_BadPrices_BadNumber : PySem.W.kitOne K (.ref a.c_BadPrices) (.ref a.c_BadNumber) = some false
  exm_BadPrices_BadPrices : PySem.W.exmOne K (.ref a.c_BadPrices) (.ref a.c_BadPrices) = some true
  exm_BadPrices_FallsError : PySem.W.exmOne K (.ref a.c_BadPrices) (.ref a.c_FallsError) = some true
  nf_Prices_Prices : PySem.W.notFirst K a.c_Prices (.ref a.c_Prices) = true
  nf_Prices_int : PySem.W.notFirst K a.c_Prices (.type "int") = true
  nf_Prices_tuple : PySem.W.notFirst K a.c_Prices (.type "tuple") = true
  nf_Prices_str : PySem.W.notFirst K a.c_Prices (.type "str") = true
theorem bi_BadNumberx_initx {K : PySem.W.Frag} {mg : Str → Option Value} {a : Ad} {d : Fd} (T : Txt K mg a d) : Binds K d.f_BadNumberx_initx ["self", "number"] [] := T.F_BadNumberx_initx.bindsN fun _ _ _ _ _ _ us hl => match us, hl with | [_, _], _ => rfl
theorem ab_BadNumberx_initx {K : PySem.W.Frag} {mg : Str → Option Value} {a : Ad} {d : Fd} (T : Txt K mg a d) : AB K d.f_BadNumberx_initx ["self", "number"] 2 [] (fun ds _ => ds) := ab_plain 2 (bi_BadNumberx_initx T) rfl
theorem bi_BadPricesx_initx {K : PySem.W.Frag} {mg : Str → Option Value} {a : Ad} {d : Fd} (T : Txt K mg a d) : Binds K d.f_BadPricesx_initx ["self", "part"] [] := T.F_BadPricesx_initx.bindsN fun _ _ _ _ _ _ us hl => match us, hl with | [_, _], _ => rfl
theorem ab_BadPricesx_initx {K : PySem.W.Frag} {mg : Str → Option Value} {a : Ad} {d : Fd} (T : Txt K mg a d) : AB K d.f_BadPricesx_initx ["self", "part"] 2 [] (fun ds _ => ds) := ab_plain 2 (bi_BadPricesx_initx T) rfl
theorem bi_is_integer {K : PySem.W.Frag} {mg : Str → Option Value} {a : Ad} {d : Fd} (T : Txt K mg a d) : Binds K d.f_is_integer ["thing"] [] := T.F_is_integer.bindsN fun _ _ _ _ _ _ us hl => match us, hl with | [_], _ => rfl
theorem ab_is_integer {K : PySem.W.Frag} {mg : Str → Option Value} {a : Ad} {d : Fd} (T : Txt K mg a d) : AB K d.f_is_integer ["thing"] 1 [] (fun ds _ => ds) := ab_plain 1 (bi_is_integer T) rfl
theorem ab_Pricesx_initx {K : PySem.W.Frag} {mg : Str → Option Value} {a : Ad} {d : Fd} (T : Txt K mg a d) : AB K d.f_Pricesx_initx ["self", "restate", "reweigh", "exchange"] 4 [] (fun ds _ => ds) := AB.full (ab_dflt 4 3 [] T.F_Pricesx_initx (by simp) rfl (fun F => .nil) (fun T kV doc pm an cdv ct us its h1 h2 => by
    match us, h1, its, h2 with
    | [_, _, _, _], _, [_, _, _], _ => exact ⟨_, rfl, rfl⟩))
def gab_Pricesx_initx_1_exchange_restate_reweigh : List D → List D → List D := fun ds es => sel [(0, 0), (2, 1), (2, 2), (2, 0)] ds [D.int 1, D.int 1, D.int 2] es
theorem ab_Pricesx_initx_1_exchange_restate_reweigh {K : PySem.W.Frag} {mg : Str → Option Value} {a : Ad} {d : Fd} (T : Txt K mg a d) : AB K d.f_Pricesx_initx ["self", "restate", "reweigh", "exchange"] 1 ["exchange", "restate", "reweigh"] gab_Pricesx_initx_1_exchange_restate_reweigh := ab_sel 1 ["exchange", "restate", "reweigh"] [(0, 0), (2, 1), (2, 2), (2, 0)] [D.int 1, D.int 1, D.int 2] T.F_Pricesx_initx (by simp) (fun F => (.cons (.int _) (.cons (.int _) (.cons (.int _) .nil)))) (fun T kV doc pm an cdv ct us its ws h1 h2 h3 => by
    match us, h1, its, h2, ws, h3 with
    | [_], _, [_, _, _], _, [_, _, _], _ => exact ⟨_, rfl, rfl⟩)
def gab_Pricesx_initx_1 : List D → List D → List D := fun ds _ => ds ++ [D.int 1, D.int 1, D.int 2]
theorem ab_Pricesx_initx_1 {K : PySem.W.Frag} {mg : Str → Option Value} {a : Ad} {d : Fd} (T : Txt K mg a d) : AB K d.f_Pricesx_initx ["self", "restate", "reweigh", "exchange"] 1 [] gab_Pricesx_initx_1 := ab_dflt 1 0 [D.int 1, D.int 1, D.int 2] T.F_Pricesx_initx (by simp) rfl (fun F => (.cons (.int _) (.cons (.int _) (.cons (.int _) .nil)))) (fun T kV doc pm an cdv ct us its h1 h2 => by
    match us, h1, its, h2 with
    | [_], _, [_, _, _], _ => exact ⟨_, rfl, rfl⟩)
def gab_Pricesx_initx_2 : List D → List D → List D := fun ds _ => ds ++ [D.int 1, D.int 2]
theorem ab_Pricesx_initx_2 {K : PySem.W.Frag} {mg : Str → Option Value} {a : Ad} {d : Fd} (T : Txt K mg a d) : AB K d.f_Pricesx_initx ["self", "restate", "reweigh", "exchange"] 2 [] gab_Pricesx_initx_2 := ab_dflt 2 1 [D.int 1, D.int 2] T.F_Pricesx_initx (by simp) rfl (fun F => (.cons (.int _) (.cons (.int _) .nil))) (fun T kV doc pm an cdv ct us its h1 h2 => by
    match us, h1, its, h2 with
    | [_, _], _, [_, _, _], _ => exact ⟨_, rfl, rfl⟩)
def gab_Pricesx_initx_3 : List D → List D → List D := fun ds _ => ds ++ [D.int 2]
theorem ab_Pricesx_initx_3 {K : PySem.W.Frag} {mg : Str → Option Value} {a : Ad} {d : Fd} (T : Txt K mg a d) : AB K d.f_Pricesx_initx ["self", "restate", "reweigh", "exchange"] 3 [] gab_Pricesx_initx_3 := ab_dflt 3 2 [D.int 2] T.F_Pricesx_initx (by simp) rfl (fun F => (.cons (.int _) .nil)) (fun T kV doc pm an cdv ct us its h1 h2 => by
    match us, h1, its, h2 with
    | [_, _, _], _, [_, _, _], _ => exact ⟨_, rfl, rfl⟩)
def gab_Pricesx_initx_1_reweigh : List D → List D → List D := fun ds es => sel [(0, 0), (1, 0), (2, 0), (1, 2)] ds [D.int 1, D.int 1, D.int 2] es
theorem ab_Pricesx_initx_1_reweigh {K : PySem.W.Frag} {mg : Str → Option Value} {a : Ad} {d : Fd} (T : Txt K mg a d) : AB K d.f_Pricesx_initx ["self", "restate", "reweigh", "exchange"] 1 ["reweigh"] gab_Pricesx_initx_1_reweigh := ab_sel 1 ["reweigh"] [(0, 0), (1, 0), (2, 0), (1, 2)] [D.int 1, D.int 1, D.int 2] T.F_Pricesx_initx (by simp) (fun F => (.cons (.int _) (.cons (.int _) (.cons (.int _) .nil)))) (fun T kV doc pm an cdv ct us its ws h1 h2 h3 => by
    match us, h1, its, h2, ws, h3 with
    | [_], _, [_, _, _], _, [_], _ => exact ⟨_, rfl, rfl⟩)
theorem bi_Pricesx_eqx {K : PySem.W.Frag} {mg : Str → Option Value} {a : Ad} {d : Fd} (T : Txt K mg a d) : Binds K d.f_Pricesx_eqx ["self", "other"] [] := T.F_Pricesx_eqx.bindsN fun _ _ _ _ _ _ us hl => match us, hl with | [_, _], _ => rfl
theorem ab_Pricesx_eqx {K : PySem.W.Frag} {mg : Str → Option Value} {a : Ad} {d : Fd} (T : Txt K mg a d) : AB K d.f_Pricesx_eqx ["self", "other"] 2 [] (fun ds _ => ds) := ab_plain 2 (bi_Pricesx_eqx T) rfl
theorem bi_Prices_total {K : PySem.W.Frag} {mg : Str → Option Value} {a : Ad} {d : Fd} (T : Txt K mg a d) : Binds K d.f_Prices_total ["self", "many_restate", "many_reweigh", "many_exchange"] [] := T.F_Prices_total.bindsN fun _ _ _ _ _ _ us hl => match us, hl with | [_, _, _, _], _ => rfl
theorem ab_Prices_total {K : PySem.W.Frag} {mg : Str → Option Value} {a : Ad} {d : Fd} (T : Txt K mg a d) : AB K d.f_Prices_total ["self", "many_restate", "many_reweigh", "many_exchange"] 4 [] (fun ds _ => ds) := ab_plain 4 (bi_Prices_total T) rfl
theorem bi_bag {K : PySem.W.Frag} {mg : Str → Option Value} {a : Ad} {d : Fd} (T : Txt K mg a d) : Binds K d.f_bag ["_law_script"] [] := T.F_bag.bindsN fun _ _ _ _ _ _ us hl => match us, hl with | [_], _ => rfl
theorem ab_bag {K : PySem.W.Frag} {mg : Str → Option Value} {a : Ad} {d : Fd} (T : Txt K mg a d) : AB K d.f_bag ["_law_script"] 1 [] (fun ds _ => ds) := ab_plain 1 (bi_bag T) rfl
theorem bi_pick {K : PySem.W.Frag} {mg : Str → Option Value} {a : Ad} {d : Fd} (T : Txt K mg a d) : Binds K d.f_pick ["_law_bag_here", "_law_many_here"] [] := T.F_pick.bindsN fun _ _ _ _ _ _ us hl => match us, hl with | [_, _], _ => rfl
theorem ab_pick {K : PySem.W.Frag} {mg : Str → Option Value} {a : Ad} {d : Fd} (T : Txt K mg a d) : AB K d.f_pick ["_law_bag_here", "_law_many_here"] 2 [] (fun ds _ => ds) := ab_plain 2 (bi_pick T) rfl
theorem bi_choice {K : PySem.W.Frag} {mg : Str → Option Value} {a : Ad} {d : Fd} (T : Txt K mg a d) : Binds K d.f_choice ["_law_bag_here", "_law_things"] [] := T.F_choice.bindsN fun _ _ _ _ _ _ us hl => match us, hl with | [_, _], _ => rfl
theorem ab_choice {K : PySem.W.Frag} {mg : Str → Option Value} {a : Ad} {d : Fd} (T : Txt K mg a d) : AB K d.f_choice ["_law_bag_here", "_law_things"] 2 [] (fun ds _ => ds) := ab_plain 2 (bi_choice T) rfl
theorem bi_one_in {K : PySem.W.Frag} {mg : Str → Option Value} {a : Ad} {d : Fd} (T : Txt K mg a d) : Binds K d.f_one_in ["_law_bag_here", "_law_many_here"] [] := T.F_one_in.bindsN fun _ _ _ _ _ _ us hl => match us, hl with | [_, _], _ => rfl
theorem ab_one_in {K : PySem.W.Frag} {mg : Str → Option Value} {a : Ad} {d : Fd} (T : Txt K mg a d) : AB K d.f_one_in ["_law_bag_here", "_law_many_here"] 2 [] (fun ds _ => ds) := ab_plain 2 (bi_one_in T) rfl
theorem bi_integer {K : PySem.W.Frag} {mg : Str → Option Value} {a : Ad} {d : Fd} (T : Txt K mg a d) : Binds K d.f_integer ["_law_thing"] [] := T.F_integer.bindsN fun _ _ _ _ _ _ us hl => match us, hl with | [_], _ => rfl
theorem ab_integer {K : PySem.W.Frag} {mg : Str → Option Value} {a : Ad} {d : Fd} (T : Txt K mg a d) : AB K d.f_integer ["_law_thing"] 1 [] (fun ds _ => ds) := ab_plain 1 (bi_integer T) rfl
theorem bi_price {K : PySem.W.Frag} {mg : Str → Option Value} {a : Ad} {d : Fd} (T : Txt K mg a d) : Binds K d.f_price ["_law_bag_here"] [] := T.F_price.bindsN fun _ _ _ _ _ _ us hl => match us, hl with | [_], _ => rfl
theorem ab_price {K : PySem.W.Frag} {mg : Str → Option Value} {a : Ad} {d : Fd} (T : Txt K mg a d) : AB K d.f_price ["_law_bag_here"] 1 [] (fun ds _ => ds) := ab_plain 1 (bi_price T) rfl
theorem bi_prices {K : PySem.W.Frag} {mg : Str → Option Value} {a : Ad} {d : Fd} (T : Txt K mg a d) : Binds K d.f_prices ["_law_bag_here"] [] := T.F_prices.bindsN fun _ _ _ _ _ _ us hl => match us, hl with | [_], _ => rfl
theorem ab_prices {K : PySem.W.Frag} {mg : Str → Option Value} {a : Ad} {d : Fd} (T : Txt K mg a d) : AB K d.f_prices ["_law_bag_here"] 1 [] (fun ds _ => ds) := ab_plain 1 (bi_prices T) rfl
theorem bi_many {K : PySem.W.Frag} {mg : Str → Option Value} {a : Ad} {d : Fd} (T : Txt K mg a d) : Binds K d.f_many ["_law_bag_here"] [] := T.F_many.bindsN fun _ _ _ _ _ _ us hl => match us, hl with | [_], _ => rfl
theorem ab_many {K : PySem.W.Frag} {mg : Str → Option Value} {a : Ad} {d : Fd} (T : Txt K mg a d) : AB K d.f_many ["_law_bag_here"] 1 [] (fun ds _ => ds) := ab_plain 1 (bi_many T) rfl
theorem bi_holds_prices {K : PySem.W.Frag} {mg : Str → Option Value} {a : Ad} {d : Fd} (T : Txt K mg a d) : Binds K d.f_holds_prices ["_law_made", "_law_row"] [] := T.F_holds_prices.bindsN fun _ _ _ _ _ _ us hl => match us, hl with | [_, _], _ => rfl
theorem ab_holds_prices {K : PySem.W.Frag} {mg : Str → Option Value} {a : Ad} {d : Fd} (T : Txt K mg a d) : AB K d.f_holds_prices ["_law_made", "_law_row"] 2 [] (fun ds _ => ds) := ab_plain 2 (bi_holds_prices T) rfl
theorem bi_sums_up {K : PySem.W.Frag} {mg : Str → Option Value} {a : Ad} {d : Fd} (T : Txt K mg a d) : Binds K d.f_sums_up ["_law_made", "_law_row", "_law_many_here"] [] := T.F_sums_up.bindsN fun _ _ _ _ _ _ us hl => match us, hl with | [_, _, _], _ => rfl
theorem ab_sums_up {K : PySem.W.Frag} {mg : Str → Option Value} {a : Ad} {d : Fd} (T : Txt K mg a d) : AB K d.f_sums_up ["_law_made", "_law_row", "_law_many_here"] 3 [] (fun ds _ => ds) := ab_plain 3 (bi_sums_up T) rfl
theorem bi_refused {K : PySem.W.Frag} {mg : Str → Option Value} {a : Ad} {d : Fd} (T : Txt K mg a d) : Binds K d.f_refused ["_law_row"] [] := T.F_refused.bindsN fun _ _ _ _ _ _ us hl => match us, hl with | [_], _ => rfl
theorem ab_refused {K : PySem.W.Frag} {mg : Str → Option Value} {a : Ad} {d : Fd} (T : Txt K mg a d) : AB K d.f_refused ["_law_row"] 1 [] (fun ds _ => ds) := ab_plain 1 (bi_refused T) rfl
theorem bi_caught {K : PySem.W.Frag} {mg : Str → Option Value} {a : Ad} {d : Fd} (T : Txt K mg a d) : Binds K d.f_caught ["_law_row"] [] := T.F_caught.bindsN fun _ _ _ _ _ _ us hl => match us, hl with | [_], _ => rfl
theorem ab_caught {K : PySem.W.Frag} {mg : Str → Option Value} {a : Ad} {d : Fd} (T : Txt K mg a d) : AB K d.f_caught ["_law_row"] 1 [] (fun ds _ => ds) := ab_plain 1 (bi_caught T) rfl
theorem bi_bad {K : PySem.W.Frag} {mg : Str → Option Value} {a : Ad} {d : Fd} (T : Txt K mg a d) : Binds K d.f_bad ["_law_bag_here"] [] := T.F_bad.bindsN fun _ _ _ _ _ _ us hl => match us, hl with | [_], _ => rfl
theorem ab_bad {K : PySem.W.Frag} {mg : Str → Option Value} {a : Ad} {d : Fd} (T : Txt K mg a d) : AB K d.f_bad ["_law_bag_here"] 1 [] (fun ds _ => ds) := ab_plain 1 (bi_bad T) rfl
theorem bi_law {K : PySem.W.Frag} {mg : Str → Option Value} {a : Ad} {d : Fd} (T : Txt K mg a d) : Binds K d.f_law ["_law_script"] [] := T.F_law.bindsN fun _ _ _ _ _ _ us hl => match us, hl with | [_], _ => rfl
theorem ab_law {K : PySem.W.Frag} {mg : Str → Option Value} {a : Ad} {d : Fd} (T : Txt K mg a d) : AB K d.f_law ["_law_script"] 1 [] (fun ds _ => ds) := ab_plain 1 (bi_law T) rfl
theorem xc_BadNumber {P : Program} {w : World} {K : PySem.W.Frag} {mg : Str → Option Value} {base : Heap} {a : Ad} {d : Fd} (T : Txt K mg a d) : XC P w K mg base a.c_BadNumber "number" a.f_BadNumberx_initx d.f_BadNumberx_initx ["self", "number"] where
  cl := T.oex_BadNumber
  iC := T.iC_BadNumber
  tI := T.tI_BadNumber
  bi := bi_BadNumberx_initx T
  fo := T.F_BadNumberx_initx.ok sc_BadNumberx_initx (fun vs H Q E ⟨_, _, e, _⟩ => by rw [e]; rfl) fun cdv A outer s H vs Q E hr ⟨x, v, e, ha, k⟩ => by
    subst e
    exact ⟨_, pss_one (ps_ost (pv 0) (pv 1)), _, rfl, _, rfl, x, a.c_BadNumber, rfl, T.oex_BadNumber, T.no_BadNumber, .inl ⟨ha, fun dx h1 h2 => k dx h1 h2⟩⟩
theorem xc_BadPrices {P : Program} {w : World} {K : PySem.W.Frag} {mg : Str → Option Value} {base : Heap} {a : Ad} {d : Fd} (T : Txt K mg a d) : XC P w K mg base a.c_BadPrices "part" a.f_BadPricesx_initx d.f_BadPricesx_initx ["self", "part"] where
  cl := T.oex_BadPrices
  iC := T.iC_BadPrices
  tI := T.tI_BadPrices
  bi := bi_BadPricesx_initx T
  fo := T.F_BadPricesx_initx.ok sc_BadPricesx_initx (fun vs H Q E ⟨_, _, e, _⟩ => by rw [e]; rfl) fun cdv A outer s H vs Q E hr ⟨x, v, e, ha, k⟩ => by
    subst e
    exact ⟨_, pss_one (ps_ost (pv 0) (pv 1)), _, rfl, _, rfl, x, a.c_BadPrices, rfl, T.oex_BadPrices, T.no_BadPrices, .inl ⟨ha, fun dx h1 h2 => k dx h1 h2⟩⟩

end K52

namespace K52
open PySem PySem.Spec PyProof.Rows L2 T3

/-- is_integer: an int that is no bool -/
def isint : D → Option Bool
  | .int _ => some true
  | .bl _ => some false
  | .non => some false
  | .str _ => some false
  | .tup _ => some false
  | .lst _ => some false
  | .kls _ => some false
  | _ => none
def sp_is_integer (K : PySem.W.Frag) (a : Ad) : Sp3 := fun ds G Q _ => ∃ d b, ds = [d] ∧ isint d = some b ∧ Q (.bl b) G

/- return isinstance(thing, int) and (not isinstance(thing, bool)) -/
def rd_is_integer_0 (K : PySem.W.Frag) (a : Ad) (W : W3) : T3S := (ret3 (van3 (cb3 (isi K) (cons3 (var3 0) (cons3 (con3 (.ty "int")) nil3))) (vno3 (cb3 (isi K) (cons3 (var3 0) (cons3 (con3 (.ty "bool")) nil3))))))
def rd_is_integer (K : PySem.W.Frag) (a : Ad) (W : W3) : T3S := (rd_is_integer_0 K a W)
theorem dv_is_integer {P : Program} {w : World} {K : PySem.W.Frag} {mg : Str → Option Value} {base : Heap} {a : Ad} {d : Fd} (T : Txt K mg a d) (wlp : ∀ ds G Q E, (sp_is_integer K a) ds G Q E → ds.length = 1)
    (h : ∀ (ds : List D) (G : H3) (Q : K3) (E : X3), (sp_is_integer K a) ds G Q E → rd_is_integer K a (ex3 E) (ends3 Q) (start3 N_is_integer ds) G) : Fk P w K mg base 1 a.f_is_integer d.f_is_integer ["thing"] (sp_is_integer K a) :=
  fn3 T.F_is_integer sc_is_integer wlp fun cdv A outer s H E B E3 hr tk po => by
    have sc := sc_is_integer
    have hu64 := hr.units
    have hu1 := hu_of hr
    refine ⟨rd_is_integer K a (ex3 E3), ?_, fun ds G Q h' => h ds G Q E3 h'⟩
    exact (b_one (s_ret (e_and (e_cb c_isi T.n_isinstance (by decide +kernel) (a_cons (e_var 0) (a_cons (e_bty (by rfl) T.n_int (by decide +kernel)) a_nil))) (e_one (e_not (e_cb c_isi T.n_isinstance (by decide +kernel) (a_cons (e_var 0) (a_cons (e_bty (by rfl) T.n_bool (by decide +kernel)) a_nil))))))))

theorem ok_is_integer {P : Program} {w : World} {K : PySem.W.Frag} {mg : Str → Option Value} {base : Heap} {a : Ad} {d : Fd} (T : Txt K mg a d) : Fk P w K mg base 1 a.f_is_integer d.f_is_integer ["thing"] (sp_is_integer K a) :=
  dv_is_integer T (by rintro _ _ _ _ ⟨d, b, rfl, _⟩; rfl) fun ds G Q E h => by
    obtain ⟨d, b, rfl, hd, hq⟩ := h
    show rd_is_integer K a _ (ends3 Q) [some d] G
    unfold rd_is_integer rd_is_integer_0
    cases d <;> simp only [isint] at hd <;> cases hd <;> simp only [var3, con3, op3, un3, tst3, chain3, tru3, vno3, van3, vo3, not3, and3, or3, ite3, nil3, cons3, tup3, lst3, lsf3, nx3, seq3, brk3, cnt3, drop3, ret3, retn3, ifs3, set3, asg3, gn3, gnil3, gcons3, gtup3, for3, ilst3, itup3, irng1, irng2, call3, fld3, sfld3, meth3, make3, raise3, frz3, try3, wTry3, inSuite3, outOf3, xfld3, cb3, isx, bml3, isl, app3, gsub3, st3, dic3, prs3, dkeys, newl, finv, view3, lcg3, id, bag_c, bag_a, bag_r, bag_m, bag_n, bag_pa, bag_pr, bag_pm, bag_pn, bag_len, up_same, up_up, at3_0, at3_1, at3_2, toNat_2, Int.toNat_zero, Int.toNat_one, istru_bl, istru_int, istru_non, istru_tup, istru_lst, istru_kls, istru_str, add3_ii, add3_ss, add3_tt, sub3_ii, mul3_ii, fdv3_ii, mod3_ii, pow3_ii, neg3_i, eqn3_ii, eqn3_ss, eqn3_bb, eqn3_tup, eqn3_lst, eqn3_non, cmi3_ii, isn3_bb, isn3_nn, isn3_on, isn3_tn, isn3_in, isn3_sn, isn3_rn, isn3_ln, isn3_bn, ix3_lst, ix3_kls, ix3_tup, ix3_ri, ix3_rs, opt3_some, getf_obj, seqj_lst, seqj_kls, seqj_ref, tupj_tup, len3_lst, len3_kls, len3_tup, len3_str, len3_ref, int3_i, int3_b, abs3_i, str3_i, lisf3_lst, lisf3_kls, lisf3_tup, list3_lst, list3_kls, list3_tup, tuple3_lst, tuple3_kls, tuple3_tup, isi_2, typ_non, typ_bl, typ_int, typ_str, typ_tup, typ_lst, typ_kls, typ_obj, typok_ty, typok_ref, clsv_ty, clsv_ref, eqo3_obj, onlyb_bl, adl3_ll, all3_lst, List.set_cons_zero, List.set_cons_succ, List.getElem?_cons_zero, List.getElem?_cons_succ, List.map_cons, List.map_nil, List.length_cons, List.length_nil, if_true, if_false, reduceIte, reduceCtorEq, Option.map_some, Option.some.injEq, and_true, true_and, List.cons_append, List.nil_append, Nat.reduceAdd, Nat.reduceLeDiff, Nat.reduceEqDiff, exists_eq_left', exists_eq_left, exists_and_left, exists_eq_right, exists_and_right, exists_const, Bool.not_true, Bool.not_false, kt_NoneType_int, kt_NoneType_bool, kt_NoneType_str, kt_NoneType_tuple, kt_NoneType_list, kt_NoneType_dict, kt_bool_int, kt_bool_bool, kt_bool_str, kt_bool_tuple, kt_bool_list, kt_bool_dict, kt_int_int, kt_int_bool, kt_int_str, kt_int_tuple, kt_int_list, kt_int_dict, kt_str_int, kt_str_bool, kt_str_str, kt_str_tuple, kt_str_list, kt_str_dict, kt_tuple_int, kt_tuple_bool, kt_tuple_str, kt_tuple_tuple, kt_tuple_list, kt_tuple_dict, kt_list_int, kt_list_bool, kt_list_str, kt_list_tuple, kt_list_list, kt_list_dict, kt_dict_int, kt_dict_bool, kt_dict_str, kt_dict_tuple, kt_dict_list, kt_dict_dict]
    all_goals exact rt_same hq

end K52

namespace K52
open PySem PySem.Spec PyProof.Rows L2 T3

/-- what is a price -/
def prOk : D → Option Bool
  | .int i => some (decide (0 ≤ i ∧ i ≤ 1000))
  | d => (isint d).map fun _ => false
def prF (p q r : D) : List (Str × D) := [("restate", p), ("reweigh", q), ("exchange", r)]
theorem prF_p {p q r : D} : (prF p q r).lookup ("restate" : Str) = some p := rfl
theorem prF_q {p q r : D} : (prF p q r).lookup ("reweigh" : Str) = some q := rfl
theorem prF_r {p q r : D} : (prF p q r).lookup ("exchange" : Str) = some r := rfl
def sp_Pricesx_initx (K : PySem.W.Frag) (a : Ad) : Sp3 := fun ds G Q E => ∃ x p q r bp bq br, ds = [.ref x, p, q, r] ∧ G x = some (.ins a.c_Prices []) ∧ prOk p = some bp ∧ prOk q = some bq ∧ prOk r = some br ∧
  if bp = true then if bq = true then if br = true then Q .non (up G x (.ins a.c_Prices (prF p q r)))
    else E (.ref a.c_BadPrices) [("part", .str "exchange")] (dn G x) else E (.ref a.c_BadPrices) [("part", .str "reweigh")] (dn G x) else E (.ref a.c_BadPrices) [("part", .str "restate")] (dn G x)

/- raise BadPrices(part) -/
def rd_Pricesx_initx_0 (K : PySem.W.Frag) (a : Ad) (W : W3) : T3S := (raise3 a.c_BadPrices "part" W (cons3 (var3 4) nil3))
/- if not is_integer(price) or not 0 <= price <= HIGHEST: -/
def rd_Pricesx_initx_1 (K : PySem.W.Frag) (a : Ad) (W : W3) : T3S := (ifs3 (or3 (not3 (tru3 (call3 (sp_is_integer K a) W 1 0 (fun ds _ => ds) (cons3 (var3 5) nil3) nil3))) (not3 (tst3 (chain3 le3 le3 (con3 (.int 0)) (var3 5) (con3 (.int 1000)))))) (rd_Pricesx_initx_0 K a W) nx3)
/- for part, price in (('restate', restate), ('reweigh', reweigh), ('exchange', exchange)): -/
def rd_Pricesx_initx_2 (K : PySem.W.Frag) (a : Ad) (W : W3) : T3S := (for3 (itup3 (tup3 (cons3 (tup3 (cons3 (con3 (.str "restate")) (cons3 (var3 1) nil3))) (cons3 (tup3 (cons3 (con3 (.str "reweigh")) (cons3 (var3 2) nil3))) (cons3 (tup3 (cons3 (con3 (.str "exchange")) (cons3 (var3 3) nil3))) nil3))))) (gtup3 2 (gcons3 (gn3 4) (gcons3 (gn3 5) gnil3))) (rd_Pricesx_initx_1 K a W))
/- self.restate = restate -/
def rd_Pricesx_initx_3 (K : PySem.W.Frag) (a : Ad) (W : W3) : T3S := (sfld3 [a.c_Prices] "restate" (var3 0) (var3 1))
/- self.reweigh = reweigh -/
def rd_Pricesx_initx_4 (K : PySem.W.Frag) (a : Ad) (W : W3) : T3S := (sfld3 [a.c_Prices] "reweigh" (var3 0) (var3 2))
/- self.exchange = exchange -/
def rd_Pricesx_initx_5 (K : PySem.W.Frag) (a : Ad) (W : W3) : T3S := (sfld3 [a.c_Prices] "exchange" (var3 0) (var3 3))
def rd_Pricesx_initx (K : PySem.W.Frag) (a : Ad) (W : W3) : T3S := (seq3 (rd_Pricesx_initx_2 K a W) (seq3 (rd_Pricesx_initx_3 K a W) (seq3 (rd_Pricesx_initx_4 K a W) (rd_Pricesx_initx_5 K a W))))
theorem dv_Pricesx_initx {P : Program} {w : World} {K : PySem.W.Frag} {mg : Str → Option Value} {base : Heap} {a : Ad} {d : Fd} (T : Txt K mg a d) (wlp : ∀ ds G Q E, (sp_Pricesx_initx K a) ds G Q E → ds.length = 4)
    (h : ∀ (ds : List D) (G : H3) (Q : K3) (E : X3), (sp_Pricesx_initx K a) ds G Q E → rd_Pricesx_initx K a (ex3 E) (ends3 Q) (start3 N_Pricesx_initx ds) G) : Fk P w K mg base 3 a.f_Pricesx_initx d.f_Pricesx_initx ["self", "restate", "reweigh", "exchange"] (sp_Pricesx_initx K a) :=
  fn3 T.F_Pricesx_initx sc_Pricesx_initx wlp fun cdv A outer s H E B E3 hr tk po => by
    have sc := sc_Pricesx_initx
    have hu64 := hr.units
    have hu1 := hu_of hr
    refine ⟨rd_Pricesx_initx K a (ex3 E3), ?_, fun ds G Q h' => h ds G Q E3 h'⟩
    exact (b_cons (s_for po rfl (i_tup (e_tup (a_cons (e_tup (a_cons e_str (a_cons (e_var 1) a_nil))) (a_cons (e_tup (a_cons e_str (a_cons (e_var 2) a_nil))) (a_cons (e_tup (a_cons e_str (a_cons (e_var 3) a_nil))) a_nil))))) (g_tup 2 rfl (gs_cons (g_name 4 sc.nd) (gs_cons (g_name 5 sc.nd) gs_nil))) (b_one (s_if (p_w (w_or (p_not (p_tru (e_call (ok_is_integer T) (hr.mono (by decide)) tk T.g_is_integer T.F_is_integer.kp (ab_is_integer T) (a_cons (e_var 5) a_nil)))) (w_or1 (p_not (p_chain o_le o_le e_int (e_var 5) (e_gint (by rfl) T.k_HIGHEST)))))) (b_one (s_raise rfl (xc_BadPrices T) (hr.mono (by decide)) tk T.g_BadPrices (a_cons (e_var 4) a_nil))) b_nil))) (b_cons (s_fld (fun C hC => by rw [List.mem_singleton.mp hC]; exact ⟨T.cls_Prices, T.na_Prices_restate⟩) (e_var 0) (e_var 1)) (b_cons (s_fld (fun C hC => by rw [List.mem_singleton.mp hC]; exact ⟨T.cls_Prices, T.na_Prices_reweigh⟩) (e_var 0) (e_var 2)) (b_one (s_fld (fun C hC => by rw [List.mem_singleton.mp hC]; exact ⟨T.cls_Prices, T.na_Prices_exchange⟩) (e_var 0) (e_var 3))))))

theorem prOk_int {d : D} {b : Bool} (h : prOk d = some b) : ∃ k, isint d = some k ∧ if k = true then ∃ i, d = .int i ∧ b = decide (0 ≤ i ∧ i ≤ 1000) else b = false := by
  cases d with
  | int i => exact ⟨true, rfl, i, rfl, (Option.some.inj h).symm⟩
  | bl i => exact ⟨false, rfl, (Option.some.inj h).symm⟩
  | non => exact ⟨false, rfl, (Option.some.inj h).symm⟩
  | str i => exact ⟨false, rfl, (Option.some.inj h).symm⟩
  | tup i => exact ⟨false, rfl, (Option.some.inj h).symm⟩
  | lst i => exact ⟨false, rfl, (Option.some.inj h).symm⟩
  | kls i => exact ⟨false, rfl, (Option.some.inj h).symm⟩
  | _ => cases h
/-- one turn of the loop -/
theorem init_turn {K : PySem.W.Frag} {a : Ad} {W : W3} {N : N3} {x : Addr} {p q r y : D} {z : Str} {b : Bool} {G : H3} (h : prOk y = some b) (hN : if b = true then N.nx [some (.ref x), some p, some q, some r, some (.str z), some y] G else W (.ref a.c_BadPrices) [("part", .str z)] [some (.ref x), some p, some q, some r, some (.str z), some y] G) :
    rd_Pricesx_initx_1 K a W N [some (.ref x), some p, some q, some r, some (.str z), some y] G := by
  obtain ⟨k, h1, h2⟩ := prOk_int h
  unfold rd_Pricesx_initx_1
  simp only [var3, con3, op3, un3, tst3, chain3, tru3, vno3, van3, vo3, not3, and3, or3, ite3, nil3, cons3, tup3, lst3, lsf3, nx3, seq3, brk3, cnt3, drop3, ret3, retn3, ifs3, set3, asg3, gn3, gnil3, gcons3, gtup3, for3, ilst3, itup3, irng1, irng2, call3, fld3, sfld3, meth3, make3, raise3, frz3, try3, wTry3, inSuite3, outOf3, xfld3, cb3, isx, bml3, isl, app3, gsub3, st3, dic3, prs3, dkeys, newl, finv, view3, lcg3, id, bag_c, bag_a, bag_r, bag_m, bag_n, bag_pa, bag_pr, bag_pm, bag_pn, bag_len, up_same, up_up, at3_0, at3_1, at3_2, toNat_2, Int.toNat_zero, Int.toNat_one, istru_bl, istru_int, istru_non, istru_tup, istru_lst, istru_kls, istru_str, add3_ii, add3_ss, add3_tt, sub3_ii, mul3_ii, fdv3_ii, mod3_ii, pow3_ii, neg3_i, eqn3_ii, eqn3_ss, eqn3_bb, eqn3_tup, eqn3_lst, eqn3_non, cmi3_ii, isn3_bb, isn3_nn, isn3_on, isn3_tn, isn3_in, isn3_sn, isn3_rn, isn3_ln, isn3_bn, ix3_lst, ix3_kls, ix3_tup, ix3_ri, ix3_rs, opt3_some, getf_obj, seqj_lst, seqj_kls, seqj_ref, tupj_tup, len3_lst, len3_kls, len3_tup, len3_str, len3_ref, int3_i, int3_b, abs3_i, str3_i, lisf3_lst, lisf3_kls, lisf3_tup, list3_lst, list3_kls, list3_tup, tuple3_lst, tuple3_kls, tuple3_tup, isi_2, typ_non, typ_bl, typ_int, typ_str, typ_tup, typ_lst, typ_kls, typ_obj, typok_ty, typok_ref, clsv_ty, clsv_ref, eqo3_obj, onlyb_bl, adl3_ll, all3_lst, List.set_cons_zero, List.set_cons_succ, List.getElem?_cons_zero, List.getElem?_cons_succ, List.map_cons, List.map_nil, List.length_cons, List.length_nil, if_true, if_false, reduceIte, reduceCtorEq, Option.map_some, Option.some.injEq, and_true, true_and, List.cons_append, List.nil_append, Nat.reduceAdd, Nat.reduceLeDiff, Nat.reduceEqDiff, exists_eq_left', exists_eq_left, exists_and_left, exists_eq_right, exists_and_right, exists_const, Bool.not_true, Bool.not_false, kt_NoneType_int, kt_NoneType_bool, kt_NoneType_str, kt_NoneType_tuple, kt_NoneType_list, kt_NoneType_dict, kt_bool_int, kt_bool_bool, kt_bool_str, kt_bool_tuple, kt_bool_list, kt_bool_dict, kt_int_int, kt_int_bool, kt_int_str, kt_int_tuple, kt_int_list, kt_int_dict, kt_str_int, kt_str_bool, kt_str_str, kt_str_tuple, kt_str_list, kt_str_dict, kt_tuple_int, kt_tuple_bool, kt_tuple_str, kt_tuple_tuple, kt_tuple_list, kt_tuple_dict, kt_list_int, kt_list_bool, kt_list_str, kt_list_tuple, kt_list_list, kt_list_dict, kt_dict_int, kt_dict_bool, kt_dict_str, kt_dict_tuple, kt_dict_list, kt_dict_dict]
  refine ⟨y, k, rfl, h1, ?_⟩
  cases k with
  | false =>
    simp only [if_false, Bool.false_eq_true] at h2
    subst h2
    unfold rd_Pricesx_initx_0
    simp only [var3, con3, op3, un3, tst3, chain3, tru3, vno3, van3, vo3, not3, and3, or3, ite3, nil3, cons3, tup3, lst3, lsf3, nx3, seq3, brk3, cnt3, drop3, ret3, retn3, ifs3, set3, asg3, gn3, gnil3, gcons3, gtup3, for3, ilst3, itup3, irng1, irng2, call3, fld3, sfld3, meth3, make3, raise3, frz3, try3, wTry3, inSuite3, outOf3, xfld3, cb3, isx, bml3, isl, app3, gsub3, st3, dic3, prs3, dkeys, newl, finv, view3, lcg3, id, bag_c, bag_a, bag_r, bag_m, bag_n, bag_pa, bag_pr, bag_pm, bag_pn, bag_len, up_same, up_up, at3_0, at3_1, at3_2, toNat_2, Int.toNat_zero, Int.toNat_one, istru_bl, istru_int, istru_non, istru_tup, istru_lst, istru_kls, istru_str, add3_ii, add3_ss, add3_tt, sub3_ii, mul3_ii, fdv3_ii, mod3_ii, pow3_ii, neg3_i, eqn3_ii, eqn3_ss, eqn3_bb, eqn3_tup, eqn3_lst, eqn3_non, cmi3_ii, isn3_bb, isn3_nn, isn3_on, isn3_tn, isn3_in, isn3_sn, isn3_rn, isn3_ln, isn3_bn, ix3_lst, ix3_kls, ix3_tup, ix3_ri, ix3_rs, opt3_some, getf_obj, seqj_lst, seqj_kls, seqj_ref, tupj_tup, len3_lst, len3_kls, len3_tup, len3_str, len3_ref, int3_i, int3_b, abs3_i, str3_i, lisf3_lst, lisf3_kls, lisf3_tup, list3_lst, list3_kls, list3_tup, tuple3_lst, tuple3_kls, tuple3_tup, isi_2, typ_non, typ_bl, typ_int, typ_str, typ_tup, typ_lst, typ_kls, typ_obj, typok_ty, typok_ref, clsv_ty, clsv_ref, eqo3_obj, onlyb_bl, adl3_ll, all3_lst, List.set_cons_zero, List.set_cons_succ, List.getElem?_cons_zero, List.getElem?_cons_succ, List.map_cons, List.map_nil, List.length_cons, List.length_nil, if_true, if_false, reduceIte, reduceCtorEq, Option.map_some, Option.some.injEq, and_true, true_and, List.cons_append, List.nil_append, Nat.reduceAdd, Nat.reduceLeDiff, Nat.reduceEqDiff, exists_eq_left', exists_eq_left, exists_and_left, exists_eq_right, exists_and_right, exists_const, Bool.not_true, Bool.not_false, kt_NoneType_int, kt_NoneType_bool, kt_NoneType_str, kt_NoneType_tuple, kt_NoneType_list, kt_NoneType_dict, kt_bool_int, kt_bool_bool, kt_bool_str, kt_bool_tuple, kt_bool_list, kt_bool_dict, kt_int_int, kt_int_bool, kt_int_str, kt_int_tuple, kt_int_list, kt_int_dict, kt_str_int, kt_str_bool, kt_str_str, kt_str_tuple, kt_str_list, kt_str_dict, kt_tuple_int, kt_tuple_bool, kt_tuple_str, kt_tuple_tuple, kt_tuple_list, kt_tuple_dict, kt_list_int, kt_list_bool, kt_list_str, kt_list_tuple, kt_list_list, kt_list_dict, kt_dict_int, kt_dict_bool, kt_dict_str, kt_dict_tuple, kt_dict_list, kt_dict_dict]
    simpa using hN
  | true =>
    simp only [if_true] at h2
    obtain ⟨i, rfl, rfl⟩ := h2
    unfold rd_Pricesx_initx_0
    simp only [var3, con3, op3, un3, tst3, chain3, tru3, vno3, van3, vo3, not3, and3, or3, ite3, nil3, cons3, tup3, lst3, lsf3, nx3, seq3, brk3, cnt3, drop3, ret3, retn3, ifs3, set3, asg3, gn3, gnil3, gcons3, gtup3, for3, ilst3, itup3, irng1, irng2, call3, fld3, sfld3, meth3, make3, raise3, frz3, try3, wTry3, inSuite3, outOf3, xfld3, cb3, isx, bml3, isl, app3, gsub3, st3, dic3, prs3, dkeys, newl, finv, view3, lcg3, id, bag_c, bag_a, bag_r, bag_m, bag_n, bag_pa, bag_pr, bag_pm, bag_pn, bag_len, up_same, up_up, at3_0, at3_1, at3_2, toNat_2, Int.toNat_zero, Int.toNat_one, istru_bl, istru_int, istru_non, istru_tup, istru_lst, istru_kls, istru_str, add3_ii, add3_ss, add3_tt, sub3_ii, mul3_ii, fdv3_ii, mod3_ii, pow3_ii, neg3_i, eqn3_ii, eqn3_ss, eqn3_bb, eqn3_tup, eqn3_lst, eqn3_non, cmi3_ii, isn3_bb, isn3_nn, isn3_on, isn3_tn, isn3_in, isn3_sn, isn3_rn, isn3_ln, isn3_bn, ix3_lst, ix3_kls, ix3_tup, ix3_ri, ix3_rs, opt3_some, getf_obj, seqj_lst, seqj_kls, seqj_ref, tupj_tup, len3_lst, len3_kls, len3_tup, len3_str, len3_ref, int3_i, int3_b, abs3_i, str3_i, lisf3_lst, lisf3_kls, lisf3_tup, list3_lst, list3_kls, list3_tup, tuple3_lst, tuple3_kls, tuple3_tup, isi_2, typ_non, typ_bl, typ_int, typ_str, typ_tup, typ_lst, typ_kls, typ_obj, typok_ty, typok_ref, clsv_ty, clsv_ref, eqo3_obj, onlyb_bl, adl3_ll, all3_lst, List.set_cons_zero, List.set_cons_succ, List.getElem?_cons_zero, List.getElem?_cons_succ, List.map_cons, List.map_nil, List.length_cons, List.length_nil, if_true, if_false, reduceIte, reduceCtorEq, Option.map_some, Option.some.injEq, and_true, true_and, List.cons_append, List.nil_append, Nat.reduceAdd, Nat.reduceLeDiff, Nat.reduceEqDiff, exists_eq_left', exists_eq_left, exists_and_left, exists_eq_right, exists_and_right, exists_const, Bool.not_true, Bool.not_false, kt_NoneType_int, kt_NoneType_bool, kt_NoneType_str, kt_NoneType_tuple, kt_NoneType_list, kt_NoneType_dict, kt_bool_int, kt_bool_bool, kt_bool_str, kt_bool_tuple, kt_bool_list, kt_bool_dict, kt_int_int, kt_int_bool, kt_int_str, kt_int_tuple, kt_int_list, kt_int_dict, kt_str_int, kt_str_bool, kt_str_str, kt_str_tuple, kt_str_list, kt_str_dict, kt_tuple_int, kt_tuple_bool, kt_tuple_str, kt_tuple_tuple, kt_tuple_list, kt_tuple_dict, kt_list_int, kt_list_bool, kt_list_str, kt_list_tuple, kt_list_list, kt_list_dict, kt_dict_int, kt_dict_bool, kt_dict_str, kt_dict_tuple, kt_dict_list, kt_dict_dict]
    by_cases c1 : 0 ≤ i
    · by_cases c2 : i ≤ 1000
      · simp only [c1, c2, decide_true, and_self, if_true] at hN ⊢
        simpa using hN
      · simp only [c1, c2, decide_true, decide_false, and_false, if_false, Bool.false_eq_true] at hN ⊢
        simpa using hN
    · simp only [c1, decide_false, false_and, if_false, Bool.false_eq_true] at hN ⊢
      simpa using hN
theorem ok_Pricesx_initx {P : Program} {w : World} {K : PySem.W.Frag} {mg : Str → Option Value} {base : Heap} {a : Ad} {d : Fd} (T : Txt K mg a d) : Fk P w K mg base 3 a.f_Pricesx_initx d.f_Pricesx_initx ["self", "restate", "reweigh", "exchange"] (sp_Pricesx_initx K a) :=
  dv_Pricesx_initx T (by rintro _ _ _ _ ⟨x, p, q, r, _, _, _, rfl, _⟩; rfl) fun ds G Q E h => by
    obtain ⟨x, p, q, r, bp, bq, br, rfl, hG, hp, hq, hr, h⟩ := h
    show rd_Pricesx_initx K a _ (ends3 Q) [some (.ref x), some p, some q, some r, none, none] G
    unfold rd_Pricesx_initx rd_Pricesx_initx_2
    simp only [var3, con3, op3, un3, tst3, chain3, tru3, vno3, van3, vo3, not3, and3, or3, ite3, nil3, cons3, tup3, lst3, lsf3, nx3, seq3, brk3, cnt3, drop3, ret3, retn3, ifs3, set3, asg3, gn3, gnil3, gcons3, gtup3, for3, ilst3, itup3, irng1, irng2, call3, fld3, sfld3, meth3, make3, raise3, frz3, try3, wTry3, inSuite3, outOf3, xfld3, cb3, isx, bml3, isl, app3, gsub3, st3, dic3, prs3, dkeys, newl, finv, view3, lcg3, id, bag_c, bag_a, bag_r, bag_m, bag_n, bag_pa, bag_pr, bag_pm, bag_pn, bag_len, up_same, up_up, at3_0, at3_1, at3_2, toNat_2, Int.toNat_zero, Int.toNat_one, istru_bl, istru_int, istru_non, istru_tup, istru_lst, istru_kls, istru_str, add3_ii, add3_ss, add3_tt, sub3_ii, mul3_ii, fdv3_ii, mod3_ii, pow3_ii, neg3_i, eqn3_ii, eqn3_ss, eqn3_bb, eqn3_tup, eqn3_lst, eqn3_non, cmi3_ii, isn3_bb, isn3_nn, isn3_on, isn3_tn, isn3_in, isn3_sn, isn3_rn, isn3_ln, isn3_bn, ix3_lst, ix3_kls, ix3_tup, ix3_ri, ix3_rs, opt3_some, getf_obj, seqj_lst, seqj_kls, seqj_ref, tupj_tup, len3_lst, len3_kls, len3_tup, len3_str, len3_ref, int3_i, int3_b, abs3_i, str3_i, lisf3_lst, lisf3_kls, lisf3_tup, list3_lst, list3_kls, list3_tup, tuple3_lst, tuple3_kls, tuple3_tup, isi_2, typ_non, typ_bl, typ_int, typ_str, typ_tup, typ_lst, typ_kls, typ_obj, typok_ty, typok_ref, clsv_ty, clsv_ref, eqo3_obj, onlyb_bl, adl3_ll, all3_lst, List.set_cons_zero, List.set_cons_succ, List.getElem?_cons_zero, List.getElem?_cons_succ, List.map_cons, List.map_nil, List.length_cons, List.length_nil, if_true, if_false, reduceIte, reduceCtorEq, Option.map_some, Option.some.injEq, and_true, true_and, List.cons_append, List.nil_append, Nat.reduceAdd, Nat.reduceLeDiff, Nat.reduceEqDiff, exists_eq_left', exists_eq_left, exists_and_left, exists_eq_right, exists_and_right, exists_const, Bool.not_true, Bool.not_false, kt_NoneType_int, kt_NoneType_bool, kt_NoneType_str, kt_NoneType_tuple, kt_NoneType_list, kt_NoneType_dict, kt_bool_int, kt_bool_bool, kt_bool_str, kt_bool_tuple, kt_bool_list, kt_bool_dict, kt_int_int, kt_int_bool, kt_int_str, kt_int_tuple, kt_int_list, kt_int_dict, kt_str_int, kt_str_bool, kt_str_str, kt_str_tuple, kt_str_list, kt_str_dict, kt_tuple_int, kt_tuple_bool, kt_tuple_str, kt_tuple_tuple, kt_tuple_list, kt_tuple_dict, kt_list_int, kt_list_bool, kt_list_str, kt_list_tuple, kt_list_list, kt_list_dict, kt_dict_int, kt_dict_bool, kt_dict_str, kt_dict_tuple, kt_dict_list, kt_dict_dict, iter3]
    refine init_turn hp ?_
    cases bp with
    | false => exact ex_dn (σ := []) h
    | true =>
      simp only [if_true] at h ⊢
      refine init_turn hq ?_
      cases bq with
      | false => exact ex_dn (σ := []) h
      | true =>
        simp only [if_true] at h ⊢
        refine init_turn hr ?_
        cases br with
        | false => exact ex_dn (σ := []) h
        | true =>
          simp only [if_true] at h ⊢
          unfold rd_Pricesx_initx_3 rd_Pricesx_initx_4 rd_Pricesx_initx_5
          simp only [var3, con3, op3, un3, tst3, chain3, tru3, vno3, van3, vo3, not3, and3, or3, ite3, nil3, cons3, tup3, lst3, lsf3, nx3, seq3, brk3, cnt3, drop3, ret3, retn3, ifs3, set3, asg3, gn3, gnil3, gcons3, gtup3, for3, ilst3, itup3, irng1, irng2, call3, fld3, sfld3, meth3, make3, raise3, frz3, try3, wTry3, inSuite3, outOf3, xfld3, cb3, isx, bml3, isl, app3, gsub3, st3, dic3, prs3, dkeys, newl, finv, view3, lcg3, id, bag_c, bag_a, bag_r, bag_m, bag_n, bag_pa, bag_pr, bag_pm, bag_pn, bag_len, up_same, up_up, at3_0, at3_1, at3_2, toNat_2, Int.toNat_zero, Int.toNat_one, istru_bl, istru_int, istru_non, istru_tup, istru_lst, istru_kls, istru_str, add3_ii, add3_ss, add3_tt, sub3_ii, mul3_ii, fdv3_ii, mod3_ii, pow3_ii, neg3_i, eqn3_ii, eqn3_ss, eqn3_bb, eqn3_tup, eqn3_lst, eqn3_non, cmi3_ii, isn3_bb, isn3_nn, isn3_on, isn3_tn, isn3_in, isn3_sn, isn3_rn, isn3_ln, isn3_bn, ix3_lst, ix3_kls, ix3_tup, ix3_ri, ix3_rs, opt3_some, getf_obj, seqj_lst, seqj_kls, seqj_ref, tupj_tup, len3_lst, len3_kls, len3_tup, len3_str, len3_ref, int3_i, int3_b, abs3_i, str3_i, lisf3_lst, lisf3_kls, lisf3_tup, list3_lst, list3_kls, list3_tup, tuple3_lst, tuple3_kls, tuple3_tup, isi_2, typ_non, typ_bl, typ_int, typ_str, typ_tup, typ_lst, typ_kls, typ_obj, typok_ty, typok_ref, clsv_ty, clsv_ref, eqo3_obj, onlyb_bl, adl3_ll, all3_lst, List.set_cons_zero, List.set_cons_succ, List.getElem?_cons_zero, List.getElem?_cons_succ, List.map_cons, List.map_nil, List.length_cons, List.length_nil, if_true, if_false, reduceIte, reduceCtorEq, Option.map_some, Option.some.injEq, and_true, true_and, List.cons_append, List.nil_append, Nat.reduceAdd, Nat.reduceLeDiff, Nat.reduceEqDiff, exists_eq_left', exists_eq_left, exists_and_left, exists_eq_right, exists_and_right, exists_const, Bool.not_true, Bool.not_false, kt_NoneType_int, kt_NoneType_bool, kt_NoneType_str, kt_NoneType_tuple, kt_NoneType_list, kt_NoneType_dict, kt_bool_int, kt_bool_bool, kt_bool_str, kt_bool_tuple, kt_bool_list, kt_bool_dict, kt_int_int, kt_int_bool, kt_int_str, kt_int_tuple, kt_int_list, kt_int_dict, kt_str_int, kt_str_bool, kt_str_str, kt_str_tuple, kt_str_list, kt_str_dict, kt_tuple_int, kt_tuple_bool, kt_tuple_str, kt_tuple_tuple, kt_tuple_list, kt_tuple_dict, kt_list_int, kt_list_bool, kt_list_str, kt_list_tuple, kt_list_list, kt_list_dict, kt_dict_int, kt_dict_bool, kt_dict_str, kt_dict_tuple, kt_dict_list, kt_dict_dict, hG]
          exact ⟨List.mem_singleton.mpr rfl, by decide, List.mem_singleton.mpr rfl, by change 1 < 500; decide, List.mem_singleton.mpr rfl, by change 2 < 500; decide, h⟩

end K52

namespace K52
open PySem PySem.Spec PyProof.Rows L2 T3

/-- three prices, a value -/
def prD (a : Ad) (p q r : Int) : D := .obj a.c_Prices (prF (.int p) (.int q) (.int r))
def sp_Pricesx_eqx (K : PySem.W.Frag) (a : Ad) : Sp3 := fun ds G Q _ => ∃ (p q r : Int) (y : D), ds = [prD a p q r, y] ∧ match y with
  | .int _ => Q (.bl false) G
  | .tup _ => Q (.bl false) G
  | .str _ => Q (.bl false) G
  | y => ∃ p' q' r', y = prD a p' q' r' ∧ Q (.bl (decide (p = p' ∧ q = q' ∧ r = r'))) G

/- return False -/
def rd_Pricesx_eqx_0 (K : PySem.W.Frag) (a : Ad) (W : W3) : T3S := (ret3 (con3 (.bl false)))
/- return False -/
def rd_Pricesx_eqx_1 (K : PySem.W.Frag) (a : Ad) (W : W3) : T3S := (ret3 (con3 (.bl false)))
/- if not isinstance(other, Prices): -/
def rd_Pricesx_eqx_2 (K : PySem.W.Frag) (a : Ad) (W : W3) : T3S := (ifs3 (not3 (tru3 (cb3 (isi K) (cons3 (var3 1) (cons3 (con3 (.ref a.c_Prices)) nil3))))) (rd_Pricesx_eqx_0 K a W) nx3)
/- if self.restate != other.restate or self.reweigh != other.reweigh: -/
def rd_Pricesx_eqx_3 (K : PySem.W.Frag) (a : Ad) (W : W3) : T3S := (ifs3 (or3 (tst3 (op3 ne3 (fld3 [a.c_Prices] "restate" (var3 0)) (fld3 [a.c_Prices] "restate" (var3 1)))) (tst3 (op3 ne3 (fld3 [a.c_Prices] "reweigh" (var3 0)) (fld3 [a.c_Prices] "reweigh" (var3 1))))) (rd_Pricesx_eqx_1 K a W) nx3)
/- return self.exchange == other.exchange -/
def rd_Pricesx_eqx_4 (K : PySem.W.Frag) (a : Ad) (W : W3) : T3S := (ret3 (op3 eq3 (fld3 [a.c_Prices] "exchange" (var3 0)) (fld3 [a.c_Prices] "exchange" (var3 1))))
def rd_Pricesx_eqx (K : PySem.W.Frag) (a : Ad) (W : W3) : T3S := (seq3 (rd_Pricesx_eqx_2 K a W) (seq3 (rd_Pricesx_eqx_3 K a W) (rd_Pricesx_eqx_4 K a W)))
theorem dv_Pricesx_eqx {P : Program} {w : World} {K : PySem.W.Frag} {mg : Str → Option Value} {base : Heap} {a : Ad} {d : Fd} (T : Txt K mg a d) (wlp : ∀ ds G Q E, (sp_Pricesx_eqx K a) ds G Q E → ds.length = 2)
    (h : ∀ (ds : List D) (G : H3) (Q : K3) (E : X3), (sp_Pricesx_eqx K a) ds G Q E → rd_Pricesx_eqx K a (ex3 E) (ends3 Q) (start3 N_Pricesx_eqx ds) G) : Fk P w K mg base 1 a.f_Pricesx_eqx d.f_Pricesx_eqx ["self", "other"] (sp_Pricesx_eqx K a) :=
  fn3 T.F_Pricesx_eqx sc_Pricesx_eqx wlp fun cdv A outer s H E B E3 hr tk po => by
    have sc := sc_Pricesx_eqx
    have hu64 := hr.units
    have hu1 := hu_of hr
    refine ⟨rd_Pricesx_eqx K a (ex3 E3), ?_, fun ds G Q h' => h ds G Q E3 h'⟩
    exact (b_cons (s_if (p_not (p_tru (e_cb c_isi T.n_isinstance (by decide +kernel) (a_cons (e_var 1) (a_cons (e_ref (by rfl) T.g_Prices) a_nil))))) (b_one (s_ret e_bl)) b_nil) (b_cons (s_if (p_w (w_or (p_cmp (o_ne hu64) (e_fld (fun C hC => by rw [List.mem_singleton.mp hC]; exact ⟨T.cls_Prices, T.na_Prices_restate⟩) (e_var 0)) (e_fld (fun C hC => by rw [List.mem_singleton.mp hC]; exact ⟨T.cls_Prices, T.na_Prices_restate⟩) (e_var 1))) (w_or1 (p_cmp (o_ne hu64) (e_fld (fun C hC => by rw [List.mem_singleton.mp hC]; exact ⟨T.cls_Prices, T.na_Prices_reweigh⟩) (e_var 0)) (e_fld (fun C hC => by rw [List.mem_singleton.mp hC]; exact ⟨T.cls_Prices, T.na_Prices_reweigh⟩) (e_var 1)))))) (b_one (s_ret e_bl)) b_nil) (b_one (s_ret (e_cmp (o_eq hu64) (e_fld (fun C hC => by rw [List.mem_singleton.mp hC]; exact ⟨T.cls_Prices, T.na_Prices_exchange⟩) (e_var 0)) (e_fld (fun C hC => by rw [List.mem_singleton.mp hC]; exact ⟨T.cls_Prices, T.na_Prices_exchange⟩) (e_var 1)))))))

theorem ok_Pricesx_eqx {P : Program} {w : World} {K : PySem.W.Frag} {mg : Str → Option Value} {base : Heap} {a : Ad} {d : Fd} (T : Txt K mg a d) : Fk P w K mg base 1 a.f_Pricesx_eqx d.f_Pricesx_eqx ["self", "other"] (sp_Pricesx_eqx K a) :=
  dv_Pricesx_eqx T (by rintro _ _ _ _ ⟨_, _, _, _, rfl, _⟩; rfl) fun ds G Q E h => by
    obtain ⟨p, q, r, y, rfl, h⟩ := h
    show rd_Pricesx_eqx K a _ (ends3 Q) [some (prD a p q r), some y] G
    have other : (∃ t, typ y G = some t ∧ TypOk K t ∧ PySem.W.kitOne K t (.ref a.c_Prices) = some false) → Q (.bl false) G → rd_Pricesx_eqx K a (ex3 E) (ends3 Q) [some (prD a p q r), some y] G := fun ⟨t, e1, e2, e3⟩ q => by
      unfold rd_Pricesx_eqx rd_Pricesx_eqx_2
      simp only [var3, con3, op3, un3, tst3, chain3, tru3, vno3, van3, vo3, not3, and3, or3, ite3, nil3, cons3, tup3, lst3, lsf3, nx3, seq3, brk3, cnt3, drop3, ret3, retn3, ifs3, set3, asg3, gn3, gnil3, gcons3, gtup3, for3, ilst3, itup3, irng1, irng2, call3, fld3, sfld3, meth3, make3, raise3, frz3, try3, wTry3, inSuite3, outOf3, xfld3, cb3, isx, bml3, isl, app3, gsub3, st3, dic3, prs3, dkeys, newl, finv, view3, lcg3, id, bag_c, bag_a, bag_r, bag_m, bag_n, bag_pa, bag_pr, bag_pm, bag_pn, bag_len, up_same, up_up, at3_0, at3_1, at3_2, toNat_2, Int.toNat_zero, Int.toNat_one, istru_bl, istru_int, istru_non, istru_tup, istru_lst, istru_kls, istru_str, add3_ii, add3_ss, add3_tt, sub3_ii, mul3_ii, fdv3_ii, mod3_ii, pow3_ii, neg3_i, eqn3_ii, eqn3_ss, eqn3_bb, eqn3_tup, eqn3_lst, eqn3_non, cmi3_ii, isn3_bb, isn3_nn, isn3_on, isn3_tn, isn3_in, isn3_sn, isn3_rn, isn3_ln, isn3_bn, ix3_lst, ix3_kls, ix3_tup, ix3_ri, ix3_rs, opt3_some, getf_obj, seqj_lst, seqj_kls, seqj_ref, tupj_tup, len3_lst, len3_kls, len3_tup, len3_str, len3_ref, int3_i, int3_b, abs3_i, str3_i, lisf3_lst, lisf3_kls, lisf3_tup, list3_lst, list3_kls, list3_tup, tuple3_lst, tuple3_kls, tuple3_tup, isi_2, typ_non, typ_bl, typ_int, typ_str, typ_tup, typ_lst, typ_kls, typ_obj, typok_ty, typok_ref, clsv_ty, clsv_ref, eqo3_obj, onlyb_bl, adl3_ll, all3_lst, List.set_cons_zero, List.set_cons_succ, List.getElem?_cons_zero, List.getElem?_cons_succ, List.map_cons, List.map_nil, List.length_cons, List.length_nil, if_true, if_false, reduceIte, reduceCtorEq, Option.map_some, Option.some.injEq, and_true, true_and, List.cons_append, List.nil_append, Nat.reduceAdd, Nat.reduceLeDiff, Nat.reduceEqDiff, exists_eq_left', exists_eq_left, exists_and_left, exists_eq_right, exists_and_right, exists_const, Bool.not_true, Bool.not_false, kt_NoneType_int, kt_NoneType_bool, kt_NoneType_str, kt_NoneType_tuple, kt_NoneType_list, kt_NoneType_dict, kt_bool_int, kt_bool_bool, kt_bool_str, kt_bool_tuple, kt_bool_list, kt_bool_dict, kt_int_int, kt_int_bool, kt_int_str, kt_int_tuple, kt_int_list, kt_int_dict, kt_str_int, kt_str_bool, kt_str_str, kt_str_tuple, kt_str_list, kt_str_dict, kt_tuple_int, kt_tuple_bool, kt_tuple_str, kt_tuple_tuple, kt_tuple_list, kt_tuple_dict, kt_list_int, kt_list_bool, kt_list_str, kt_list_tuple, kt_list_list, kt_list_dict, kt_dict_int, kt_dict_bool, kt_dict_str, kt_dict_tuple, kt_dict_list, kt_dict_dict]
      refine ⟨t, e1, e2, false, e3, ?_⟩
      unfold rd_Pricesx_eqx_0
      simp only [var3, con3, op3, un3, tst3, chain3, tru3, vno3, van3, vo3, not3, and3, or3, ite3, nil3, cons3, tup3, lst3, lsf3, nx3, seq3, brk3, cnt3, drop3, ret3, retn3, ifs3, set3, asg3, gn3, gnil3, gcons3, gtup3, for3, ilst3, itup3, irng1, irng2, call3, fld3, sfld3, meth3, make3, raise3, frz3, try3, wTry3, inSuite3, outOf3, xfld3, cb3, isx, bml3, isl, app3, gsub3, st3, dic3, prs3, dkeys, newl, finv, view3, lcg3, id, bag_c, bag_a, bag_r, bag_m, bag_n, bag_pa, bag_pr, bag_pm, bag_pn, bag_len, up_same, up_up, at3_0, at3_1, at3_2, toNat_2, Int.toNat_zero, Int.toNat_one, istru_bl, istru_int, istru_non, istru_tup, istru_lst, istru_kls, istru_str, add3_ii, add3_ss, add3_tt, sub3_ii, mul3_ii, fdv3_ii, mod3_ii, pow3_ii, neg3_i, eqn3_ii, eqn3_ss, eqn3_bb, eqn3_tup, eqn3_lst, eqn3_non, cmi3_ii, isn3_bb, isn3_nn, isn3_on, isn3_tn, isn3_in, isn3_sn, isn3_rn, isn3_ln, isn3_bn, ix3_lst, ix3_kls, ix3_tup, ix3_ri, ix3_rs, opt3_some, getf_obj, seqj_lst, seqj_kls, seqj_ref, tupj_tup, len3_lst, len3_kls, len3_tup, len3_str, len3_ref, int3_i, int3_b, abs3_i, str3_i, lisf3_lst, lisf3_kls, lisf3_tup, list3_lst, list3_kls, list3_tup, tuple3_lst, tuple3_kls, tuple3_tup, isi_2, typ_non, typ_bl, typ_int, typ_str, typ_tup, typ_lst, typ_kls, typ_obj, typok_ty, typok_ref, clsv_ty, clsv_ref, eqo3_obj, onlyb_bl, adl3_ll, all3_lst, List.set_cons_zero, List.set_cons_succ, List.getElem?_cons_zero, List.getElem?_cons_succ, List.map_cons, List.map_nil, List.length_cons, List.length_nil, if_true, if_false, reduceIte, reduceCtorEq, Option.map_some, Option.some.injEq, and_true, true_and, List.cons_append, List.nil_append, Nat.reduceAdd, Nat.reduceLeDiff, Nat.reduceEqDiff, exists_eq_left', exists_eq_left, exists_and_left, exists_eq_right, exists_and_right, exists_const, Bool.not_true, Bool.not_false, kt_NoneType_int, kt_NoneType_bool, kt_NoneType_str, kt_NoneType_tuple, kt_NoneType_list, kt_NoneType_dict, kt_bool_int, kt_bool_bool, kt_bool_str, kt_bool_tuple, kt_bool_list, kt_bool_dict, kt_int_int, kt_int_bool, kt_int_str, kt_int_tuple, kt_int_list, kt_int_dict, kt_str_int, kt_str_bool, kt_str_str, kt_str_tuple, kt_str_list, kt_str_dict, kt_tuple_int, kt_tuple_bool, kt_tuple_str, kt_tuple_tuple, kt_tuple_list, kt_tuple_dict, kt_list_int, kt_list_bool, kt_list_str, kt_list_tuple, kt_list_list, kt_list_dict, kt_dict_int, kt_dict_bool, kt_dict_str, kt_dict_tuple, kt_dict_list, kt_dict_dict]
      exact rt_same q
    have same : (∃ p' q' r', y = prD a p' q' r' ∧ Q (.bl (decide (p = p' ∧ q = q' ∧ r = r'))) G) → rd_Pricesx_eqx K a (ex3 E) (ends3 Q) [some (prD a p q r), some y] G := fun ⟨p', q', r', e, hh⟩ => by
      clear h other
      subst e
      unfold rd_Pricesx_eqx rd_Pricesx_eqx_2 prD
      simp only [var3, con3, op3, un3, tst3, chain3, tru3, vno3, van3, vo3, not3, and3, or3, ite3, nil3, cons3, tup3, lst3, lsf3, nx3, seq3, brk3, cnt3, drop3, ret3, retn3, ifs3, set3, asg3, gn3, gnil3, gcons3, gtup3, for3, ilst3, itup3, irng1, irng2, call3, fld3, sfld3, meth3, make3, raise3, frz3, try3, wTry3, inSuite3, outOf3, xfld3, cb3, isx, bml3, isl, app3, gsub3, st3, dic3, prs3, dkeys, newl, finv, view3, lcg3, id, bag_c, bag_a, bag_r, bag_m, bag_n, bag_pa, bag_pr, bag_pm, bag_pn, bag_len, up_same, up_up, at3_0, at3_1, at3_2, toNat_2, Int.toNat_zero, Int.toNat_one, istru_bl, istru_int, istru_non, istru_tup, istru_lst, istru_kls, istru_str, add3_ii, add3_ss, add3_tt, sub3_ii, mul3_ii, fdv3_ii, mod3_ii, pow3_ii, neg3_i, eqn3_ii, eqn3_ss, eqn3_bb, eqn3_tup, eqn3_lst, eqn3_non, cmi3_ii, isn3_bb, isn3_nn, isn3_on, isn3_tn, isn3_in, isn3_sn, isn3_rn, isn3_ln, isn3_bn, ix3_lst, ix3_kls, ix3_tup, ix3_ri, ix3_rs, opt3_some, getf_obj, seqj_lst, seqj_kls, seqj_ref, tupj_tup, len3_lst, len3_kls, len3_tup, len3_str, len3_ref, int3_i, int3_b, abs3_i, str3_i, lisf3_lst, lisf3_kls, lisf3_tup, list3_lst, list3_kls, list3_tup, tuple3_lst, tuple3_kls, tuple3_tup, isi_2, typ_non, typ_bl, typ_int, typ_str, typ_tup, typ_lst, typ_kls, typ_obj, typok_ty, typok_ref, clsv_ty, clsv_ref, eqo3_obj, onlyb_bl, adl3_ll, all3_lst, List.set_cons_zero, List.set_cons_succ, List.getElem?_cons_zero, List.getElem?_cons_succ, List.map_cons, List.map_nil, List.length_cons, List.length_nil, if_true, if_false, reduceIte, reduceCtorEq, Option.map_some, Option.some.injEq, and_true, true_and, List.cons_append, List.nil_append, Nat.reduceAdd, Nat.reduceLeDiff, Nat.reduceEqDiff, exists_eq_left', exists_eq_left, exists_and_left, exists_eq_right, exists_and_right, exists_const, Bool.not_true, Bool.not_false, kt_NoneType_int, kt_NoneType_bool, kt_NoneType_str, kt_NoneType_tuple, kt_NoneType_list, kt_NoneType_dict, kt_bool_int, kt_bool_bool, kt_bool_str, kt_bool_tuple, kt_bool_list, kt_bool_dict, kt_int_int, kt_int_bool, kt_int_str, kt_int_tuple, kt_int_list, kt_int_dict, kt_str_int, kt_str_bool, kt_str_str, kt_str_tuple, kt_str_list, kt_str_dict, kt_tuple_int, kt_tuple_bool, kt_tuple_str, kt_tuple_tuple, kt_tuple_list, kt_tuple_dict, kt_list_int, kt_list_bool, kt_list_str, kt_list_tuple, kt_list_list, kt_list_dict, kt_dict_int, kt_dict_bool, kt_dict_str, kt_dict_tuple, kt_dict_list, kt_dict_dict]
      refine ⟨T.ins_Prices, true, T.kit_Prices_Prices, ?_⟩
      unfold rd_Pricesx_eqx_3
      simp only [var3, con3, op3, un3, tst3, chain3, tru3, vno3, van3, vo3, not3, and3, or3, ite3, nil3, cons3, tup3, lst3, lsf3, nx3, seq3, brk3, cnt3, drop3, ret3, retn3, ifs3, set3, asg3, gn3, gnil3, gcons3, gtup3, for3, ilst3, itup3, irng1, irng2, call3, fld3, sfld3, meth3, make3, raise3, frz3, try3, wTry3, inSuite3, outOf3, xfld3, cb3, isx, bml3, isl, app3, gsub3, st3, dic3, prs3, dkeys, newl, finv, view3, lcg3, id, bag_c, bag_a, bag_r, bag_m, bag_n, bag_pa, bag_pr, bag_pm, bag_pn, bag_len, up_same, up_up, at3_0, at3_1, at3_2, toNat_2, Int.toNat_zero, Int.toNat_one, istru_bl, istru_int, istru_non, istru_tup, istru_lst, istru_kls, istru_str, add3_ii, add3_ss, add3_tt, sub3_ii, mul3_ii, fdv3_ii, mod3_ii, pow3_ii, neg3_i, eqn3_ii, eqn3_ss, eqn3_bb, eqn3_tup, eqn3_lst, eqn3_non, cmi3_ii, isn3_bb, isn3_nn, isn3_on, isn3_tn, isn3_in, isn3_sn, isn3_rn, isn3_ln, isn3_bn, ix3_lst, ix3_kls, ix3_tup, ix3_ri, ix3_rs, opt3_some, getf_obj, seqj_lst, seqj_kls, seqj_ref, tupj_tup, len3_lst, len3_kls, len3_tup, len3_str, len3_ref, int3_i, int3_b, abs3_i, str3_i, lisf3_lst, lisf3_kls, lisf3_tup, list3_lst, list3_kls, list3_tup, tuple3_lst, tuple3_kls, tuple3_tup, isi_2, typ_non, typ_bl, typ_int, typ_str, typ_tup, typ_lst, typ_kls, typ_obj, typok_ty, typok_ref, clsv_ty, clsv_ref, eqo3_obj, onlyb_bl, adl3_ll, all3_lst, List.set_cons_zero, List.set_cons_succ, List.getElem?_cons_zero, List.getElem?_cons_succ, List.map_cons, List.map_nil, List.length_cons, List.length_nil, if_true, if_false, reduceIte, reduceCtorEq, Option.map_some, Option.some.injEq, and_true, true_and, List.cons_append, List.nil_append, Nat.reduceAdd, Nat.reduceLeDiff, Nat.reduceEqDiff, exists_eq_left', exists_eq_left, exists_and_left, exists_eq_right, exists_and_right, exists_const, Bool.not_true, Bool.not_false, kt_NoneType_int, kt_NoneType_bool, kt_NoneType_str, kt_NoneType_tuple, kt_NoneType_list, kt_NoneType_dict, kt_bool_int, kt_bool_bool, kt_bool_str, kt_bool_tuple, kt_bool_list, kt_bool_dict, kt_int_int, kt_int_bool, kt_int_str, kt_int_tuple, kt_int_list, kt_int_dict, kt_str_int, kt_str_bool, kt_str_str, kt_str_tuple, kt_str_list, kt_str_dict, kt_tuple_int, kt_tuple_bool, kt_tuple_str, kt_tuple_tuple, kt_tuple_list, kt_tuple_dict, kt_list_int, kt_list_bool, kt_list_str, kt_list_tuple, kt_list_list, kt_list_dict, kt_dict_int, kt_dict_bool, kt_dict_str, kt_dict_tuple, kt_dict_list, kt_dict_dict, prF_p, prF_q, prF_r, List.mem_singleton]
      unfold rd_Pricesx_eqx_1 rd_Pricesx_eqx_4
      simp only [var3, con3, op3, un3, tst3, chain3, tru3, vno3, van3, vo3, not3, and3, or3, ite3, nil3, cons3, tup3, lst3, lsf3, nx3, seq3, brk3, cnt3, drop3, ret3, retn3, ifs3, set3, asg3, gn3, gnil3, gcons3, gtup3, for3, ilst3, itup3, irng1, irng2, call3, fld3, sfld3, meth3, make3, raise3, frz3, try3, wTry3, inSuite3, outOf3, xfld3, cb3, isx, bml3, isl, app3, gsub3, st3, dic3, prs3, dkeys, newl, finv, view3, lcg3, id, bag_c, bag_a, bag_r, bag_m, bag_n, bag_pa, bag_pr, bag_pm, bag_pn, bag_len, up_same, up_up, at3_0, at3_1, at3_2, toNat_2, Int.toNat_zero, Int.toNat_one, istru_bl, istru_int, istru_non, istru_tup, istru_lst, istru_kls, istru_str, add3_ii, add3_ss, add3_tt, sub3_ii, mul3_ii, fdv3_ii, mod3_ii, pow3_ii, neg3_i, eqn3_ii, eqn3_ss, eqn3_bb, eqn3_tup, eqn3_lst, eqn3_non, cmi3_ii, isn3_bb, isn3_nn, isn3_on, isn3_tn, isn3_in, isn3_sn, isn3_rn, isn3_ln, isn3_bn, ix3_lst, ix3_kls, ix3_tup, ix3_ri, ix3_rs, opt3_some, getf_obj, seqj_lst, seqj_kls, seqj_ref, tupj_tup, len3_lst, len3_kls, len3_tup, len3_str, len3_ref, int3_i, int3_b, abs3_i, str3_i, lisf3_lst, lisf3_kls, lisf3_tup, list3_lst, list3_kls, list3_tup, tuple3_lst, tuple3_kls, tuple3_tup, isi_2, typ_non, typ_bl, typ_int, typ_str, typ_tup, typ_lst, typ_kls, typ_obj, typok_ty, typok_ref, clsv_ty, clsv_ref, eqo3_obj, onlyb_bl, adl3_ll, all3_lst, List.set_cons_zero, List.set_cons_succ, List.getElem?_cons_zero, List.getElem?_cons_succ, List.map_cons, List.map_nil, List.length_cons, List.length_nil, if_true, if_false, reduceIte, reduceCtorEq, Option.map_some, Option.some.injEq, and_true, true_and, List.cons_append, List.nil_append, Nat.reduceAdd, Nat.reduceLeDiff, Nat.reduceEqDiff, exists_eq_left', exists_eq_left, exists_and_left, exists_eq_right, exists_and_right, exists_const, Bool.not_true, Bool.not_false, kt_NoneType_int, kt_NoneType_bool, kt_NoneType_str, kt_NoneType_tuple, kt_NoneType_list, kt_NoneType_dict, kt_bool_int, kt_bool_bool, kt_bool_str, kt_bool_tuple, kt_bool_list, kt_bool_dict, kt_int_int, kt_int_bool, kt_int_str, kt_int_tuple, kt_int_list, kt_int_dict, kt_str_int, kt_str_bool, kt_str_str, kt_str_tuple, kt_str_list, kt_str_dict, kt_tuple_int, kt_tuple_bool, kt_tuple_str, kt_tuple_tuple, kt_tuple_list, kt_tuple_dict, kt_list_int, kt_list_bool, kt_list_str, kt_list_tuple, kt_list_list, kt_list_dict, kt_dict_int, kt_dict_bool, kt_dict_str, kt_dict_tuple, kt_dict_list, kt_dict_dict, prF_r, List.mem_singleton]
      by_cases c1 : p = p' <;> by_cases c2 : q = q' <;> by_cases c3 : r = r' <;> simp only [c1, c2, c3, decide_true, decide_false, Bool.not_true, Bool.not_false, Bool.false_eq_true, if_true, if_false, and_self, and_true, true_and, and_false, false_and] at hh ⊢ <;> exact rt_same hh
    cases y with
    | int i => exact other ⟨_, rfl, trivial, T.kit_int_Prices⟩ h
    | str i => exact other ⟨_, rfl, trivial, T.kit_str_Prices⟩ h
    | tup i => exact other ⟨_, rfl, trivial, T.kit_tuple_Prices⟩ h
    | _ => exact same h

end K52

namespace K52
open PySem PySem.Spec PyProof.Rows L2 T3

def sp_Prices_total (K : PySem.W.Frag) (a : Ad) : Sp3 := fun ds G Q _ => ∃ p q r x y z : Int, ds = [prD a p q r, .int x, .int y, .int z] ∧ ((-(2 ^ 64) < p ∧ p < 2 ^ 64) ∧ (-(2 ^ 64) < q ∧ q < 2 ^ 64) ∧ (-(2 ^ 64) < r ∧ r < 2 ^ 64)) ∧ Q (.int (x * p + y * q + z * r)) G

/- return many_restate * self.restate + many_reweigh * self.reweigh + many_exchange * self.exchange -/
def rd_Prices_total_0 (K : PySem.W.Frag) (a : Ad) (W : W3) : T3S := (ret3 (op3 add3 (op3 add3 (op3 mul3 (var3 1) (fld3 [a.c_Prices] "restate" (var3 0))) (op3 mul3 (var3 2) (fld3 [a.c_Prices] "reweigh" (var3 0)))) (op3 mul3 (var3 3) (fld3 [a.c_Prices] "exchange" (var3 0)))))
def rd_Prices_total (K : PySem.W.Frag) (a : Ad) (W : W3) : T3S := (rd_Prices_total_0 K a W)
theorem dv_Prices_total {P : Program} {w : World} {K : PySem.W.Frag} {mg : Str → Option Value} {base : Heap} {a : Ad} {d : Fd} (T : Txt K mg a d) (wlp : ∀ ds G Q E, (sp_Prices_total K a) ds G Q E → ds.length = 4)
    (h : ∀ (ds : List D) (G : H3) (Q : K3) (E : X3), (sp_Prices_total K a) ds G Q E → rd_Prices_total K a (ex3 E) (ends3 Q) (start3 N_Prices_total ds) G) : Fk P w K mg base 1 a.f_Prices_total d.f_Prices_total ["self", "many_restate", "many_reweigh", "many_exchange"] (sp_Prices_total K a) :=
  fn3 T.F_Prices_total sc_Prices_total wlp fun cdv A outer s H E B E3 hr tk po => by
    have sc := sc_Prices_total
    have hu64 := hr.units
    have hu1 := hu_of hr
    refine ⟨rd_Prices_total K a (ex3 E3), ?_, fun ds G Q h' => h ds G Q E3 h'⟩
    exact (b_one (s_ret (e_op o_add (e_op o_add (e_op o_mul (e_var 1) (e_fld (fun C hC => by rw [List.mem_singleton.mp hC]; exact ⟨T.cls_Prices, T.na_Prices_restate⟩) (e_var 0))) (e_op o_mul (e_var 2) (e_fld (fun C hC => by rw [List.mem_singleton.mp hC]; exact ⟨T.cls_Prices, T.na_Prices_reweigh⟩) (e_var 0)))) (e_op o_mul (e_var 3) (e_fld (fun C hC => by rw [List.mem_singleton.mp hC]; exact ⟨T.cls_Prices, T.na_Prices_exchange⟩) (e_var 0))))))

theorem ok_Prices_total {P : Program} {w : World} {K : PySem.W.Frag} {mg : Str → Option Value} {base : Heap} {a : Ad} {d : Fd} (T : Txt K mg a d) : Fk P w K mg base 1 a.f_Prices_total d.f_Prices_total ["self", "many_restate", "many_reweigh", "many_exchange"] (sp_Prices_total K a) :=
  dv_Prices_total T (by rintro _ _ _ _ ⟨_, _, _, _, _, _, rfl, _⟩; rfl) fun ds G Q E h => by
    obtain ⟨p, q, r, x, y, z, rfl, hb, h⟩ := h
    show rd_Prices_total K a _ (ends3 Q) [some (prD a p q r), some (.int x), some (.int y), some (.int z)] G
    unfold rd_Prices_total rd_Prices_total_0 prD
    simp only [var3, con3, op3, un3, tst3, chain3, tru3, vno3, van3, vo3, not3, and3, or3, ite3, nil3, cons3, tup3, lst3, lsf3, nx3, seq3, brk3, cnt3, drop3, ret3, retn3, ifs3, set3, asg3, gn3, gnil3, gcons3, gtup3, for3, ilst3, itup3, irng1, irng2, call3, fld3, sfld3, meth3, make3, raise3, frz3, try3, wTry3, inSuite3, outOf3, xfld3, cb3, isx, bml3, isl, app3, gsub3, st3, dic3, prs3, dkeys, newl, finv, view3, lcg3, id, bag_c, bag_a, bag_r, bag_m, bag_n, bag_pa, bag_pr, bag_pm, bag_pn, bag_len, up_same, up_up, at3_0, at3_1, at3_2, toNat_2, Int.toNat_zero, Int.toNat_one, istru_bl, istru_int, istru_non, istru_tup, istru_lst, istru_kls, istru_str, add3_ii, add3_ss, add3_tt, sub3_ii, mul3_ii, fdv3_ii, mod3_ii, pow3_ii, neg3_i, eqn3_ii, eqn3_ss, eqn3_bb, eqn3_tup, eqn3_lst, eqn3_non, cmi3_ii, isn3_bb, isn3_nn, isn3_on, isn3_tn, isn3_in, isn3_sn, isn3_rn, isn3_ln, isn3_bn, ix3_lst, ix3_kls, ix3_tup, ix3_ri, ix3_rs, opt3_some, getf_obj, seqj_lst, seqj_kls, seqj_ref, tupj_tup, len3_lst, len3_kls, len3_tup, len3_str, len3_ref, int3_i, int3_b, abs3_i, str3_i, lisf3_lst, lisf3_kls, lisf3_tup, list3_lst, list3_kls, list3_tup, tuple3_lst, tuple3_kls, tuple3_tup, isi_2, typ_non, typ_bl, typ_int, typ_str, typ_tup, typ_lst, typ_kls, typ_obj, typok_ty, typok_ref, clsv_ty, clsv_ref, eqo3_obj, onlyb_bl, adl3_ll, all3_lst, List.set_cons_zero, List.set_cons_succ, List.getElem?_cons_zero, List.getElem?_cons_succ, List.map_cons, List.map_nil, List.length_cons, List.length_nil, if_true, if_false, reduceIte, reduceCtorEq, Option.map_some, Option.some.injEq, and_true, true_and, List.cons_append, List.nil_append, Nat.reduceAdd, Nat.reduceLeDiff, Nat.reduceEqDiff, exists_eq_left', exists_eq_left, exists_and_left, exists_eq_right, exists_and_right, exists_const, Bool.not_true, Bool.not_false, kt_NoneType_int, kt_NoneType_bool, kt_NoneType_str, kt_NoneType_tuple, kt_NoneType_list, kt_NoneType_dict, kt_bool_int, kt_bool_bool, kt_bool_str, kt_bool_tuple, kt_bool_list, kt_bool_dict, kt_int_int, kt_int_bool, kt_int_str, kt_int_tuple, kt_int_list, kt_int_dict, kt_str_int, kt_str_bool, kt_str_str, kt_str_tuple, kt_str_list, kt_str_dict, kt_tuple_int, kt_tuple_bool, kt_tuple_str, kt_tuple_tuple, kt_tuple_list, kt_tuple_dict, kt_list_int, kt_list_bool, kt_list_str, kt_list_tuple, kt_list_list, kt_list_dict, kt_dict_int, kt_dict_bool, kt_dict_str, kt_dict_tuple, kt_dict_list, kt_dict_dict, prF_p, prF_q, prF_r, List.mem_singleton]
    exact ⟨mulok_r hb.1, mulok_r hb.2.1, mulok_r hb.2.2, rt_same h⟩

end K52

namespace K52
open PySem PySem.Spec PyProof.Rows L2 T3

abbrev sp_bag (K : PySem.W.Frag) (a : Ad) : Sp3 := spBag

/- _law_mixed = int(_law_mixed * 31 + _law_cell + 3) % 1000003 -/
def rd_bag_0 (K : PySem.W.Frag) (a : Ad) (W : W3) : T3S := (set3 1 (op3 mod3 (cb3 int3 (cons3 (op3 add3 (op3 add3 (op3 mul3 (var3 1) (con3 (.int 31))) (var3 2)) (con3 (.int 3))) nil3)) (con3 (.int 1000003))))
/- _law_mixed = 7 -/
def rd_bag_1 (K : PySem.W.Frag) (a : Ad) (W : W3) : T3S := (set3 1 (con3 (.int 7)))
/- for _law_cell in _law_script: -/
def rd_bag_2 (K : PySem.W.Frag) (a : Ad) (W : W3) : T3S := (for3 (ilst3 (var3 0)) (gn3 2) (rd_bag_0 K a W))
/- return {'cells': [_law_cell for _law_cell in _law_script], 'at': 0, 'rest': 0, 'mixed': _law_mixed,  -/
def rd_bag_3 (K : PySem.W.Frag) (a : Ad) (W : W3) : T3S := (ret3 (dic3 [((con3 (.str "cells")), (lcf3 (ilst3 (var3 0)) (svn 2) yes3 (var3 2) [2])), ((con3 (.str "at")), (con3 (.int 0))), ((con3 (.str "rest")), (con3 (.int 0))), ((con3 (.str "mixed")), (var3 1)), ((con3 (.str "count")), (con3 (.int 0)))]))
def rd_bag (K : PySem.W.Frag) (a : Ad) (W : W3) : T3S := (seq3 (rd_bag_1 K a W) (seq3 (rd_bag_2 K a W) (rd_bag_3 K a W)))
theorem dv_bag {P : Program} {w : World} {K : PySem.W.Frag} {mg : Str → Option Value} {base : Heap} {a : Ad} {d : Fd} (T : Txt K mg a d) (wlp : ∀ ds G Q E, (sp_bag K a) ds G Q E → ds.length = 1)
    (h : ∀ (ds : List D) (G : H3) (Q : K3) (E : X3), (sp_bag K a) ds G Q E → rd_bag K a (ex3 E) (ends3 Q) (start3 N_bag ds) G) : Fk P w K mg base 1 a.f_bag d.f_bag ["_law_script"] (sp_bag K a) :=
  fn3 T.F_bag sc_bag wlp fun cdv A outer s H E B E3 hr tk po => by
    have sc := sc_bag
    have hu64 := hr.units
    have hu1 := hu_of hr
    refine ⟨rd_bag K a (ex3 E3), ?_, fun ds G Q h' => h ds G Q E3 h'⟩
    exact (b_cons (s_set 1 sc.nd e_int) (b_cons (s_for po rfl (i_list (e_var 0)) (g_name 2 sc.nd) (b_one (s_set 1 sc.nd (e_op o_mod (e_ct c_int T.n_int (by decide +kernel) (a_cons (e_op o_add (e_op o_add (e_op o_mul (e_var 1) e_int) (e_var 2)) e_int) a_nil)) e_int)))) (b_one (s_ret (e_dic (PD3.cons (fun _ => e_str) (fun _ => (e_lcf (own := [("_law_cell", 2)]) (ct_name (by decide)) rfl sc.nd (i_list (e_var 0)) (blkOk_by (N := N_bag) (sc := defScope s_bag) (by decide +kernel)) (fun _ _ _ _ _ => pg_name (i := 2) sc.nd rfl (.inl rfl)) (fun _ _ _ _ _ => Ifs3.nil) (fun _ _ _ _ _ => fun _ => (e_var 2)))) (PD3.cons (fun _ => e_str) (fun _ => e_int) (PD3.cons (fun _ => e_str) (fun _ => e_int) (PD3.cons (fun _ => e_str) (fun _ => (e_var 1)) (PD3.cons (fun _ => e_str) (fun _ => e_int) PD3.nil))))))))))

theorem ok_bag {P : Program} {w : World} {K : PySem.W.Frag} {mg : Str → Option Value} {base : Heap} {a : Ad} {d : Fd} (T : Txt K mg a d) : Fk P w K mg base 1 a.f_bag d.f_bag ["_law_script"] (sp_bag K a) :=
  dv_bag T (by rintro _ _ _ _ ⟨b, rfl, _⟩; rfl) fun ds G Q E h => by
    obtain ⟨cs, rfl, hl, hq⟩ := h
    show rd_bag K a _ (ends3 Q) [some (.kls (cs.map .int)), none, none] G
    unfold rd_bag rd_bag_1 rd_bag_2
    simp only [var3, con3, op3, un3, tst3, chain3, tru3, vno3, van3, vo3, not3, and3, or3, ite3, nil3, cons3, tup3, lst3, lsf3, nx3, seq3, brk3, cnt3, drop3, ret3, retn3, ifs3, set3, asg3, gn3, gnil3, gcons3, gtup3, for3, ilst3, itup3, irng1, irng2, call3, fld3, sfld3, meth3, make3, raise3, frz3, try3, wTry3, inSuite3, outOf3, xfld3, cb3, isx, bml3, isl, app3, gsub3, st3, dic3, prs3, dkeys, newl, finv, view3, lcg3, id, bag_c, bag_a, bag_r, bag_m, bag_n, bag_pa, bag_pr, bag_pm, bag_pn, bag_len, up_same, up_up, at3_0, at3_1, at3_2, toNat_2, Int.toNat_zero, Int.toNat_one, istru_bl, istru_int, istru_non, istru_tup, istru_lst, istru_kls, istru_str, add3_ii, add3_ss, add3_tt, sub3_ii, mul3_ii, fdv3_ii, mod3_ii, pow3_ii, neg3_i, eqn3_ii, eqn3_ss, eqn3_bb, eqn3_tup, eqn3_lst, eqn3_non, cmi3_ii, isn3_bb, isn3_nn, isn3_on, isn3_tn, isn3_in, isn3_sn, isn3_rn, isn3_ln, isn3_bn, ix3_lst, ix3_kls, ix3_tup, ix3_ri, ix3_rs, opt3_some, getf_obj, seqj_lst, seqj_kls, seqj_ref, tupj_tup, len3_lst, len3_kls, len3_tup, len3_str, len3_ref, int3_i, int3_b, abs3_i, str3_i, lisf3_lst, lisf3_kls, lisf3_tup, list3_lst, list3_kls, list3_tup, tuple3_lst, tuple3_kls, tuple3_tup, isi_2, typ_non, typ_bl, typ_int, typ_str, typ_tup, typ_lst, typ_kls, typ_obj, typok_ty, typok_ref, clsv_ty, clsv_ref, eqo3_obj, onlyb_bl, adl3_ll, all3_lst, List.set_cons_zero, List.set_cons_succ, List.getElem?_cons_zero, List.getElem?_cons_succ, List.map_cons, List.map_nil, List.length_cons, List.length_nil, if_true, if_false, reduceIte, reduceCtorEq, Option.map_some, Option.some.injEq, and_true, true_and, List.cons_append, List.nil_append, Nat.reduceAdd, Nat.reduceLeDiff, Nat.reduceEqDiff, exists_eq_left', exists_eq_left, exists_and_left, exists_eq_right, exists_and_right, exists_const, Bool.not_true, Bool.not_false, kt_NoneType_int, kt_NoneType_bool, kt_NoneType_str, kt_NoneType_tuple, kt_NoneType_list, kt_NoneType_dict, kt_bool_int, kt_bool_bool, kt_bool_str, kt_bool_tuple, kt_bool_list, kt_bool_dict, kt_int_int, kt_int_bool, kt_int_str, kt_int_tuple, kt_int_list, kt_int_dict, kt_str_int, kt_str_bool, kt_str_str, kt_str_tuple, kt_str_list, kt_str_dict, kt_tuple_int, kt_tuple_bool, kt_tuple_str, kt_tuple_tuple, kt_tuple_list, kt_tuple_dict, kt_list_int, kt_list_bool, kt_list_str, kt_list_tuple, kt_list_list, kt_list_dict, kt_dict_int, kt_dict_bool, kt_dict_str, kt_dict_tuple, kt_dict_list, kt_dict_dict]
    refine iter_inv (xs := cs.map .int) (Inv := fun _ σ G' => G' = G ∧ ∃ m y, σ = [some (.kls (cs.map .int)), some (.int m), y]) (ds := []) (fun _ _ _ _ => trivial) rfl ?_ ⟨rfl, 7, none, rfl⟩ ?_
    · rintro ds x rest σ G' ex ⟨rfl, m, y, rfl⟩ N' hn _ _ _
      have hx : x ∈ cs.map D.int := by rw [← ex]; simp
      obtain ⟨k, hk, rfl⟩ := List.mem_map.mp hx
      unfold rd_bag_0
      simp only [var3, con3, op3, un3, tst3, chain3, tru3, vno3, van3, vo3, not3, and3, or3, ite3, nil3, cons3, tup3, lst3, lsf3, nx3, seq3, brk3, cnt3, drop3, ret3, retn3, ifs3, set3, asg3, gn3, gnil3, gcons3, gtup3, for3, ilst3, itup3, irng1, irng2, call3, fld3, sfld3, meth3, make3, raise3, frz3, try3, wTry3, inSuite3, outOf3, xfld3, cb3, isx, bml3, isl, app3, gsub3, st3, dic3, prs3, dkeys, newl, finv, view3, lcg3, id, bag_c, bag_a, bag_r, bag_m, bag_n, bag_pa, bag_pr, bag_pm, bag_pn, bag_len, up_same, up_up, at3_0, at3_1, at3_2, toNat_2, Int.toNat_zero, Int.toNat_one, istru_bl, istru_int, istru_non, istru_tup, istru_lst, istru_kls, istru_str, add3_ii, add3_ss, add3_tt, sub3_ii, mul3_ii, fdv3_ii, mod3_ii, pow3_ii, neg3_i, eqn3_ii, eqn3_ss, eqn3_bb, eqn3_tup, eqn3_lst, eqn3_non, cmi3_ii, isn3_bb, isn3_nn, isn3_on, isn3_tn, isn3_in, isn3_sn, isn3_rn, isn3_ln, isn3_bn, ix3_lst, ix3_kls, ix3_tup, ix3_ri, ix3_rs, opt3_some, getf_obj, seqj_lst, seqj_kls, seqj_ref, tupj_tup, len3_lst, len3_kls, len3_tup, len3_str, len3_ref, int3_i, int3_b, abs3_i, str3_i, lisf3_lst, lisf3_kls, lisf3_tup, list3_lst, list3_kls, list3_tup, tuple3_lst, tuple3_kls, tuple3_tup, isi_2, typ_non, typ_bl, typ_int, typ_str, typ_tup, typ_lst, typ_kls, typ_obj, typok_ty, typok_ref, clsv_ty, clsv_ref, eqo3_obj, onlyb_bl, adl3_ll, all3_lst, List.set_cons_zero, List.set_cons_succ, List.getElem?_cons_zero, List.getElem?_cons_succ, List.map_cons, List.map_nil, List.length_cons, List.length_nil, if_true, if_false, reduceIte, reduceCtorEq, Option.map_some, Option.some.injEq, and_true, true_and, List.cons_append, List.nil_append, Nat.reduceAdd, Nat.reduceLeDiff, Nat.reduceEqDiff, exists_eq_left', exists_eq_left, exists_and_left, exists_eq_right, exists_and_right, exists_const, Bool.not_true, Bool.not_false, kt_NoneType_int, kt_NoneType_bool, kt_NoneType_str, kt_NoneType_tuple, kt_NoneType_list, kt_NoneType_dict, kt_bool_int, kt_bool_bool, kt_bool_str, kt_bool_tuple, kt_bool_list, kt_bool_dict, kt_int_int, kt_int_bool, kt_int_str, kt_int_tuple, kt_int_list, kt_int_dict, kt_str_int, kt_str_bool, kt_str_str, kt_str_tuple, kt_str_list, kt_str_dict, kt_tuple_int, kt_tuple_bool, kt_tuple_str, kt_tuple_tuple, kt_tuple_list, kt_tuple_dict, kt_list_int, kt_list_bool, kt_list_str, kt_list_tuple, kt_list_list, kt_list_dict, kt_dict_int, kt_dict_bool, kt_dict_str, kt_dict_tuple, kt_dict_list, kt_dict_dict]
      exact ⟨mulok_r (by decide), by decide, hn _ _ ⟨rfl, _, _, rfl⟩⟩
    · rintro σ G' ⟨rfl, m, y, rfl⟩
      unfold rd_bag_3
      simp only [var3, con3, op3, un3, tst3, chain3, tru3, vno3, van3, vo3, not3, and3, or3, ite3, nil3, cons3, tup3, lst3, lsf3, nx3, seq3, brk3, cnt3, drop3, ret3, retn3, ifs3, set3, asg3, gn3, gnil3, gcons3, gtup3, for3, ilst3, itup3, irng1, irng2, call3, fld3, sfld3, meth3, make3, raise3, frz3, try3, wTry3, inSuite3, outOf3, xfld3, cb3, isx, bml3, isl, app3, gsub3, st3, dic3, prs3, dkeys, newl, finv, view3, lcg3, id, bag_c, bag_a, bag_r, bag_m, bag_n, bag_pa, bag_pr, bag_pm, bag_pn, bag_len, up_same, up_up, at3_0, at3_1, at3_2, toNat_2, Int.toNat_zero, Int.toNat_one, istru_bl, istru_int, istru_non, istru_tup, istru_lst, istru_kls, istru_str, add3_ii, add3_ss, add3_tt, sub3_ii, mul3_ii, fdv3_ii, mod3_ii, pow3_ii, neg3_i, eqn3_ii, eqn3_ss, eqn3_bb, eqn3_tup, eqn3_lst, eqn3_non, cmi3_ii, isn3_bb, isn3_nn, isn3_on, isn3_tn, isn3_in, isn3_sn, isn3_rn, isn3_ln, isn3_bn, ix3_lst, ix3_kls, ix3_tup, ix3_ri, ix3_rs, opt3_some, getf_obj, seqj_lst, seqj_kls, seqj_ref, tupj_tup, len3_lst, len3_kls, len3_tup, len3_str, len3_ref, int3_i, int3_b, abs3_i, str3_i, lisf3_lst, lisf3_kls, lisf3_tup, list3_lst, list3_kls, list3_tup, tuple3_lst, tuple3_kls, tuple3_tup, isi_2, typ_non, typ_bl, typ_int, typ_str, typ_tup, typ_lst, typ_kls, typ_obj, typok_ty, typok_ref, clsv_ty, clsv_ref, eqo3_obj, onlyb_bl, adl3_ll, all3_lst, List.set_cons_zero, List.set_cons_succ, List.getElem?_cons_zero, List.getElem?_cons_succ, List.map_cons, List.map_nil, List.length_cons, List.length_nil, if_true, if_false, reduceIte, reduceCtorEq, Option.map_some, Option.some.injEq, and_true, true_and, List.cons_append, List.nil_append, Nat.reduceAdd, Nat.reduceLeDiff, Nat.reduceEqDiff, exists_eq_left', exists_eq_left, exists_and_left, exists_eq_right, exists_and_right, exists_const, Bool.not_true, Bool.not_false, kt_NoneType_int, kt_NoneType_bool, kt_NoneType_str, kt_NoneType_tuple, kt_NoneType_list, kt_NoneType_dict, kt_bool_int, kt_bool_bool, kt_bool_str, kt_bool_tuple, kt_bool_list, kt_bool_dict, kt_int_int, kt_int_bool, kt_int_str, kt_int_tuple, kt_int_list, kt_int_dict, kt_str_int, kt_str_bool, kt_str_str, kt_str_tuple, kt_str_list, kt_str_dict, kt_tuple_int, kt_tuple_bool, kt_tuple_str, kt_tuple_tuple, kt_tuple_list, kt_tuple_dict, kt_list_int, kt_list_bool, kt_list_str, kt_list_tuple, kt_list_list, kt_list_dict, kt_dict_int, kt_dict_bool, kt_dict_str, kt_dict_tuple, kt_dict_list, kt_dict_dict]
      refine lci_map id G' trivial (by simpa using hl) (fun x hx => ?_) ⟨by decide +kernel, ?_⟩
      · refine ⟨_, rfl, fun R h => ?_⟩
        simp only [var3, con3, op3, un3, tst3, chain3, tru3, vno3, van3, vo3, not3, and3, or3, ite3, nil3, cons3, tup3, lst3, lsf3, nx3, seq3, brk3, cnt3, drop3, ret3, retn3, ifs3, set3, asg3, gn3, gnil3, gcons3, gtup3, for3, ilst3, itup3, irng1, irng2, call3, fld3, sfld3, meth3, make3, raise3, frz3, try3, wTry3, inSuite3, outOf3, xfld3, cb3, isx, bml3, isl, app3, gsub3, st3, dic3, prs3, dkeys, newl, finv, view3, lcg3, id, bag_c, bag_a, bag_r, bag_m, bag_n, bag_pa, bag_pr, bag_pm, bag_pn, bag_len, up_same, up_up, at3_0, at3_1, at3_2, toNat_2, Int.toNat_zero, Int.toNat_one, istru_bl, istru_int, istru_non, istru_tup, istru_lst, istru_kls, istru_str, add3_ii, add3_ss, add3_tt, sub3_ii, mul3_ii, fdv3_ii, mod3_ii, pow3_ii, neg3_i, eqn3_ii, eqn3_ss, eqn3_bb, eqn3_tup, eqn3_lst, eqn3_non, cmi3_ii, isn3_bb, isn3_nn, isn3_on, isn3_tn, isn3_in, isn3_sn, isn3_rn, isn3_ln, isn3_bn, ix3_lst, ix3_kls, ix3_tup, ix3_ri, ix3_rs, opt3_some, getf_obj, seqj_lst, seqj_kls, seqj_ref, tupj_tup, len3_lst, len3_kls, len3_tup, len3_str, len3_ref, int3_i, int3_b, abs3_i, str3_i, lisf3_lst, lisf3_kls, lisf3_tup, list3_lst, list3_kls, list3_tup, tuple3_lst, tuple3_kls, tuple3_tup, isi_2, typ_non, typ_bl, typ_int, typ_str, typ_tup, typ_lst, typ_kls, typ_obj, typok_ty, typok_ref, clsv_ty, clsv_ref, eqo3_obj, onlyb_bl, adl3_ll, all3_lst, List.set_cons_zero, List.set_cons_succ, List.getElem?_cons_zero, List.getElem?_cons_succ, List.map_cons, List.map_nil, List.length_cons, List.length_nil, if_true, if_false, reduceIte, reduceCtorEq, Option.map_some, Option.some.injEq, and_true, true_and, List.cons_append, List.nil_append, Nat.reduceAdd, Nat.reduceLeDiff, Nat.reduceEqDiff, exists_eq_left', exists_eq_left, exists_and_left, exists_eq_right, exists_and_right, exists_const, Bool.not_true, Bool.not_false, kt_NoneType_int, kt_NoneType_bool, kt_NoneType_str, kt_NoneType_tuple, kt_NoneType_list, kt_NoneType_dict, kt_bool_int, kt_bool_bool, kt_bool_str, kt_bool_tuple, kt_bool_list, kt_bool_dict, kt_int_int, kt_int_bool, kt_int_str, kt_int_tuple, kt_int_list, kt_int_dict, kt_str_int, kt_str_bool, kt_str_str, kt_str_tuple, kt_str_list, kt_str_dict, kt_tuple_int, kt_tuple_bool, kt_tuple_str, kt_tuple_tuple, kt_tuple_list, kt_tuple_dict, kt_list_int, kt_list_bool, kt_list_str, kt_list_tuple, kt_list_list, kt_list_dict, kt_dict_int, kt_dict_bool, kt_dict_str, kt_dict_tuple, kt_dict_list, kt_dict_dict, wipe3]
        exact h
      · rw [List.map_id, List.nil_append]
        exact fun q hq' => rt_same (hq q _ hq' ⟨⟨cs, 0, 0, m, 0, up_same, Int.le_refl 0⟩, fun y hy => up_ne hy⟩)

end K52

namespace K52
open PySem PySem.Spec PyProof.Rows L2 T3

abbrev sp_pick (K : PySem.W.Frag) (a : Ad) : Sp3 := spPick

/- _law_number = _law_bag_here['rest'] -/
def rd_pick_0 (K : PySem.W.Frag) (a : Ad) (W : W3) : T3S := (set3 2 (op3 ix3 (var3 0) (con3 (.str "rest"))))
/- _law_bag_here['rest'] = _law_number // _law_many_here -/
def rd_pick_1 (K : PySem.W.Frag) (a : Ad) (W : W3) : T3S := (asg3 (op3 fdv3 (var3 2) (var3 1)) (gsub3 (var3 0) (con3 (.str "rest"))))
/- return int(_law_number) % _law_many_here -/
def rd_pick_2 (K : PySem.W.Frag) (a : Ad) (W : W3) : T3S := (ret3 (op3 mod3 (cb3 int3 (cons3 (var3 2) nil3)) (var3 1)))
/- _law_bag_here['rest'] = _law_cell // _law_many_here -/
def rd_pick_3 (K : PySem.W.Frag) (a : Ad) (W : W3) : T3S := (asg3 (op3 fdv3 (var3 3) (var3 1)) (gsub3 (var3 0) (con3 (.str "rest"))))
/- return int(_law_cell) % _law_many_here -/
def rd_pick_4 (K : PySem.W.Frag) (a : Ad) (W : W3) : T3S := (ret3 (op3 mod3 (cb3 int3 (cons3 (var3 3) nil3)) (var3 1)))
/- _law_cell = _law_bag_here['cells'][_law_bag_here['at']] -/
def rd_pick_5 (K : PySem.W.Frag) (a : Ad) (W : W3) : T3S := (set3 3 (op3 ix3 (op3 ix3 (var3 0) (con3 (.str "cells"))) (op3 ix3 (var3 0) (con3 (.str "at")))))
/- _law_bag_here['at'] = _law_bag_here['at'] + 1 -/
def rd_pick_6 (K : PySem.W.Frag) (a : Ad) (W : W3) : T3S := (asg3 (op3 add3 (op3 ix3 (var3 0) (con3 (.str "at"))) (con3 (.int 1))) (gsub3 (var3 0) (con3 (.str "at"))))
/- if _law_cell >= 10 ** 18: -/
def rd_pick_7 (K : PySem.W.Frag) (a : Ad) (W : W3) : T3S := (ifs3 (tst3 (op3 ge3 (var3 3) (op3 pow3 (con3 (.int 10)) (con3 (.int 18))))) (seq3 (rd_pick_3 K a W) (rd_pick_4 K a W)) nx3)
/- _law_bag_here['count'] = _law_bag_here['count'] + 1 -/
def rd_pick_8 (K : PySem.W.Frag) (a : Ad) (W : W3) : T3S := (asg3 (op3 add3 (op3 ix3 (var3 0) (con3 (.str "count"))) (con3 (.int 1))) (gsub3 (var3 0) (con3 (.str "count"))))
/- if _law_bag_here['rest'] > 0: -/
def rd_pick_9 (K : PySem.W.Frag) (a : Ad) (W : W3) : T3S := (ifs3 (tst3 (op3 gt3 (op3 ix3 (var3 0) (con3 (.str "rest"))) (con3 (.int 0)))) (seq3 (rd_pick_0 K a W) (seq3 (rd_pick_1 K a W) (rd_pick_2 K a W))) nx3)
/- _law_cell = 0 -/
def rd_pick_10 (K : PySem.W.Frag) (a : Ad) (W : W3) : T3S := (set3 3 (con3 (.int 0)))
/- if _law_bag_here['at'] < len(_law_bag_here['cells']): -/
def rd_pick_11 (K : PySem.W.Frag) (a : Ad) (W : W3) : T3S := (ifs3 (tst3 (op3 lt3 (op3 ix3 (var3 0) (con3 (.str "at"))) (cb3 len3 (cons3 (op3 ix3 (var3 0) (con3 (.str "cells"))) nil3)))) (seq3 (rd_pick_5 K a W) (seq3 (rd_pick_6 K a W) (rd_pick_7 K a W))) nx3)
/- _law_number = int(_law_cell * 48271 + _law_bag_here['mixed'] * 69621 + _law_bag_here['count'] * 1680 -/
def rd_pick_12 (K : PySem.W.Frag) (a : Ad) (W : W3) : T3S := (set3 2 (op3 mod3 (cb3 int3 (cons3 (op3 add3 (op3 add3 (op3 mul3 (var3 3) (con3 (.int 48271))) (op3 mul3 (op3 ix3 (var3 0) (con3 (.str "mixed"))) (con3 (.int 69621)))) (op3 mul3 (op3 ix3 (var3 0) (con3 (.str "count"))) (con3 (.int 16807)))) nil3)) (con3 (.int 2147483647))))
/- _law_number = int(_law_number * 48271 + 12345) % 2147483647 -/
def rd_pick_13 (K : PySem.W.Frag) (a : Ad) (W : W3) : T3S := (set3 2 (op3 mod3 (cb3 int3 (cons3 (op3 add3 (op3 mul3 (var3 2) (con3 (.int 48271))) (con3 (.int 12345))) nil3)) (con3 (.int 2147483647))))
/- _law_bag_here['mixed'] = int(_law_number) % 1000003 -/
def rd_pick_14 (K : PySem.W.Frag) (a : Ad) (W : W3) : T3S := (asg3 (op3 mod3 (cb3 int3 (cons3 (var3 2) nil3)) (con3 (.int 1000003))) (gsub3 (var3 0) (con3 (.str "mixed"))))
/- return int(_law_number // 11) % _law_many_here -/
def rd_pick_15 (K : PySem.W.Frag) (a : Ad) (W : W3) : T3S := (ret3 (op3 mod3 (cb3 int3 (cons3 (op3 fdv3 (var3 2) (con3 (.int 11))) nil3)) (var3 1)))
def rd_pick (K : PySem.W.Frag) (a : Ad) (W : W3) : T3S := (seq3 (rd_pick_8 K a W) (seq3 (rd_pick_9 K a W) (seq3 (rd_pick_10 K a W) (seq3 (rd_pick_11 K a W) (seq3 (rd_pick_12 K a W) (seq3 (rd_pick_13 K a W) (seq3 (rd_pick_14 K a W) (rd_pick_15 K a W))))))))
theorem dv_pick {P : Program} {w : World} {K : PySem.W.Frag} {mg : Str → Option Value} {base : Heap} {a : Ad} {d : Fd} (T : Txt K mg a d) (wlp : ∀ ds G Q E, (sp_pick K a) ds G Q E → ds.length = 2)
    (h : ∀ (ds : List D) (G : H3) (Q : K3) (E : X3), (sp_pick K a) ds G Q E → rd_pick K a (ex3 E) (ends3 Q) (start3 N_pick ds) G) : Fk P w K mg base 1 a.f_pick d.f_pick ["_law_bag_here", "_law_many_here"] (sp_pick K a) :=
  fn3 T.F_pick sc_pick wlp fun cdv A outer s H E B E3 hr tk po => by
    have sc := sc_pick
    have hu64 := hr.units
    have hu1 := hu_of hr
    refine ⟨rd_pick K a (ex3 E3), ?_, fun ds G Q h' => h ds G Q E3 h'⟩
    exact (b_cons (s_asg (e_op o_add (e_ix hu1 (e_var 0) e_str) e_int) (g_sub hu1 (e_var 0) e_str)) (b_cons (s_if (p_cmp o_gt (e_ix hu1 (e_var 0) e_str) e_int) (b_cons (s_set 2 sc.nd (e_ix hu1 (e_var 0) e_str)) (b_cons (s_asg (e_op o_fdv (e_var 2) (e_var 1)) (g_sub hu1 (e_var 0) e_str)) (b_one (s_ret (e_op o_mod (e_ct c_int T.n_int (by decide +kernel) (a_cons (e_var 2) a_nil)) (e_var 1)))))) b_nil) (b_cons (s_set 3 sc.nd e_int) (b_cons (s_if (p_cmp o_lt (e_ix hu1 (e_var 0) e_str) (e_cb c_len T.n_len (by decide +kernel) (a_cons (e_ix hu1 (e_var 0) e_str) a_nil))) (b_cons (s_set 3 sc.nd (e_ix hu1 (e_ix hu1 (e_var 0) e_str) (e_ix hu1 (e_var 0) e_str))) (b_cons (s_asg (e_op o_add (e_ix hu1 (e_var 0) e_str) e_int) (g_sub hu1 (e_var 0) e_str)) (b_one (s_if (p_cmp o_ge (e_var 3) (e_op o_pow e_int e_int)) (b_cons (s_asg (e_op o_fdv (e_var 3) (e_var 1)) (g_sub hu1 (e_var 0) e_str)) (b_one (s_ret (e_op o_mod (e_ct c_int T.n_int (by decide +kernel) (a_cons (e_var 3) a_nil)) (e_var 1))))) b_nil)))) b_nil) (b_cons (s_set 2 sc.nd (e_op o_mod (e_ct c_int T.n_int (by decide +kernel) (a_cons (e_op o_add (e_op o_add (e_op o_mul (e_var 3) e_int) (e_op o_mul (e_ix hu1 (e_var 0) e_str) e_int)) (e_op o_mul (e_ix hu1 (e_var 0) e_str) e_int)) a_nil)) e_int)) (b_cons (s_set 2 sc.nd (e_op o_mod (e_ct c_int T.n_int (by decide +kernel) (a_cons (e_op o_add (e_op o_mul (e_var 2) e_int) e_int) a_nil)) e_int)) (b_cons (s_asg (e_op o_mod (e_ct c_int T.n_int (by decide +kernel) (a_cons (e_var 2) a_nil)) e_int) (g_sub hu1 (e_var 0) e_str)) (b_one (s_ret (e_op o_mod (e_ct c_int T.n_int (by decide +kernel) (a_cons (e_op o_fdv (e_var 2) e_int) a_nil)) (e_var 1)))))))))))

theorem ok_pick {P : Program} {w : World} {K : PySem.W.Frag} {mg : Str → Option Value} {base : Heap} {a : Ad} {d : Fd} (T : Txt K mg a d) : Fk P w K mg base 1 a.f_pick d.f_pick ["_law_bag_here", "_law_many_here"] (sp_pick K a) :=
  dv_pick T (by rintro _ _ _ _ ⟨b, n, rfl, _⟩; rfl) fun ds G Q E h => by
    obtain ⟨b, n, rfl, ⟨cs, i, r, m, c, hG, hi⟩, hn, hq⟩ := h
    show rd_pick K a _ (ends3 Q) [some (.ref b), some (.int n), none, none] G
    have fin : ∀ (x i r m c : Int), 0 ≤ i → (ends3 Q).rt (.int (x % n)) (up G b (.dic (bagL (.lst (cs.map .int)) (.int i) (.int r) (.int m) (.int c)))) := fun x i r m c h => by
      refine rt_same (hq _ _ ⟨Int.emod_nonneg _ (by omega), Int.emod_lt_of_pos _ hn.1⟩ ⟨⟨cs, i, r, m, c, up_same, h⟩, fun y hy => up_ne hy⟩)
    have n0 : n ≠ 0 := by omega
    unfold rd_pick rd_pick_8 rd_pick_9
    simp only [var3, con3, op3, un3, tst3, chain3, tru3, vno3, van3, vo3, not3, and3, or3, ite3, nil3, cons3, tup3, lst3, lsf3, nx3, seq3, brk3, cnt3, drop3, ret3, retn3, ifs3, set3, asg3, gn3, gnil3, gcons3, gtup3, for3, ilst3, itup3, irng1, irng2, call3, fld3, sfld3, meth3, make3, raise3, frz3, try3, wTry3, inSuite3, outOf3, xfld3, cb3, isx, bml3, isl, app3, gsub3, st3, dic3, prs3, dkeys, newl, finv, view3, lcg3, id, bag_c, bag_a, bag_r, bag_m, bag_n, bag_pa, bag_pr, bag_pm, bag_pn, bag_len, up_same, up_up, at3_0, at3_1, at3_2, toNat_2, Int.toNat_zero, Int.toNat_one, istru_bl, istru_int, istru_non, istru_tup, istru_lst, istru_kls, istru_str, add3_ii, add3_ss, add3_tt, sub3_ii, mul3_ii, fdv3_ii, mod3_ii, pow3_ii, neg3_i, eqn3_ii, eqn3_ss, eqn3_bb, eqn3_tup, eqn3_lst, eqn3_non, cmi3_ii, isn3_bb, isn3_nn, isn3_on, isn3_tn, isn3_in, isn3_sn, isn3_rn, isn3_ln, isn3_bn, ix3_lst, ix3_kls, ix3_tup, ix3_ri, ix3_rs, opt3_some, getf_obj, seqj_lst, seqj_kls, seqj_ref, tupj_tup, len3_lst, len3_kls, len3_tup, len3_str, len3_ref, int3_i, int3_b, abs3_i, str3_i, lisf3_lst, lisf3_kls, lisf3_tup, list3_lst, list3_kls, list3_tup, tuple3_lst, tuple3_kls, tuple3_tup, isi_2, typ_non, typ_bl, typ_int, typ_str, typ_tup, typ_lst, typ_kls, typ_obj, typok_ty, typok_ref, clsv_ty, clsv_ref, eqo3_obj, onlyb_bl, adl3_ll, all3_lst, List.set_cons_zero, List.set_cons_succ, List.getElem?_cons_zero, List.getElem?_cons_succ, List.map_cons, List.map_nil, List.length_cons, List.length_nil, if_true, if_false, reduceIte, reduceCtorEq, Option.map_some, Option.some.injEq, and_true, true_and, List.cons_append, List.nil_append, Nat.reduceAdd, Nat.reduceLeDiff, Nat.reduceEqDiff, exists_eq_left', exists_eq_left, exists_and_left, exists_eq_right, exists_and_right, exists_const, Bool.not_true, Bool.not_false, kt_NoneType_int, kt_NoneType_bool, kt_NoneType_str, kt_NoneType_tuple, kt_NoneType_list, kt_NoneType_dict, kt_bool_int, kt_bool_bool, kt_bool_str, kt_bool_tuple, kt_bool_list, kt_bool_dict, kt_int_int, kt_int_bool, kt_int_str, kt_int_tuple, kt_int_list, kt_int_dict, kt_str_int, kt_str_bool, kt_str_str, kt_str_tuple, kt_str_list, kt_str_dict, kt_tuple_int, kt_tuple_bool, kt_tuple_str, kt_tuple_tuple, kt_tuple_list, kt_tuple_dict, kt_list_int, kt_list_bool, kt_list_str, kt_list_tuple, kt_list_list, kt_list_dict, kt_dict_int, kt_dict_bool, kt_dict_str, kt_dict_tuple, kt_dict_list, kt_dict_dict, hG]
    refine ⟨by omega, ?_⟩
    by_cases h1 : 0 < r
    · simp only [h1, decide_true, if_true]
      unfold rd_pick_0 rd_pick_1 rd_pick_2
      simp only [var3, con3, op3, un3, tst3, chain3, tru3, vno3, van3, vo3, not3, and3, or3, ite3, nil3, cons3, tup3, lst3, lsf3, nx3, seq3, brk3, cnt3, drop3, ret3, retn3, ifs3, set3, asg3, gn3, gnil3, gcons3, gtup3, for3, ilst3, itup3, irng1, irng2, call3, fld3, sfld3, meth3, make3, raise3, frz3, try3, wTry3, inSuite3, outOf3, xfld3, cb3, isx, bml3, isl, app3, gsub3, st3, dic3, prs3, dkeys, newl, finv, view3, lcg3, id, bag_c, bag_a, bag_r, bag_m, bag_n, bag_pa, bag_pr, bag_pm, bag_pn, bag_len, up_same, up_up, at3_0, at3_1, at3_2, toNat_2, Int.toNat_zero, Int.toNat_one, istru_bl, istru_int, istru_non, istru_tup, istru_lst, istru_kls, istru_str, add3_ii, add3_ss, add3_tt, sub3_ii, mul3_ii, fdv3_ii, mod3_ii, pow3_ii, neg3_i, eqn3_ii, eqn3_ss, eqn3_bb, eqn3_tup, eqn3_lst, eqn3_non, cmi3_ii, isn3_bb, isn3_nn, isn3_on, isn3_tn, isn3_in, isn3_sn, isn3_rn, isn3_ln, isn3_bn, ix3_lst, ix3_kls, ix3_tup, ix3_ri, ix3_rs, opt3_some, getf_obj, seqj_lst, seqj_kls, seqj_ref, tupj_tup, len3_lst, len3_kls, len3_tup, len3_str, len3_ref, int3_i, int3_b, abs3_i, str3_i, lisf3_lst, lisf3_kls, lisf3_tup, list3_lst, list3_kls, list3_tup, tuple3_lst, tuple3_kls, tuple3_tup, isi_2, typ_non, typ_bl, typ_int, typ_str, typ_tup, typ_lst, typ_kls, typ_obj, typok_ty, typok_ref, clsv_ty, clsv_ref, eqo3_obj, onlyb_bl, adl3_ll, all3_lst, List.set_cons_zero, List.set_cons_succ, List.getElem?_cons_zero, List.getElem?_cons_succ, List.map_cons, List.map_nil, List.length_cons, List.length_nil, if_true, if_false, reduceIte, reduceCtorEq, Option.map_some, Option.some.injEq, and_true, true_and, List.cons_append, List.nil_append, Nat.reduceAdd, Nat.reduceLeDiff, Nat.reduceEqDiff, exists_eq_left', exists_eq_left, exists_and_left, exists_eq_right, exists_and_right, exists_const, Bool.not_true, Bool.not_false, kt_NoneType_int, kt_NoneType_bool, kt_NoneType_str, kt_NoneType_tuple, kt_NoneType_list, kt_NoneType_dict, kt_bool_int, kt_bool_bool, kt_bool_str, kt_bool_tuple, kt_bool_list, kt_bool_dict, kt_int_int, kt_int_bool, kt_int_str, kt_int_tuple, kt_int_list, kt_int_dict, kt_str_int, kt_str_bool, kt_str_str, kt_str_tuple, kt_str_list, kt_str_dict, kt_tuple_int, kt_tuple_bool, kt_tuple_str, kt_tuple_tuple, kt_tuple_list, kt_tuple_dict, kt_list_int, kt_list_bool, kt_list_str, kt_list_tuple, kt_list_list, kt_list_dict, kt_dict_int, kt_dict_bool, kt_dict_str, kt_dict_tuple, kt_dict_list, kt_dict_dict]
      exact ⟨⟨n0, hn.2⟩, by omega, hn.1, fin _ _ _ _ _ hi⟩
    · simp only [h1, decide_false, if_false, Bool.false_eq_true]
      unfold rd_pick_10 rd_pick_11
      simp only [var3, con3, op3, un3, tst3, chain3, tru3, vno3, van3, vo3, not3, and3, or3, ite3, nil3, cons3, tup3, lst3, lsf3, nx3, seq3, brk3, cnt3, drop3, ret3, retn3, ifs3, set3, asg3, gn3, gnil3, gcons3, gtup3, for3, ilst3, itup3, irng1, irng2, call3, fld3, sfld3, meth3, make3, raise3, frz3, try3, wTry3, inSuite3, outOf3, xfld3, cb3, isx, bml3, isl, app3, gsub3, st3, dic3, prs3, dkeys, newl, finv, view3, lcg3, id, bag_c, bag_a, bag_r, bag_m, bag_n, bag_pa, bag_pr, bag_pm, bag_pn, bag_len, up_same, up_up, at3_0, at3_1, at3_2, toNat_2, Int.toNat_zero, Int.toNat_one, istru_bl, istru_int, istru_non, istru_tup, istru_lst, istru_kls, istru_str, add3_ii, add3_ss, add3_tt, sub3_ii, mul3_ii, fdv3_ii, mod3_ii, pow3_ii, neg3_i, eqn3_ii, eqn3_ss, eqn3_bb, eqn3_tup, eqn3_lst, eqn3_non, cmi3_ii, isn3_bb, isn3_nn, isn3_on, isn3_tn, isn3_in, isn3_sn, isn3_rn, isn3_ln, isn3_bn, ix3_lst, ix3_kls, ix3_tup, ix3_ri, ix3_rs, opt3_some, getf_obj, seqj_lst, seqj_kls, seqj_ref, tupj_tup, len3_lst, len3_kls, len3_tup, len3_str, len3_ref, int3_i, int3_b, abs3_i, str3_i, lisf3_lst, lisf3_kls, lisf3_tup, list3_lst, list3_kls, list3_tup, tuple3_lst, tuple3_kls, tuple3_tup, isi_2, typ_non, typ_bl, typ_int, typ_str, typ_tup, typ_lst, typ_kls, typ_obj, typok_ty, typok_ref, clsv_ty, clsv_ref, eqo3_obj, onlyb_bl, adl3_ll, all3_lst, List.set_cons_zero, List.set_cons_succ, List.getElem?_cons_zero, List.getElem?_cons_succ, List.map_cons, List.map_nil, List.length_cons, List.length_nil, if_true, if_false, reduceIte, reduceCtorEq, Option.map_some, Option.some.injEq, and_true, true_and, List.cons_append, List.nil_append, Nat.reduceAdd, Nat.reduceLeDiff, Nat.reduceEqDiff, exists_eq_left', exists_eq_left, exists_and_left, exists_eq_right, exists_and_right, exists_const, Bool.not_true, Bool.not_false, kt_NoneType_int, kt_NoneType_bool, kt_NoneType_str, kt_NoneType_tuple, kt_NoneType_list, kt_NoneType_dict, kt_bool_int, kt_bool_bool, kt_bool_str, kt_bool_tuple, kt_bool_list, kt_bool_dict, kt_int_int, kt_int_bool, kt_int_str, kt_int_tuple, kt_int_list, kt_int_dict, kt_str_int, kt_str_bool, kt_str_str, kt_str_tuple, kt_str_list, kt_str_dict, kt_tuple_int, kt_tuple_bool, kt_tuple_str, kt_tuple_tuple, kt_tuple_list, kt_tuple_dict, kt_list_int, kt_list_bool, kt_list_str, kt_list_tuple, kt_list_list, kt_list_dict, kt_dict_int, kt_dict_bool, kt_dict_str, kt_dict_tuple, kt_dict_list, kt_dict_dict]
      have tail : ∀ (x i r m c : Int), 0 ≤ i → seq3 (rd_pick_12 K a (ex3 E)) (seq3 (rd_pick_13 K a (ex3 E)) (seq3 (rd_pick_14 K a (ex3 E)) (rd_pick_15 K a (ex3 E)))) (ends3 Q) [some (.ref b), some (.int n), none, some (.int x)] (up G b (.dic (bagL (.lst (cs.map .int)) (.int i) (.int r) (.int m) (.int c)))) := fun x i r m c h => by
        unfold rd_pick_12 rd_pick_13 rd_pick_14 rd_pick_15
        simp only [var3, con3, op3, un3, tst3, chain3, tru3, vno3, van3, vo3, not3, and3, or3, ite3, nil3, cons3, tup3, lst3, lsf3, nx3, seq3, brk3, cnt3, drop3, ret3, retn3, ifs3, set3, asg3, gn3, gnil3, gcons3, gtup3, for3, ilst3, itup3, irng1, irng2, call3, fld3, sfld3, meth3, make3, raise3, frz3, try3, wTry3, inSuite3, outOf3, xfld3, cb3, isx, bml3, isl, app3, gsub3, st3, dic3, prs3, dkeys, newl, finv, view3, lcg3, id, bag_c, bag_a, bag_r, bag_m, bag_n, bag_pa, bag_pr, bag_pm, bag_pn, bag_len, up_same, up_up, at3_0, at3_1, at3_2, toNat_2, Int.toNat_zero, Int.toNat_one, istru_bl, istru_int, istru_non, istru_tup, istru_lst, istru_kls, istru_str, add3_ii, add3_ss, add3_tt, sub3_ii, mul3_ii, fdv3_ii, mod3_ii, pow3_ii, neg3_i, eqn3_ii, eqn3_ss, eqn3_bb, eqn3_tup, eqn3_lst, eqn3_non, cmi3_ii, isn3_bb, isn3_nn, isn3_on, isn3_tn, isn3_in, isn3_sn, isn3_rn, isn3_ln, isn3_bn, ix3_lst, ix3_kls, ix3_tup, ix3_ri, ix3_rs, opt3_some, getf_obj, seqj_lst, seqj_kls, seqj_ref, tupj_tup, len3_lst, len3_kls, len3_tup, len3_str, len3_ref, int3_i, int3_b, abs3_i, str3_i, lisf3_lst, lisf3_kls, lisf3_tup, list3_lst, list3_kls, list3_tup, tuple3_lst, tuple3_kls, tuple3_tup, isi_2, typ_non, typ_bl, typ_int, typ_str, typ_tup, typ_lst, typ_kls, typ_obj, typok_ty, typok_ref, clsv_ty, clsv_ref, eqo3_obj, onlyb_bl, adl3_ll, all3_lst, List.set_cons_zero, List.set_cons_succ, List.getElem?_cons_zero, List.getElem?_cons_succ, List.map_cons, List.map_nil, List.length_cons, List.length_nil, if_true, if_false, reduceIte, reduceCtorEq, Option.map_some, Option.some.injEq, and_true, true_and, List.cons_append, List.nil_append, Nat.reduceAdd, Nat.reduceLeDiff, Nat.reduceEqDiff, exists_eq_left', exists_eq_left, exists_and_left, exists_eq_right, exists_and_right, exists_const, Bool.not_true, Bool.not_false, kt_NoneType_int, kt_NoneType_bool, kt_NoneType_str, kt_NoneType_tuple, kt_NoneType_list, kt_NoneType_dict, kt_bool_int, kt_bool_bool, kt_bool_str, kt_bool_tuple, kt_bool_list, kt_bool_dict, kt_int_int, kt_int_bool, kt_int_str, kt_int_tuple, kt_int_list, kt_int_dict, kt_str_int, kt_str_bool, kt_str_str, kt_str_tuple, kt_str_list, kt_str_dict, kt_tuple_int, kt_tuple_bool, kt_tuple_str, kt_tuple_tuple, kt_tuple_list, kt_tuple_dict, kt_list_int, kt_list_bool, kt_list_str, kt_list_tuple, kt_list_list, kt_list_dict, kt_dict_int, kt_dict_bool, kt_dict_str, kt_dict_tuple, kt_dict_list, kt_dict_dict]
        refine ⟨mulok_r (by decide), mulok_r (by decide), mulok_r (by decide), by decide, mulok_r (by decide), by decide, by decide, by omega, by decide, hn.1, fin _ _ _ _ _ h⟩
      by_cases h2 : i < (List.map D.int cs).length
      · simp only [h2, decide_true, if_true]
        obtain ⟨k, hk⟩ := at3_ints (cs := cs) hi (by rw [List.length_map] at h2; exact h2)
        unfold rd_pick_5 rd_pick_6 rd_pick_7
        simp only [var3, con3, op3, un3, tst3, chain3, tru3, vno3, van3, vo3, not3, and3, or3, ite3, nil3, cons3, tup3, lst3, lsf3, nx3, seq3, brk3, cnt3, drop3, ret3, retn3, ifs3, set3, asg3, gn3, gnil3, gcons3, gtup3, for3, ilst3, itup3, irng1, irng2, call3, fld3, sfld3, meth3, make3, raise3, frz3, try3, wTry3, inSuite3, outOf3, xfld3, cb3, isx, bml3, isl, app3, gsub3, st3, dic3, prs3, dkeys, newl, finv, view3, lcg3, id, bag_c, bag_a, bag_r, bag_m, bag_n, bag_pa, bag_pr, bag_pm, bag_pn, bag_len, up_same, up_up, at3_0, at3_1, at3_2, toNat_2, Int.toNat_zero, Int.toNat_one, istru_bl, istru_int, istru_non, istru_tup, istru_lst, istru_kls, istru_str, add3_ii, add3_ss, add3_tt, sub3_ii, mul3_ii, fdv3_ii, mod3_ii, pow3_ii, neg3_i, eqn3_ii, eqn3_ss, eqn3_bb, eqn3_tup, eqn3_lst, eqn3_non, cmi3_ii, isn3_bb, isn3_nn, isn3_on, isn3_tn, isn3_in, isn3_sn, isn3_rn, isn3_ln, isn3_bn, ix3_lst, ix3_kls, ix3_tup, ix3_ri, ix3_rs, opt3_some, getf_obj, seqj_lst, seqj_kls, seqj_ref, tupj_tup, len3_lst, len3_kls, len3_tup, len3_str, len3_ref, int3_i, int3_b, abs3_i, str3_i, lisf3_lst, lisf3_kls, lisf3_tup, list3_lst, list3_kls, list3_tup, tuple3_lst, tuple3_kls, tuple3_tup, isi_2, typ_non, typ_bl, typ_int, typ_str, typ_tup, typ_lst, typ_kls, typ_obj, typok_ty, typok_ref, clsv_ty, clsv_ref, eqo3_obj, onlyb_bl, adl3_ll, all3_lst, List.set_cons_zero, List.set_cons_succ, List.getElem?_cons_zero, List.getElem?_cons_succ, List.map_cons, List.map_nil, List.length_cons, List.length_nil, if_true, if_false, reduceIte, reduceCtorEq, Option.map_some, Option.some.injEq, and_true, true_and, List.cons_append, List.nil_append, Nat.reduceAdd, Nat.reduceLeDiff, Nat.reduceEqDiff, exists_eq_left', exists_eq_left, exists_and_left, exists_eq_right, exists_and_right, exists_const, Bool.not_true, Bool.not_false, kt_NoneType_int, kt_NoneType_bool, kt_NoneType_str, kt_NoneType_tuple, kt_NoneType_list, kt_NoneType_dict, kt_bool_int, kt_bool_bool, kt_bool_str, kt_bool_tuple, kt_bool_list, kt_bool_dict, kt_int_int, kt_int_bool, kt_int_str, kt_int_tuple, kt_int_list, kt_int_dict, kt_str_int, kt_str_bool, kt_str_str, kt_str_tuple, kt_str_list, kt_str_dict, kt_tuple_int, kt_tuple_bool, kt_tuple_str, kt_tuple_tuple, kt_tuple_list, kt_tuple_dict, kt_list_int, kt_list_bool, kt_list_str, kt_list_tuple, kt_list_list, kt_list_dict, kt_dict_int, kt_dict_bool, kt_dict_str, kt_dict_tuple, kt_dict_list, kt_dict_dict, hk]
        refine ⟨by omega, ⟨by decide, by decide, by decide⟩, ?_⟩
        by_cases h3 : (10 : Int) ^ (18 : Int).toNat ≤ k
        · simp only [h3, decide_true, if_true]
          unfold rd_pick_3 rd_pick_4
          simp only [var3, con3, op3, un3, tst3, chain3, tru3, vno3, van3, vo3, not3, and3, or3, ite3, nil3, cons3, tup3, lst3, lsf3, nx3, seq3, brk3, cnt3, drop3, ret3, retn3, ifs3, set3, asg3, gn3, gnil3, gcons3, gtup3, for3, ilst3, itup3, irng1, irng2, call3, fld3, sfld3, meth3, make3, raise3, frz3, try3, wTry3, inSuite3, outOf3, xfld3, cb3, isx, bml3, isl, app3, gsub3, st3, dic3, prs3, dkeys, newl, finv, view3, lcg3, id, bag_c, bag_a, bag_r, bag_m, bag_n, bag_pa, bag_pr, bag_pm, bag_pn, bag_len, up_same, up_up, at3_0, at3_1, at3_2, toNat_2, Int.toNat_zero, Int.toNat_one, istru_bl, istru_int, istru_non, istru_tup, istru_lst, istru_kls, istru_str, add3_ii, add3_ss, add3_tt, sub3_ii, mul3_ii, fdv3_ii, mod3_ii, pow3_ii, neg3_i, eqn3_ii, eqn3_ss, eqn3_bb, eqn3_tup, eqn3_lst, eqn3_non, cmi3_ii, isn3_bb, isn3_nn, isn3_on, isn3_tn, isn3_in, isn3_sn, isn3_rn, isn3_ln, isn3_bn, ix3_lst, ix3_kls, ix3_tup, ix3_ri, ix3_rs, opt3_some, getf_obj, seqj_lst, seqj_kls, seqj_ref, tupj_tup, len3_lst, len3_kls, len3_tup, len3_str, len3_ref, int3_i, int3_b, abs3_i, str3_i, lisf3_lst, lisf3_kls, lisf3_tup, list3_lst, list3_kls, list3_tup, tuple3_lst, tuple3_kls, tuple3_tup, isi_2, typ_non, typ_bl, typ_int, typ_str, typ_tup, typ_lst, typ_kls, typ_obj, typok_ty, typok_ref, clsv_ty, clsv_ref, eqo3_obj, onlyb_bl, adl3_ll, all3_lst, List.set_cons_zero, List.set_cons_succ, List.getElem?_cons_zero, List.getElem?_cons_succ, List.map_cons, List.map_nil, List.length_cons, List.length_nil, if_true, if_false, reduceIte, reduceCtorEq, Option.map_some, Option.some.injEq, and_true, true_and, List.cons_append, List.nil_append, Nat.reduceAdd, Nat.reduceLeDiff, Nat.reduceEqDiff, exists_eq_left', exists_eq_left, exists_and_left, exists_eq_right, exists_and_right, exists_const, Bool.not_true, Bool.not_false, kt_NoneType_int, kt_NoneType_bool, kt_NoneType_str, kt_NoneType_tuple, kt_NoneType_list, kt_NoneType_dict, kt_bool_int, kt_bool_bool, kt_bool_str, kt_bool_tuple, kt_bool_list, kt_bool_dict, kt_int_int, kt_int_bool, kt_int_str, kt_int_tuple, kt_int_list, kt_int_dict, kt_str_int, kt_str_bool, kt_str_str, kt_str_tuple, kt_str_list, kt_str_dict, kt_tuple_int, kt_tuple_bool, kt_tuple_str, kt_tuple_tuple, kt_tuple_list, kt_tuple_dict, kt_list_int, kt_list_bool, kt_list_str, kt_list_tuple, kt_list_list, kt_list_dict, kt_dict_int, kt_dict_bool, kt_dict_str, kt_dict_tuple, kt_dict_list, kt_dict_dict]
          exact ⟨⟨n0, hn.2⟩, by omega, hn.1, fin _ _ _ _ _ (by omega)⟩
        · simp only [h3, decide_false, if_false, Bool.false_eq_true]
          exact tail _ _ _ _ _ (by omega)
      · simp only [h2, decide_false, if_false, Bool.false_eq_true]
        exact tail _ _ _ _ _ hi

end K52

namespace K52
open PySem PySem.Spec PyProof.Rows L2 T3

abbrev sp_choice (K : PySem.W.Frag) (a : Ad) : Sp3 := spChoice

/- return _law_things[_law_pick(_law_bag_here, len(_law_things))] -/
def rd_choice_0 (K : PySem.W.Frag) (a : Ad) (W : W3) : T3S := (ret3 (op3 ix3 (var3 1) (call3 (sp_pick K a) W 2 0 (fun ds _ => ds) (cons3 (var3 0) (cons3 (cb3 len3 (cons3 (var3 1) nil3)) nil3)) nil3)))
def rd_choice (K : PySem.W.Frag) (a : Ad) (W : W3) : T3S := (rd_choice_0 K a W)
theorem dv_choice {P : Program} {w : World} {K : PySem.W.Frag} {mg : Str → Option Value} {base : Heap} {a : Ad} {d : Fd} (T : Txt K mg a d) (wlp : ∀ ds G Q E, (sp_choice K a) ds G Q E → ds.length = 2)
    (h : ∀ (ds : List D) (G : H3) (Q : K3) (E : X3), (sp_choice K a) ds G Q E → rd_choice K a (ex3 E) (ends3 Q) (start3 N_choice ds) G) : Fk P w K mg base 2 a.f_choice d.f_choice ["_law_bag_here", "_law_things"] (sp_choice K a) :=
  fn3 T.F_choice sc_choice wlp fun cdv A outer s H E B E3 hr tk po => by
    have sc := sc_choice
    have hu64 := hr.units
    have hu1 := hu_of hr
    refine ⟨rd_choice K a (ex3 E3), ?_, fun ds G Q h' => h ds G Q E3 h'⟩
    exact (b_one (s_ret (e_ix hu1 (e_var 1) (e_call (ok_pick T) (hr.mono (by decide)) tk T.g_pick T.F_pick.kp (ab_pick T) (a_cons (e_var 0) (a_cons (e_cb c_len T.n_len (by decide +kernel) (a_cons (e_var 1) a_nil)) a_nil))))))

theorem ok_choice {P : Program} {w : World} {K : PySem.W.Frag} {mg : Str → Option Value} {base : Heap} {a : Ad} {d : Fd} (T : Txt K mg a d) : Fk P w K mg base 2 a.f_choice d.f_choice ["_law_bag_here", "_law_things"] (sp_choice K a) :=
  dv_choice T (by rintro _ _ _ _ ⟨b, n, rfl, _⟩; rfl) fun ds G Q E h => by
    obtain ⟨b, xs, rfl, hb, ⟨hl, hl2⟩, hq⟩ := h
    show rd_choice K a _ (ends3 Q) [some (.ref b), some (.lst xs)] G
    unfold rd_choice rd_choice_0
    simp only [var3, con3, op3, un3, tst3, chain3, tru3, vno3, van3, vo3, not3, and3, or3, ite3, nil3, cons3, tup3, lst3, lsf3, nx3, seq3, brk3, cnt3, drop3, ret3, retn3, ifs3, set3, asg3, gn3, gnil3, gcons3, gtup3, for3, ilst3, itup3, irng1, irng2, call3, fld3, sfld3, meth3, make3, raise3, frz3, try3, wTry3, inSuite3, outOf3, xfld3, cb3, isx, bml3, isl, app3, gsub3, st3, dic3, prs3, dkeys, newl, finv, view3, lcg3, id, bag_c, bag_a, bag_r, bag_m, bag_n, bag_pa, bag_pr, bag_pm, bag_pn, bag_len, up_same, up_up, at3_0, at3_1, at3_2, toNat_2, Int.toNat_zero, Int.toNat_one, istru_bl, istru_int, istru_non, istru_tup, istru_lst, istru_kls, istru_str, add3_ii, add3_ss, add3_tt, sub3_ii, mul3_ii, fdv3_ii, mod3_ii, pow3_ii, neg3_i, eqn3_ii, eqn3_ss, eqn3_bb, eqn3_tup, eqn3_lst, eqn3_non, cmi3_ii, isn3_bb, isn3_nn, isn3_on, isn3_tn, isn3_in, isn3_sn, isn3_rn, isn3_ln, isn3_bn, ix3_lst, ix3_kls, ix3_tup, ix3_ri, ix3_rs, opt3_some, getf_obj, seqj_lst, seqj_kls, seqj_ref, tupj_tup, len3_lst, len3_kls, len3_tup, len3_str, len3_ref, int3_i, int3_b, abs3_i, str3_i, lisf3_lst, lisf3_kls, lisf3_tup, list3_lst, list3_kls, list3_tup, tuple3_lst, tuple3_kls, tuple3_tup, isi_2, typ_non, typ_bl, typ_int, typ_str, typ_tup, typ_lst, typ_kls, typ_obj, typok_ty, typok_ref, clsv_ty, clsv_ref, eqo3_obj, onlyb_bl, adl3_ll, all3_lst, List.set_cons_zero, List.set_cons_succ, List.getElem?_cons_zero, List.getElem?_cons_succ, List.map_cons, List.map_nil, List.length_cons, List.length_nil, if_true, if_false, reduceIte, reduceCtorEq, Option.map_some, Option.some.injEq, and_true, true_and, List.cons_append, List.nil_append, Nat.reduceAdd, Nat.reduceLeDiff, Nat.reduceEqDiff, exists_eq_left', exists_eq_left, exists_and_left, exists_eq_right, exists_and_right, exists_const, Bool.not_true, Bool.not_false, kt_NoneType_int, kt_NoneType_bool, kt_NoneType_str, kt_NoneType_tuple, kt_NoneType_list, kt_NoneType_dict, kt_bool_int, kt_bool_bool, kt_bool_str, kt_bool_tuple, kt_bool_list, kt_bool_dict, kt_int_int, kt_int_bool, kt_int_str, kt_int_tuple, kt_int_list, kt_int_dict, kt_str_int, kt_str_bool, kt_str_str, kt_str_tuple, kt_str_list, kt_str_dict, kt_tuple_int, kt_tuple_bool, kt_tuple_str, kt_tuple_tuple, kt_tuple_list, kt_tuple_dict, kt_list_int, kt_list_bool, kt_list_str, kt_list_tuple, kt_list_list, kt_list_dict, kt_dict_int, kt_dict_bool, kt_dict_str, kt_dict_tuple, kt_dict_list, kt_dict_dict]
    refine ⟨b, _, rfl, hb, ⟨by omega, log_ok (by omega) (by omega)⟩, fun r G' hr hG' => ?_⟩
    obtain ⟨d, hd, hm⟩ := at3_mem (xs := xs) hr.1 hr.2
    simp only [var3, con3, op3, un3, tst3, chain3, tru3, vno3, van3, vo3, not3, and3, or3, ite3, nil3, cons3, tup3, lst3, lsf3, nx3, seq3, brk3, cnt3, drop3, ret3, retn3, ifs3, set3, asg3, gn3, gnil3, gcons3, gtup3, for3, ilst3, itup3, irng1, irng2, call3, fld3, sfld3, meth3, make3, raise3, frz3, try3, wTry3, inSuite3, outOf3, xfld3, cb3, isx, bml3, isl, app3, gsub3, st3, dic3, prs3, dkeys, newl, finv, view3, lcg3, id, bag_c, bag_a, bag_r, bag_m, bag_n, bag_pa, bag_pr, bag_pm, bag_pn, bag_len, up_same, up_up, at3_0, at3_1, at3_2, toNat_2, Int.toNat_zero, Int.toNat_one, istru_bl, istru_int, istru_non, istru_tup, istru_lst, istru_kls, istru_str, add3_ii, add3_ss, add3_tt, sub3_ii, mul3_ii, fdv3_ii, mod3_ii, pow3_ii, neg3_i, eqn3_ii, eqn3_ss, eqn3_bb, eqn3_tup, eqn3_lst, eqn3_non, cmi3_ii, isn3_bb, isn3_nn, isn3_on, isn3_tn, isn3_in, isn3_sn, isn3_rn, isn3_ln, isn3_bn, ix3_lst, ix3_kls, ix3_tup, ix3_ri, ix3_rs, opt3_some, getf_obj, seqj_lst, seqj_kls, seqj_ref, tupj_tup, len3_lst, len3_kls, len3_tup, len3_str, len3_ref, int3_i, int3_b, abs3_i, str3_i, lisf3_lst, lisf3_kls, lisf3_tup, list3_lst, list3_kls, list3_tup, tuple3_lst, tuple3_kls, tuple3_tup, isi_2, typ_non, typ_bl, typ_int, typ_str, typ_tup, typ_lst, typ_kls, typ_obj, typok_ty, typok_ref, clsv_ty, clsv_ref, eqo3_obj, onlyb_bl, adl3_ll, all3_lst, List.set_cons_zero, List.set_cons_succ, List.getElem?_cons_zero, List.getElem?_cons_succ, List.map_cons, List.map_nil, List.length_cons, List.length_nil, if_true, if_false, reduceIte, reduceCtorEq, Option.map_some, Option.some.injEq, and_true, true_and, List.cons_append, List.nil_append, Nat.reduceAdd, Nat.reduceLeDiff, Nat.reduceEqDiff, exists_eq_left', exists_eq_left, exists_and_left, exists_eq_right, exists_and_right, exists_const, Bool.not_true, Bool.not_false, kt_NoneType_int, kt_NoneType_bool, kt_NoneType_str, kt_NoneType_tuple, kt_NoneType_list, kt_NoneType_dict, kt_bool_int, kt_bool_bool, kt_bool_str, kt_bool_tuple, kt_bool_list, kt_bool_dict, kt_int_int, kt_int_bool, kt_int_str, kt_int_tuple, kt_int_list, kt_int_dict, kt_str_int, kt_str_bool, kt_str_str, kt_str_tuple, kt_str_list, kt_str_dict, kt_tuple_int, kt_tuple_bool, kt_tuple_str, kt_tuple_tuple, kt_tuple_list, kt_tuple_dict, kt_list_int, kt_list_bool, kt_list_str, kt_list_tuple, kt_list_list, kt_list_dict, kt_dict_int, kt_dict_bool, kt_dict_str, kt_dict_tuple, kt_dict_list, kt_dict_dict, hd]
    exact rt_same (hq _ _ hm hG')

end K52

namespace K52
open PySem PySem.Spec PyProof.Rows L2 T3

abbrev sp_one_in (K : PySem.W.Frag) (a : Ad) : Sp3 := spOneIn

/- return _law_pick(_law_bag_here, _law_many_here) == 0 -/
def rd_one_in_0 (K : PySem.W.Frag) (a : Ad) (W : W3) : T3S := (ret3 (op3 eq3 (call3 (sp_pick K a) W 2 0 (fun ds _ => ds) (cons3 (var3 0) (cons3 (var3 1) nil3)) nil3) (con3 (.int 0))))
def rd_one_in (K : PySem.W.Frag) (a : Ad) (W : W3) : T3S := (rd_one_in_0 K a W)
theorem dv_one_in {P : Program} {w : World} {K : PySem.W.Frag} {mg : Str → Option Value} {base : Heap} {a : Ad} {d : Fd} (T : Txt K mg a d) (wlp : ∀ ds G Q E, (sp_one_in K a) ds G Q E → ds.length = 2)
    (h : ∀ (ds : List D) (G : H3) (Q : K3) (E : X3), (sp_one_in K a) ds G Q E → rd_one_in K a (ex3 E) (ends3 Q) (start3 N_one_in ds) G) : Fk P w K mg base 2 a.f_one_in d.f_one_in ["_law_bag_here", "_law_many_here"] (sp_one_in K a) :=
  fn3 T.F_one_in sc_one_in wlp fun cdv A outer s H E B E3 hr tk po => by
    have sc := sc_one_in
    have hu64 := hr.units
    have hu1 := hu_of hr
    refine ⟨rd_one_in K a (ex3 E3), ?_, fun ds G Q h' => h ds G Q E3 h'⟩
    exact (b_one (s_ret (e_cmp (o_eq hu64) (e_call (ok_pick T) (hr.mono (by decide)) tk T.g_pick T.F_pick.kp (ab_pick T) (a_cons (e_var 0) (a_cons (e_var 1) a_nil))) e_int)))

theorem ok_one_in {P : Program} {w : World} {K : PySem.W.Frag} {mg : Str → Option Value} {base : Heap} {a : Ad} {d : Fd} (T : Txt K mg a d) : Fk P w K mg base 2 a.f_one_in d.f_one_in ["_law_bag_here", "_law_many_here"] (sp_one_in K a) :=
  dv_one_in T (by rintro _ _ _ _ ⟨b, n, rfl, _⟩; rfl) fun ds G Q E h => by
    obtain ⟨b, n, rfl, hb, hn, hq⟩ := h
    show rd_one_in K a _ (ends3 Q) [some (.ref b), some (.int n)] G
    unfold rd_one_in rd_one_in_0
    simp only [var3, con3, op3, un3, tst3, chain3, tru3, vno3, van3, vo3, not3, and3, or3, ite3, nil3, cons3, tup3, lst3, lsf3, nx3, seq3, brk3, cnt3, drop3, ret3, retn3, ifs3, set3, asg3, gn3, gnil3, gcons3, gtup3, for3, ilst3, itup3, irng1, irng2, call3, fld3, sfld3, meth3, make3, raise3, frz3, try3, wTry3, inSuite3, outOf3, xfld3, cb3, isx, bml3, isl, app3, gsub3, st3, dic3, prs3, dkeys, newl, finv, view3, lcg3, id, bag_c, bag_a, bag_r, bag_m, bag_n, bag_pa, bag_pr, bag_pm, bag_pn, bag_len, up_same, up_up, at3_0, at3_1, at3_2, toNat_2, Int.toNat_zero, Int.toNat_one, istru_bl, istru_int, istru_non, istru_tup, istru_lst, istru_kls, istru_str, add3_ii, add3_ss, add3_tt, sub3_ii, mul3_ii, fdv3_ii, mod3_ii, pow3_ii, neg3_i, eqn3_ii, eqn3_ss, eqn3_bb, eqn3_tup, eqn3_lst, eqn3_non, cmi3_ii, isn3_bb, isn3_nn, isn3_on, isn3_tn, isn3_in, isn3_sn, isn3_rn, isn3_ln, isn3_bn, ix3_lst, ix3_kls, ix3_tup, ix3_ri, ix3_rs, opt3_some, getf_obj, seqj_lst, seqj_kls, seqj_ref, tupj_tup, len3_lst, len3_kls, len3_tup, len3_str, len3_ref, int3_i, int3_b, abs3_i, str3_i, lisf3_lst, lisf3_kls, lisf3_tup, list3_lst, list3_kls, list3_tup, tuple3_lst, tuple3_kls, tuple3_tup, isi_2, typ_non, typ_bl, typ_int, typ_str, typ_tup, typ_lst, typ_kls, typ_obj, typok_ty, typok_ref, clsv_ty, clsv_ref, eqo3_obj, onlyb_bl, adl3_ll, all3_lst, List.set_cons_zero, List.set_cons_succ, List.getElem?_cons_zero, List.getElem?_cons_succ, List.map_cons, List.map_nil, List.length_cons, List.length_nil, if_true, if_false, reduceIte, reduceCtorEq, Option.map_some, Option.some.injEq, and_true, true_and, List.cons_append, List.nil_append, Nat.reduceAdd, Nat.reduceLeDiff, Nat.reduceEqDiff, exists_eq_left', exists_eq_left, exists_and_left, exists_eq_right, exists_and_right, exists_const, Bool.not_true, Bool.not_false, kt_NoneType_int, kt_NoneType_bool, kt_NoneType_str, kt_NoneType_tuple, kt_NoneType_list, kt_NoneType_dict, kt_bool_int, kt_bool_bool, kt_bool_str, kt_bool_tuple, kt_bool_list, kt_bool_dict, kt_int_int, kt_int_bool, kt_int_str, kt_int_tuple, kt_int_list, kt_int_dict, kt_str_int, kt_str_bool, kt_str_str, kt_str_tuple, kt_str_list, kt_str_dict, kt_tuple_int, kt_tuple_bool, kt_tuple_str, kt_tuple_tuple, kt_tuple_list, kt_tuple_dict, kt_list_int, kt_list_bool, kt_list_str, kt_list_tuple, kt_list_list, kt_list_dict, kt_dict_int, kt_dict_bool, kt_dict_str, kt_dict_tuple, kt_dict_list, kt_dict_dict]
    exact ⟨b, n, rfl, hb, hn, fun r G' hr hG' => rt_same (hq _ _ hG')⟩

end K52

namespace K52
open PySem PySem.Spec PyProof.Rows L2 T3

def sp_integer (K : PySem.W.Frag) (a : Ad) : Sp3 := fun ds G Q _ => ∃ d b, ds = [d] ∧ isint d = some b ∧ Q (.bl b) G

/- return isinstance(_law_thing, int) and (not isinstance(_law_thing, bool)) -/
def rd_integer_0 (K : PySem.W.Frag) (a : Ad) (W : W3) : T3S := (ret3 (van3 (cb3 (isi K) (cons3 (var3 0) (cons3 (con3 (.ty "int")) nil3))) (vno3 (cb3 (isi K) (cons3 (var3 0) (cons3 (con3 (.ty "bool")) nil3))))))
def rd_integer (K : PySem.W.Frag) (a : Ad) (W : W3) : T3S := (rd_integer_0 K a W)
theorem dv_integer {P : Program} {w : World} {K : PySem.W.Frag} {mg : Str → Option Value} {base : Heap} {a : Ad} {d : Fd} (T : Txt K mg a d) (wlp : ∀ ds G Q E, (sp_integer K a) ds G Q E → ds.length = 1)
    (h : ∀ (ds : List D) (G : H3) (Q : K3) (E : X3), (sp_integer K a) ds G Q E → rd_integer K a (ex3 E) (ends3 Q) (start3 N_integer ds) G) : Fk P w K mg base 1 a.f_integer d.f_integer ["_law_thing"] (sp_integer K a) :=
  fn3 T.F_integer sc_integer wlp fun cdv A outer s H E B E3 hr tk po => by
    have sc := sc_integer
    have hu64 := hr.units
    have hu1 := hu_of hr
    refine ⟨rd_integer K a (ex3 E3), ?_, fun ds G Q h' => h ds G Q E3 h'⟩
    exact (b_one (s_ret (e_and (e_cb c_isi T.n_isinstance (by decide +kernel) (a_cons (e_var 0) (a_cons (e_bty (by rfl) T.n_int (by decide +kernel)) a_nil))) (e_one (e_not (e_cb c_isi T.n_isinstance (by decide +kernel) (a_cons (e_var 0) (a_cons (e_bty (by rfl) T.n_bool (by decide +kernel)) a_nil))))))))

theorem ok_integer {P : Program} {w : World} {K : PySem.W.Frag} {mg : Str → Option Value} {base : Heap} {a : Ad} {d : Fd} (T : Txt K mg a d) : Fk P w K mg base 1 a.f_integer d.f_integer ["_law_thing"] (sp_integer K a) :=
  dv_integer T (by rintro _ _ _ _ ⟨d, b, rfl, _⟩; rfl) fun ds G Q E h => by
    obtain ⟨d, b, rfl, hd, hq⟩ := h
    show rd_integer K a _ (ends3 Q) [some d] G
    unfold rd_integer rd_integer_0
    cases d <;> simp only [isint] at hd <;> cases hd <;> simp only [var3, con3, op3, un3, tst3, chain3, tru3, vno3, van3, vo3, not3, and3, or3, ite3, nil3, cons3, tup3, lst3, lsf3, nx3, seq3, brk3, cnt3, drop3, ret3, retn3, ifs3, set3, asg3, gn3, gnil3, gcons3, gtup3, for3, ilst3, itup3, irng1, irng2, call3, fld3, sfld3, meth3, make3, raise3, frz3, try3, wTry3, inSuite3, outOf3, xfld3, cb3, isx, bml3, isl, app3, gsub3, st3, dic3, prs3, dkeys, newl, finv, view3, lcg3, id, bag_c, bag_a, bag_r, bag_m, bag_n, bag_pa, bag_pr, bag_pm, bag_pn, bag_len, up_same, up_up, at3_0, at3_1, at3_2, toNat_2, Int.toNat_zero, Int.toNat_one, istru_bl, istru_int, istru_non, istru_tup, istru_lst, istru_kls, istru_str, add3_ii, add3_ss, add3_tt, sub3_ii, mul3_ii, fdv3_ii, mod3_ii, pow3_ii, neg3_i, eqn3_ii, eqn3_ss, eqn3_bb, eqn3_tup, eqn3_lst, eqn3_non, cmi3_ii, isn3_bb, isn3_nn, isn3_on, isn3_tn, isn3_in, isn3_sn, isn3_rn, isn3_ln, isn3_bn, ix3_lst, ix3_kls, ix3_tup, ix3_ri, ix3_rs, opt3_some, getf_obj, seqj_lst, seqj_kls, seqj_ref, tupj_tup, len3_lst, len3_kls, len3_tup, len3_str, len3_ref, int3_i, int3_b, abs3_i, str3_i, lisf3_lst, lisf3_kls, lisf3_tup, list3_lst, list3_kls, list3_tup, tuple3_lst, tuple3_kls, tuple3_tup, isi_2, typ_non, typ_bl, typ_int, typ_str, typ_tup, typ_lst, typ_kls, typ_obj, typok_ty, typok_ref, clsv_ty, clsv_ref, eqo3_obj, onlyb_bl, adl3_ll, all3_lst, List.set_cons_zero, List.set_cons_succ, List.getElem?_cons_zero, List.getElem?_cons_succ, List.map_cons, List.map_nil, List.length_cons, List.length_nil, if_true, if_false, reduceIte, reduceCtorEq, Option.map_some, Option.some.injEq, and_true, true_and, List.cons_append, List.nil_append, Nat.reduceAdd, Nat.reduceLeDiff, Nat.reduceEqDiff, exists_eq_left', exists_eq_left, exists_and_left, exists_eq_right, exists_and_right, exists_const, Bool.not_true, Bool.not_false, kt_NoneType_int, kt_NoneType_bool, kt_NoneType_str, kt_NoneType_tuple, kt_NoneType_list, kt_NoneType_dict, kt_bool_int, kt_bool_bool, kt_bool_str, kt_bool_tuple, kt_bool_list, kt_bool_dict, kt_int_int, kt_int_bool, kt_int_str, kt_int_tuple, kt_int_list, kt_int_dict, kt_str_int, kt_str_bool, kt_str_str, kt_str_tuple, kt_str_list, kt_str_dict, kt_tuple_int, kt_tuple_bool, kt_tuple_str, kt_tuple_tuple, kt_tuple_list, kt_tuple_dict, kt_list_int, kt_list_bool, kt_list_str, kt_list_tuple, kt_list_list, kt_list_dict, kt_dict_int, kt_dict_bool, kt_dict_str, kt_dict_tuple, kt_dict_list, kt_dict_dict]
    all_goals exact rt_same hq

end K52

namespace K52
open PySem PySem.Spec PyProof.Rows L2 T3

def sp_price (K : PySem.W.Frag) (a : Ad) : Sp3 := fun ds G Q _ => ∃ b, ds = [.ref b] ∧ Bag b G ∧ ∀ n G', (0 ≤ n ∧ n ≤ 1000) → BagTo b G G' → Q (.int n) G'

/- return _law_choice(_law_bag_here, [0, 1, 2, 999, 1000]) -/
def rd_price_0 (K : PySem.W.Frag) (a : Ad) (W : W3) : T3S := (ret3 (call3 (sp_choice K a) W 2 0 (fun ds _ => ds) (cons3 (var3 0) (cons3 (lsf3 (cons3 (con3 (.int 0)) (cons3 (con3 (.int 1)) (cons3 (con3 (.int 2)) (cons3 (con3 (.int 999)) (cons3 (con3 (.int 1000)) nil3)))))) nil3)) nil3))
/- return _law_pick(_law_bag_here, 6) -/
def rd_price_1 (K : PySem.W.Frag) (a : Ad) (W : W3) : T3S := (ret3 (call3 (sp_pick K a) W 2 0 (fun ds _ => ds) (cons3 (var3 0) (cons3 (con3 (.int 6)) nil3)) nil3))
/- _law_way = _law_pick(_law_bag_here, 4) -/
def rd_price_2 (K : PySem.W.Frag) (a : Ad) (W : W3) : T3S := (set3 1 (call3 (sp_pick K a) W 2 0 (fun ds _ => ds) (cons3 (var3 0) (cons3 (con3 (.int 4)) nil3)) nil3))
/- if _law_way == 0: -/
def rd_price_3 (K : PySem.W.Frag) (a : Ad) (W : W3) : T3S := (ifs3 (tst3 (op3 eq3 (var3 1) (con3 (.int 0)))) (rd_price_0 K a W) nx3)
/- if _law_way == 1: -/
def rd_price_4 (K : PySem.W.Frag) (a : Ad) (W : W3) : T3S := (ifs3 (tst3 (op3 eq3 (var3 1) (con3 (.int 1)))) (rd_price_1 K a W) nx3)
/- return _law_pick(_law_bag_here, 1001) -/
def rd_price_5 (K : PySem.W.Frag) (a : Ad) (W : W3) : T3S := (ret3 (call3 (sp_pick K a) W 2 0 (fun ds _ => ds) (cons3 (var3 0) (cons3 (con3 (.int 1001)) nil3)) nil3))
def rd_price (K : PySem.W.Frag) (a : Ad) (W : W3) : T3S := (seq3 (rd_price_2 K a W) (seq3 (rd_price_3 K a W) (seq3 (rd_price_4 K a W) (rd_price_5 K a W))))
theorem dv_price {P : Program} {w : World} {K : PySem.W.Frag} {mg : Str → Option Value} {base : Heap} {a : Ad} {d : Fd} (T : Txt K mg a d) (wlp : ∀ ds G Q E, (sp_price K a) ds G Q E → ds.length = 1)
    (h : ∀ (ds : List D) (G : H3) (Q : K3) (E : X3), (sp_price K a) ds G Q E → rd_price K a (ex3 E) (ends3 Q) (start3 N_price ds) G) : Fk P w K mg base 3 a.f_price d.f_price ["_law_bag_here"] (sp_price K a) :=
  fn3 T.F_price sc_price wlp fun cdv A outer s H E B E3 hr tk po => by
    have sc := sc_price
    have hu64 := hr.units
    have hu1 := hu_of hr
    refine ⟨rd_price K a (ex3 E3), ?_, fun ds G Q h' => h ds G Q E3 h'⟩
    exact (b_cons (s_set 1 sc.nd (e_call (ok_pick T) (hr.mono (by decide)) tk T.g_pick T.F_pick.kp (ab_pick T) (a_cons (e_var 0) (a_cons e_int a_nil)))) (b_cons (s_if (p_cmp (o_eq hu64) (e_var 1) e_int) (b_one (s_ret (e_call (ok_choice T) (hr.mono (by decide)) tk T.g_choice T.F_choice.kp (ab_choice T) (a_cons (e_var 0) (a_cons (e_lsf (a_cons e_int (a_cons e_int (a_cons e_int (a_cons e_int (a_cons e_int a_nil)))))) a_nil))))) b_nil) (b_cons (s_if (p_cmp (o_eq hu64) (e_var 1) e_int) (b_one (s_ret (e_call (ok_pick T) (hr.mono (by decide)) tk T.g_pick T.F_pick.kp (ab_pick T) (a_cons (e_var 0) (a_cons e_int a_nil))))) b_nil) (b_one (s_ret (e_call (ok_pick T) (hr.mono (by decide)) tk T.g_pick T.F_pick.kp (ab_pick T) (a_cons (e_var 0) (a_cons e_int a_nil))))))))

theorem ok_price {P : Program} {w : World} {K : PySem.W.Frag} {mg : Str → Option Value} {base : Heap} {a : Ad} {d : Fd} (T : Txt K mg a d) : Fk P w K mg base 3 a.f_price d.f_price ["_law_bag_here"] (sp_price K a) :=
  dv_price T (by rintro _ _ _ _ ⟨_, rfl, _⟩; rfl) fun ds G Q E h => by
    obtain ⟨b, rfl, hb, hq⟩ := h
    show rd_price K a _ (ends3 Q) [some (.ref b), none] G
    unfold rd_price rd_price_2
    simp only [var3, con3, op3, un3, tst3, chain3, tru3, vno3, van3, vo3, not3, and3, or3, ite3, nil3, cons3, tup3, lst3, lsf3, nx3, seq3, brk3, cnt3, drop3, ret3, retn3, ifs3, set3, asg3, gn3, gnil3, gcons3, gtup3, for3, ilst3, itup3, irng1, irng2, call3, fld3, sfld3, meth3, make3, raise3, frz3, try3, wTry3, inSuite3, outOf3, xfld3, cb3, isx, bml3, isl, app3, gsub3, st3, dic3, prs3, dkeys, newl, finv, view3, lcg3, id, bag_c, bag_a, bag_r, bag_m, bag_n, bag_pa, bag_pr, bag_pm, bag_pn, bag_len, up_same, up_up, at3_0, at3_1, at3_2, toNat_2, Int.toNat_zero, Int.toNat_one, istru_bl, istru_int, istru_non, istru_tup, istru_lst, istru_kls, istru_str, add3_ii, add3_ss, add3_tt, sub3_ii, mul3_ii, fdv3_ii, mod3_ii, pow3_ii, neg3_i, eqn3_ii, eqn3_ss, eqn3_bb, eqn3_tup, eqn3_lst, eqn3_non, cmi3_ii, isn3_bb, isn3_nn, isn3_on, isn3_tn, isn3_in, isn3_sn, isn3_rn, isn3_ln, isn3_bn, ix3_lst, ix3_kls, ix3_tup, ix3_ri, ix3_rs, opt3_some, getf_obj, seqj_lst, seqj_kls, seqj_ref, tupj_tup, len3_lst, len3_kls, len3_tup, len3_str, len3_ref, int3_i, int3_b, abs3_i, str3_i, lisf3_lst, lisf3_kls, lisf3_tup, list3_lst, list3_kls, list3_tup, tuple3_lst, tuple3_kls, tuple3_tup, isi_2, typ_non, typ_bl, typ_int, typ_str, typ_tup, typ_lst, typ_kls, typ_obj, typok_ty, typok_ref, clsv_ty, clsv_ref, eqo3_obj, onlyb_bl, adl3_ll, all3_lst, List.set_cons_zero, List.set_cons_succ, List.getElem?_cons_zero, List.getElem?_cons_succ, List.map_cons, List.map_nil, List.length_cons, List.length_nil, if_true, if_false, reduceIte, reduceCtorEq, Option.map_some, Option.some.injEq, and_true, true_and, List.cons_append, List.nil_append, Nat.reduceAdd, Nat.reduceLeDiff, Nat.reduceEqDiff, exists_eq_left', exists_eq_left, exists_and_left, exists_eq_right, exists_and_right, exists_const, Bool.not_true, Bool.not_false, kt_NoneType_int, kt_NoneType_bool, kt_NoneType_str, kt_NoneType_tuple, kt_NoneType_list, kt_NoneType_dict, kt_bool_int, kt_bool_bool, kt_bool_str, kt_bool_tuple, kt_bool_list, kt_bool_dict, kt_int_int, kt_int_bool, kt_int_str, kt_int_tuple, kt_int_list, kt_int_dict, kt_str_int, kt_str_bool, kt_str_str, kt_str_tuple, kt_str_list, kt_str_dict, kt_tuple_int, kt_tuple_bool, kt_tuple_str, kt_tuple_tuple, kt_tuple_list, kt_tuple_dict, kt_list_int, kt_list_bool, kt_list_str, kt_list_tuple, kt_list_list, kt_list_dict, kt_dict_int, kt_dict_bool, kt_dict_str, kt_dict_tuple, kt_dict_list, kt_dict_dict]
    refine ⟨b, 4, rfl, hb, ⟨by decide, by decide⟩, fun r G1 hr h1 => ?_⟩
    unfold rd_price_3
    simp only [var3, con3, op3, un3, tst3, chain3, tru3, vno3, van3, vo3, not3, and3, or3, ite3, nil3, cons3, tup3, lst3, lsf3, nx3, seq3, brk3, cnt3, drop3, ret3, retn3, ifs3, set3, asg3, gn3, gnil3, gcons3, gtup3, for3, ilst3, itup3, irng1, irng2, call3, fld3, sfld3, meth3, make3, raise3, frz3, try3, wTry3, inSuite3, outOf3, xfld3, cb3, isx, bml3, isl, app3, gsub3, st3, dic3, prs3, dkeys, newl, finv, view3, lcg3, id, bag_c, bag_a, bag_r, bag_m, bag_n, bag_pa, bag_pr, bag_pm, bag_pn, bag_len, up_same, up_up, at3_0, at3_1, at3_2, toNat_2, Int.toNat_zero, Int.toNat_one, istru_bl, istru_int, istru_non, istru_tup, istru_lst, istru_kls, istru_str, add3_ii, add3_ss, add3_tt, sub3_ii, mul3_ii, fdv3_ii, mod3_ii, pow3_ii, neg3_i, eqn3_ii, eqn3_ss, eqn3_bb, eqn3_tup, eqn3_lst, eqn3_non, cmi3_ii, isn3_bb, isn3_nn, isn3_on, isn3_tn, isn3_in, isn3_sn, isn3_rn, isn3_ln, isn3_bn, ix3_lst, ix3_kls, ix3_tup, ix3_ri, ix3_rs, opt3_some, getf_obj, seqj_lst, seqj_kls, seqj_ref, tupj_tup, len3_lst, len3_kls, len3_tup, len3_str, len3_ref, int3_i, int3_b, abs3_i, str3_i, lisf3_lst, lisf3_kls, lisf3_tup, list3_lst, list3_kls, list3_tup, tuple3_lst, tuple3_kls, tuple3_tup, isi_2, typ_non, typ_bl, typ_int, typ_str, typ_tup, typ_lst, typ_kls, typ_obj, typok_ty, typok_ref, clsv_ty, clsv_ref, eqo3_obj, onlyb_bl, adl3_ll, all3_lst, List.set_cons_zero, List.set_cons_succ, List.getElem?_cons_zero, List.getElem?_cons_succ, List.map_cons, List.map_nil, List.length_cons, List.length_nil, if_true, if_false, reduceIte, reduceCtorEq, Option.map_some, Option.some.injEq, and_true, true_and, List.cons_append, List.nil_append, Nat.reduceAdd, Nat.reduceLeDiff, Nat.reduceEqDiff, exists_eq_left', exists_eq_left, exists_and_left, exists_eq_right, exists_and_right, exists_const, Bool.not_true, Bool.not_false, kt_NoneType_int, kt_NoneType_bool, kt_NoneType_str, kt_NoneType_tuple, kt_NoneType_list, kt_NoneType_dict, kt_bool_int, kt_bool_bool, kt_bool_str, kt_bool_tuple, kt_bool_list, kt_bool_dict, kt_int_int, kt_int_bool, kt_int_str, kt_int_tuple, kt_int_list, kt_int_dict, kt_str_int, kt_str_bool, kt_str_str, kt_str_tuple, kt_str_list, kt_str_dict, kt_tuple_int, kt_tuple_bool, kt_tuple_str, kt_tuple_tuple, kt_tuple_list, kt_tuple_dict, kt_list_int, kt_list_bool, kt_list_str, kt_list_tuple, kt_list_list, kt_list_dict, kt_dict_int, kt_dict_bool, kt_dict_str, kt_dict_tuple, kt_dict_list, kt_dict_dict]
    by_cases c1 : r = 0
    · simp only [c1, decide_true, if_true]
      unfold rd_price_0
      simp only [var3, con3, op3, un3, tst3, chain3, tru3, vno3, van3, vo3, not3, and3, or3, ite3, nil3, cons3, tup3, lst3, lsf3, nx3, seq3, brk3, cnt3, drop3, ret3, retn3, ifs3, set3, asg3, gn3, gnil3, gcons3, gtup3, for3, ilst3, itup3, irng1, irng2, call3, fld3, sfld3, meth3, make3, raise3, frz3, try3, wTry3, inSuite3, outOf3, xfld3, cb3, isx, bml3, isl, app3, gsub3, st3, dic3, prs3, dkeys, newl, finv, view3, lcg3, id, bag_c, bag_a, bag_r, bag_m, bag_n, bag_pa, bag_pr, bag_pm, bag_pn, bag_len, up_same, up_up, at3_0, at3_1, at3_2, toNat_2, Int.toNat_zero, Int.toNat_one, istru_bl, istru_int, istru_non, istru_tup, istru_lst, istru_kls, istru_str, add3_ii, add3_ss, add3_tt, sub3_ii, mul3_ii, fdv3_ii, mod3_ii, pow3_ii, neg3_i, eqn3_ii, eqn3_ss, eqn3_bb, eqn3_tup, eqn3_lst, eqn3_non, cmi3_ii, isn3_bb, isn3_nn, isn3_on, isn3_tn, isn3_in, isn3_sn, isn3_rn, isn3_ln, isn3_bn, ix3_lst, ix3_kls, ix3_tup, ix3_ri, ix3_rs, opt3_some, getf_obj, seqj_lst, seqj_kls, seqj_ref, tupj_tup, len3_lst, len3_kls, len3_tup, len3_str, len3_ref, int3_i, int3_b, abs3_i, str3_i, lisf3_lst, lisf3_kls, lisf3_tup, list3_lst, list3_kls, list3_tup, tuple3_lst, tuple3_kls, tuple3_tup, isi_2, typ_non, typ_bl, typ_int, typ_str, typ_tup, typ_lst, typ_kls, typ_obj, typok_ty, typok_ref, clsv_ty, clsv_ref, eqo3_obj, onlyb_bl, adl3_ll, all3_lst, List.set_cons_zero, List.set_cons_succ, List.getElem?_cons_zero, List.getElem?_cons_succ, List.map_cons, List.map_nil, List.length_cons, List.length_nil, if_true, if_false, reduceIte, reduceCtorEq, Option.map_some, Option.some.injEq, and_true, true_and, List.cons_append, List.nil_append, Nat.reduceAdd, Nat.reduceLeDiff, Nat.reduceEqDiff, exists_eq_left', exists_eq_left, exists_and_left, exists_eq_right, exists_and_right, exists_const, Bool.not_true, Bool.not_false, kt_NoneType_int, kt_NoneType_bool, kt_NoneType_str, kt_NoneType_tuple, kt_NoneType_list, kt_NoneType_dict, kt_bool_int, kt_bool_bool, kt_bool_str, kt_bool_tuple, kt_bool_list, kt_bool_dict, kt_int_int, kt_int_bool, kt_int_str, kt_int_tuple, kt_int_list, kt_int_dict, kt_str_int, kt_str_bool, kt_str_str, kt_str_tuple, kt_str_list, kt_str_dict, kt_tuple_int, kt_tuple_bool, kt_tuple_str, kt_tuple_tuple, kt_tuple_list, kt_tuple_dict, kt_list_int, kt_list_bool, kt_list_str, kt_list_tuple, kt_list_list, kt_list_dict, kt_dict_int, kt_dict_bool, kt_dict_str, kt_dict_tuple, kt_dict_list, kt_dict_dict]
      refine ⟨b, _, rfl, h1.bag, ⟨by decide, by decide⟩, fun d G2 hd h2 => ?_⟩
      simp only [List.mem_cons, List.not_mem_nil, or_false] at hd
      rcases hd with rfl | rfl | rfl | rfl | rfl <;> exact rt_same (hq _ _ (by decide) (h1.trans h2))
    · simp only [c1, decide_false, if_false, Bool.false_eq_true]
      unfold rd_price_4
      simp only [var3, con3, op3, un3, tst3, chain3, tru3, vno3, van3, vo3, not3, and3, or3, ite3, nil3, cons3, tup3, lst3, lsf3, nx3, seq3, brk3, cnt3, drop3, ret3, retn3, ifs3, set3, asg3, gn3, gnil3, gcons3, gtup3, for3, ilst3, itup3, irng1, irng2, call3, fld3, sfld3, meth3, make3, raise3, frz3, try3, wTry3, inSuite3, outOf3, xfld3, cb3, isx, bml3, isl, app3, gsub3, st3, dic3, prs3, dkeys, newl, finv, view3, lcg3, id, bag_c, bag_a, bag_r, bag_m, bag_n, bag_pa, bag_pr, bag_pm, bag_pn, bag_len, up_same, up_up, at3_0, at3_1, at3_2, toNat_2, Int.toNat_zero, Int.toNat_one, istru_bl, istru_int, istru_non, istru_tup, istru_lst, istru_kls, istru_str, add3_ii, add3_ss, add3_tt, sub3_ii, mul3_ii, fdv3_ii, mod3_ii, pow3_ii, neg3_i, eqn3_ii, eqn3_ss, eqn3_bb, eqn3_tup, eqn3_lst, eqn3_non, cmi3_ii, isn3_bb, isn3_nn, isn3_on, isn3_tn, isn3_in, isn3_sn, isn3_rn, isn3_ln, isn3_bn, ix3_lst, ix3_kls, ix3_tup, ix3_ri, ix3_rs, opt3_some, getf_obj, seqj_lst, seqj_kls, seqj_ref, tupj_tup, len3_lst, len3_kls, len3_tup, len3_str, len3_ref, int3_i, int3_b, abs3_i, str3_i, lisf3_lst, lisf3_kls, lisf3_tup, list3_lst, list3_kls, list3_tup, tuple3_lst, tuple3_kls, tuple3_tup, isi_2, typ_non, typ_bl, typ_int, typ_str, typ_tup, typ_lst, typ_kls, typ_obj, typok_ty, typok_ref, clsv_ty, clsv_ref, eqo3_obj, onlyb_bl, adl3_ll, all3_lst, List.set_cons_zero, List.set_cons_succ, List.getElem?_cons_zero, List.getElem?_cons_succ, List.map_cons, List.map_nil, List.length_cons, List.length_nil, if_true, if_false, reduceIte, reduceCtorEq, Option.map_some, Option.some.injEq, and_true, true_and, List.cons_append, List.nil_append, Nat.reduceAdd, Nat.reduceLeDiff, Nat.reduceEqDiff, exists_eq_left', exists_eq_left, exists_and_left, exists_eq_right, exists_and_right, exists_const, Bool.not_true, Bool.not_false, kt_NoneType_int, kt_NoneType_bool, kt_NoneType_str, kt_NoneType_tuple, kt_NoneType_list, kt_NoneType_dict, kt_bool_int, kt_bool_bool, kt_bool_str, kt_bool_tuple, kt_bool_list, kt_bool_dict, kt_int_int, kt_int_bool, kt_int_str, kt_int_tuple, kt_int_list, kt_int_dict, kt_str_int, kt_str_bool, kt_str_str, kt_str_tuple, kt_str_list, kt_str_dict, kt_tuple_int, kt_tuple_bool, kt_tuple_str, kt_tuple_tuple, kt_tuple_list, kt_tuple_dict, kt_list_int, kt_list_bool, kt_list_str, kt_list_tuple, kt_list_list, kt_list_dict, kt_dict_int, kt_dict_bool, kt_dict_str, kt_dict_tuple, kt_dict_list, kt_dict_dict]
      by_cases c2 : r = 1
      · simp only [c2, decide_true, if_true]
        unfold rd_price_1
        simp only [var3, con3, op3, un3, tst3, chain3, tru3, vno3, van3, vo3, not3, and3, or3, ite3, nil3, cons3, tup3, lst3, lsf3, nx3, seq3, brk3, cnt3, drop3, ret3, retn3, ifs3, set3, asg3, gn3, gnil3, gcons3, gtup3, for3, ilst3, itup3, irng1, irng2, call3, fld3, sfld3, meth3, make3, raise3, frz3, try3, wTry3, inSuite3, outOf3, xfld3, cb3, isx, bml3, isl, app3, gsub3, st3, dic3, prs3, dkeys, newl, finv, view3, lcg3, id, bag_c, bag_a, bag_r, bag_m, bag_n, bag_pa, bag_pr, bag_pm, bag_pn, bag_len, up_same, up_up, at3_0, at3_1, at3_2, toNat_2, Int.toNat_zero, Int.toNat_one, istru_bl, istru_int, istru_non, istru_tup, istru_lst, istru_kls, istru_str, add3_ii, add3_ss, add3_tt, sub3_ii, mul3_ii, fdv3_ii, mod3_ii, pow3_ii, neg3_i, eqn3_ii, eqn3_ss, eqn3_bb, eqn3_tup, eqn3_lst, eqn3_non, cmi3_ii, isn3_bb, isn3_nn, isn3_on, isn3_tn, isn3_in, isn3_sn, isn3_rn, isn3_ln, isn3_bn, ix3_lst, ix3_kls, ix3_tup, ix3_ri, ix3_rs, opt3_some, getf_obj, seqj_lst, seqj_kls, seqj_ref, tupj_tup, len3_lst, len3_kls, len3_tup, len3_str, len3_ref, int3_i, int3_b, abs3_i, str3_i, lisf3_lst, lisf3_kls, lisf3_tup, list3_lst, list3_kls, list3_tup, tuple3_lst, tuple3_kls, tuple3_tup, isi_2, typ_non, typ_bl, typ_int, typ_str, typ_tup, typ_lst, typ_kls, typ_obj, typok_ty, typok_ref, clsv_ty, clsv_ref, eqo3_obj, onlyb_bl, adl3_ll, all3_lst, List.set_cons_zero, List.set_cons_succ, List.getElem?_cons_zero, List.getElem?_cons_succ, List.map_cons, List.map_nil, List.length_cons, List.length_nil, if_true, if_false, reduceIte, reduceCtorEq, Option.map_some, Option.some.injEq, and_true, true_and, List.cons_append, List.nil_append, Nat.reduceAdd, Nat.reduceLeDiff, Nat.reduceEqDiff, exists_eq_left', exists_eq_left, exists_and_left, exists_eq_right, exists_and_right, exists_const, Bool.not_true, Bool.not_false, kt_NoneType_int, kt_NoneType_bool, kt_NoneType_str, kt_NoneType_tuple, kt_NoneType_list, kt_NoneType_dict, kt_bool_int, kt_bool_bool, kt_bool_str, kt_bool_tuple, kt_bool_list, kt_bool_dict, kt_int_int, kt_int_bool, kt_int_str, kt_int_tuple, kt_int_list, kt_int_dict, kt_str_int, kt_str_bool, kt_str_str, kt_str_tuple, kt_str_list, kt_str_dict, kt_tuple_int, kt_tuple_bool, kt_tuple_str, kt_tuple_tuple, kt_tuple_list, kt_tuple_dict, kt_list_int, kt_list_bool, kt_list_str, kt_list_tuple, kt_list_list, kt_list_dict, kt_dict_int, kt_dict_bool, kt_dict_str, kt_dict_tuple, kt_dict_list, kt_dict_dict]
        exact ⟨b, 6, rfl, h1.bag, ⟨by decide, by decide⟩, fun r G2 hr h2 => rt_same (hq _ _ (by omega) (h1.trans h2))⟩
      · simp only [c2, decide_false, if_false, Bool.false_eq_true]
        unfold rd_price_5
        simp only [var3, con3, op3, un3, tst3, chain3, tru3, vno3, van3, vo3, not3, and3, or3, ite3, nil3, cons3, tup3, lst3, lsf3, nx3, seq3, brk3, cnt3, drop3, ret3, retn3, ifs3, set3, asg3, gn3, gnil3, gcons3, gtup3, for3, ilst3, itup3, irng1, irng2, call3, fld3, sfld3, meth3, make3, raise3, frz3, try3, wTry3, inSuite3, outOf3, xfld3, cb3, isx, bml3, isl, app3, gsub3, st3, dic3, prs3, dkeys, newl, finv, view3, lcg3, id, bag_c, bag_a, bag_r, bag_m, bag_n, bag_pa, bag_pr, bag_pm, bag_pn, bag_len, up_same, up_up, at3_0, at3_1, at3_2, toNat_2, Int.toNat_zero, Int.toNat_one, istru_bl, istru_int, istru_non, istru_tup, istru_lst, istru_kls, istru_str, add3_ii, add3_ss, add3_tt, sub3_ii, mul3_ii, fdv3_ii, mod3_ii, pow3_ii, neg3_i, eqn3_ii, eqn3_ss, eqn3_bb, eqn3_tup, eqn3_lst, eqn3_non, cmi3_ii, isn3_bb, isn3_nn, isn3_on, isn3_tn, isn3_in, isn3_sn, isn3_rn, isn3_ln, isn3_bn, ix3_lst, ix3_kls, ix3_tup, ix3_ri, ix3_rs, opt3_some, getf_obj, seqj_lst, seqj_kls, seqj_ref, tupj_tup, len3_lst, len3_kls, len3_tup, len3_str, len3_ref, int3_i, int3_b, abs3_i, str3_i, lisf3_lst, lisf3_kls, lisf3_tup, list3_lst, list3_kls, list3_tup, tuple3_lst, tuple3_kls, tuple3_tup, isi_2, typ_non, typ_bl, typ_int, typ_str, typ_tup, typ_lst, typ_kls, typ_obj, typok_ty, typok_ref, clsv_ty, clsv_ref, eqo3_obj, onlyb_bl, adl3_ll, all3_lst, List.set_cons_zero, List.set_cons_succ, List.getElem?_cons_zero, List.getElem?_cons_succ, List.map_cons, List.map_nil, List.length_cons, List.length_nil, if_true, if_false, reduceIte, reduceCtorEq, Option.map_some, Option.some.injEq, and_true, true_and, List.cons_append, List.nil_append, Nat.reduceAdd, Nat.reduceLeDiff, Nat.reduceEqDiff, exists_eq_left', exists_eq_left, exists_and_left, exists_eq_right, exists_and_right, exists_const, Bool.not_true, Bool.not_false, kt_NoneType_int, kt_NoneType_bool, kt_NoneType_str, kt_NoneType_tuple, kt_NoneType_list, kt_NoneType_dict, kt_bool_int, kt_bool_bool, kt_bool_str, kt_bool_tuple, kt_bool_list, kt_bool_dict, kt_int_int, kt_int_bool, kt_int_str, kt_int_tuple, kt_int_list, kt_int_dict, kt_str_int, kt_str_bool, kt_str_str, kt_str_tuple, kt_str_list, kt_str_dict, kt_tuple_int, kt_tuple_bool, kt_tuple_str, kt_tuple_tuple, kt_tuple_list, kt_tuple_dict, kt_list_int, kt_list_bool, kt_list_str, kt_list_tuple, kt_list_list, kt_list_dict, kt_dict_int, kt_dict_bool, kt_dict_str, kt_dict_tuple, kt_dict_list, kt_dict_dict]
        exact ⟨b, 1001, rfl, h1.bag, ⟨by decide, by decide⟩, fun r G2 hr h2 => rt_same (hq _ _ (by omega) (h1.trans h2))⟩

end K52

namespace K52
open PySem PySem.Spec PyProof.Rows L2 T3

/-- a price -/
def Pr (n : Int) : Prop := 0 ≤ n ∧ n ≤ 1000
def sp_prices (K : PySem.W.Frag) (a : Ad) : Sp3 := fun ds G Q _ => ∃ b, ds = [.ref b] ∧ Bag b G ∧ ∀ x y z G', Pr x → Pr y → Pr z → BagTo b G G' → Q (.lst [.int x, .int y, .int z]) G'

/- _law_row = [_law_row[0], _law_row[0], _law_row[0]] -/
def rd_prices_0 (K : PySem.W.Frag) (a : Ad) (W : W3) : T3S := (set3 1 (lsf3 (cons3 (op3 ix3 (var3 1) (con3 (.int 0))) (cons3 (op3 ix3 (var3 1) (con3 (.int 0))) (cons3 (op3 ix3 (var3 1) (con3 (.int 0))) nil3)))))
/- _law_row = [_law_price(_law_bag_here) for _law_k in range(3)] -/
def rd_prices_1 (K : PySem.W.Frag) (a : Ad) (W : W3) : T3S := (set3 1 (lcf3 (irng1 (cons3 (con3 (.int 3)) nil3)) (svn 2) yes3 (call3 (sp_price K a) W0 1 0 (fun ds _ => ds) (cons3 (var3 0) nil3) nil3) [2]))
/- if _law_one_in(_law_bag_here, 4): -/
def rd_prices_2 (K : PySem.W.Frag) (a : Ad) (W : W3) : T3S := (ifs3 (tru3 (call3 (sp_one_in K a) W 2 0 (fun ds _ => ds) (cons3 (var3 0) (cons3 (con3 (.int 4)) nil3)) nil3)) (rd_prices_0 K a W) nx3)
/- return _law_row -/
def rd_prices_3 (K : PySem.W.Frag) (a : Ad) (W : W3) : T3S := (ret3 (var3 1))
def rd_prices (K : PySem.W.Frag) (a : Ad) (W : W3) : T3S := (seq3 (rd_prices_1 K a W) (seq3 (rd_prices_2 K a W) (rd_prices_3 K a W)))
theorem dv_prices {P : Program} {w : World} {K : PySem.W.Frag} {mg : Str → Option Value} {base : Heap} {a : Ad} {d : Fd} (T : Txt K mg a d) (wlp : ∀ ds G Q E, (sp_prices K a) ds G Q E → ds.length = 1)
    (h : ∀ (ds : List D) (G : H3) (Q : K3) (E : X3), (sp_prices K a) ds G Q E → rd_prices K a (ex3 E) (ends3 Q) (start3 N_prices ds) G) : Fk P w K mg base 4 a.f_prices d.f_prices ["_law_bag_here"] (sp_prices K a) :=
  fn3 T.F_prices sc_prices wlp fun cdv A outer s H E B E3 hr tk po => by
    have sc := sc_prices
    have hu64 := hr.units
    have hu1 := hu_of hr
    refine ⟨rd_prices K a (ex3 E3), ?_, fun ds G Q h' => h ds G Q E3 h'⟩
    exact (b_cons (s_lcf 1 (own := [("_law_k", 2)]) (ct_name (by decide)) rfl sc.nd (i_rng1 (by rfl) T.n_range (a_cons e_int a_nil)) (blkOk_by (N := N_prices) (sc := defScope s_prices) (by decide +kernel)) (fun _ _ _ _ _ => pg_name (i := 2) sc.nd rfl (.inl rfl)) (fun _ _ _ _ _ => Ifs3.nil) (fun _ _ _ _ _ => fun _ => (e_call (ok_price T) (hr.mono (by decide)) takesF T.g_price T.F_price.kp (ab_price T) (a_cons (e_var 0) a_nil))) (sw_true rfl rfl rfl (by decide +kernel))) (b_cons (s_if (p_tru (e_call (ok_one_in T) (hr.mono (by decide)) tk T.g_one_in T.F_one_in.kp (ab_one_in T) (a_cons (e_var 0) (a_cons e_int a_nil)))) (b_one (s_set 1 sc.nd (e_lsf (a_cons (e_ix hu1 (e_var 1) e_int) (a_cons (e_ix hu1 (e_var 1) e_int) (a_cons (e_ix hu1 (e_var 1) e_int) a_nil)))))) b_nil) (b_one (s_ret (e_var 1)))))

theorem ok_prices {P : Program} {w : World} {K : PySem.W.Frag} {mg : Str → Option Value} {base : Heap} {a : Ad} {d : Fd} (T : Txt K mg a d) : Fk P w K mg base 4 a.f_prices d.f_prices ["_law_bag_here"] (sp_prices K a) :=
  dv_prices T (by rintro _ _ _ _ ⟨_, rfl, _⟩; rfl) fun ds G Q E h => by
    obtain ⟨b, rfl, hb, hq⟩ := h
    show rd_prices K a _ (ends3 Q) [some (.ref b), none, none] G
    unfold rd_prices rd_prices_1
    simp only [var3, con3, op3, un3, tst3, chain3, tru3, vno3, van3, vo3, not3, and3, or3, ite3, nil3, cons3, tup3, lst3, lsf3, nx3, seq3, brk3, cnt3, drop3, ret3, retn3, ifs3, set3, asg3, gn3, gnil3, gcons3, gtup3, for3, ilst3, itup3, irng1, irng2, call3, fld3, sfld3, meth3, make3, raise3, frz3, try3, wTry3, inSuite3, outOf3, xfld3, cb3, isx, bml3, isl, app3, gsub3, st3, dic3, prs3, dkeys, newl, finv, view3, lcg3, id, bag_c, bag_a, bag_r, bag_m, bag_n, bag_pa, bag_pr, bag_pm, bag_pn, bag_len, up_same, up_up, at3_0, at3_1, at3_2, toNat_2, Int.toNat_zero, Int.toNat_one, istru_bl, istru_int, istru_non, istru_tup, istru_lst, istru_kls, istru_str, add3_ii, add3_ss, add3_tt, sub3_ii, mul3_ii, fdv3_ii, mod3_ii, pow3_ii, neg3_i, eqn3_ii, eqn3_ss, eqn3_bb, eqn3_tup, eqn3_lst, eqn3_non, cmi3_ii, isn3_bb, isn3_nn, isn3_on, isn3_tn, isn3_in, isn3_sn, isn3_rn, isn3_ln, isn3_bn, ix3_lst, ix3_kls, ix3_tup, ix3_ri, ix3_rs, opt3_some, getf_obj, seqj_lst, seqj_kls, seqj_ref, tupj_tup, len3_lst, len3_kls, len3_tup, len3_str, len3_ref, int3_i, int3_b, abs3_i, str3_i, lisf3_lst, lisf3_kls, lisf3_tup, list3_lst, list3_kls, list3_tup, tuple3_lst, tuple3_kls, tuple3_tup, isi_2, typ_non, typ_bl, typ_int, typ_str, typ_tup, typ_lst, typ_kls, typ_obj, typok_ty, typok_ref, clsv_ty, clsv_ref, eqo3_obj, onlyb_bl, adl3_ll, all3_lst, List.set_cons_zero, List.set_cons_succ, List.getElem?_cons_zero, List.getElem?_cons_succ, List.map_cons, List.map_nil, List.length_cons, List.length_nil, if_true, if_false, reduceIte, reduceCtorEq, Option.map_some, Option.some.injEq, and_true, true_and, List.cons_append, List.nil_append, Nat.reduceAdd, Nat.reduceLeDiff, Nat.reduceEqDiff, exists_eq_left', exists_eq_left, exists_and_left, exists_eq_right, exists_and_right, exists_const, Bool.not_true, Bool.not_false, kt_NoneType_int, kt_NoneType_bool, kt_NoneType_str, kt_NoneType_tuple, kt_NoneType_list, kt_NoneType_dict, kt_bool_int, kt_bool_bool, kt_bool_str, kt_bool_tuple, kt_bool_list, kt_bool_dict, kt_int_int, kt_int_bool, kt_int_str, kt_int_tuple, kt_int_list, kt_int_dict, kt_str_int, kt_str_bool, kt_str_str, kt_str_tuple, kt_str_list, kt_str_dict, kt_tuple_int, kt_tuple_bool, kt_tuple_str, kt_tuple_tuple, kt_tuple_list, kt_tuple_dict, kt_list_int, kt_list_bool, kt_list_str, kt_list_tuple, kt_list_list, kt_list_dict, kt_dict_int, kt_dict_bool, kt_dict_str, kt_dict_tuple, kt_dict_list, kt_dict_dict]
    refine ⟨by decide, lci_inv (Inv := fun ds acc G1 => BagTo b G G1 ∧ ∃ ns : List Int, acc = ns.map .int ∧ ns.length = ds.length ∧ ns.length < 10000 ∧ ∀ n ∈ ns, Pr n) (ds := []) (fun ds acc G1 h => ⟨trivial, by obtain ⟨_, ns, rfl, _, h, _⟩ := h; simpa using h⟩) rfl (fun ds x rest acc G1 ex hI => ?_) ⟨BagTo.refl hb, [], rfl, rfl, by decide, fun _ h => by cases h⟩ fun acc G1 hI => ?_⟩
    · obtain ⟨hto, ns, rfl, hl, hl2, hn⟩ := hI
      refine ⟨_, rfl, fun Ry Rn hy _ => ?_⟩
      have hx : (ds ++ x :: rest).length = 3 := by rw [ex]; rfl
      rw [List.length_append, List.length_cons] at hx
      simp only [var3, con3, op3, un3, tst3, chain3, tru3, vno3, van3, vo3, not3, and3, or3, ite3, nil3, cons3, tup3, lst3, lsf3, nx3, seq3, brk3, cnt3, drop3, ret3, retn3, ifs3, set3, asg3, gn3, gnil3, gcons3, gtup3, for3, ilst3, itup3, irng1, irng2, call3, fld3, sfld3, meth3, make3, raise3, frz3, try3, wTry3, inSuite3, outOf3, xfld3, cb3, isx, bml3, isl, app3, gsub3, st3, dic3, prs3, dkeys, newl, finv, view3, lcg3, id, bag_c, bag_a, bag_r, bag_m, bag_n, bag_pa, bag_pr, bag_pm, bag_pn, bag_len, up_same, up_up, at3_0, at3_1, at3_2, toNat_2, Int.toNat_zero, Int.toNat_one, istru_bl, istru_int, istru_non, istru_tup, istru_lst, istru_kls, istru_str, add3_ii, add3_ss, add3_tt, sub3_ii, mul3_ii, fdv3_ii, mod3_ii, pow3_ii, neg3_i, eqn3_ii, eqn3_ss, eqn3_bb, eqn3_tup, eqn3_lst, eqn3_non, cmi3_ii, isn3_bb, isn3_nn, isn3_on, isn3_tn, isn3_in, isn3_sn, isn3_rn, isn3_ln, isn3_bn, ix3_lst, ix3_kls, ix3_tup, ix3_ri, ix3_rs, opt3_some, getf_obj, seqj_lst, seqj_kls, seqj_ref, tupj_tup, len3_lst, len3_kls, len3_tup, len3_str, len3_ref, int3_i, int3_b, abs3_i, str3_i, lisf3_lst, lisf3_kls, lisf3_tup, list3_lst, list3_kls, list3_tup, tuple3_lst, tuple3_kls, tuple3_tup, isi_2, typ_non, typ_bl, typ_int, typ_str, typ_tup, typ_lst, typ_kls, typ_obj, typok_ty, typok_ref, clsv_ty, clsv_ref, eqo3_obj, onlyb_bl, adl3_ll, all3_lst, List.set_cons_zero, List.set_cons_succ, List.getElem?_cons_zero, List.getElem?_cons_succ, List.map_cons, List.map_nil, List.length_cons, List.length_nil, if_true, if_false, reduceIte, reduceCtorEq, Option.map_some, Option.some.injEq, and_true, true_and, List.cons_append, List.nil_append, Nat.reduceAdd, Nat.reduceLeDiff, Nat.reduceEqDiff, exists_eq_left', exists_eq_left, exists_and_left, exists_eq_right, exists_and_right, exists_const, Bool.not_true, Bool.not_false, kt_NoneType_int, kt_NoneType_bool, kt_NoneType_str, kt_NoneType_tuple, kt_NoneType_list, kt_NoneType_dict, kt_bool_int, kt_bool_bool, kt_bool_str, kt_bool_tuple, kt_bool_list, kt_bool_dict, kt_int_int, kt_int_bool, kt_int_str, kt_int_tuple, kt_int_list, kt_int_dict, kt_str_int, kt_str_bool, kt_str_str, kt_str_tuple, kt_str_list, kt_str_dict, kt_tuple_int, kt_tuple_bool, kt_tuple_str, kt_tuple_tuple, kt_tuple_list, kt_tuple_dict, kt_list_int, kt_list_bool, kt_list_str, kt_list_tuple, kt_list_list, kt_list_dict, kt_dict_int, kt_dict_bool, kt_dict_str, kt_dict_tuple, kt_dict_list, kt_dict_dict, wipe3, yes3]
      refine ⟨b, rfl, hto.bag, fun n G2 hn2 h2 => hy _ _ ⟨hto.trans h2, ns ++ [n], by simp, by simp [hl], by simp; omega, fun m hm => ?_⟩⟩
      rcases List.mem_append.mp hm with h | h
      · exact hn m h
      · rw [List.mem_singleton.mp h]
        exact hn2
    · obtain ⟨hto, ns, rfl, hl, _, hn⟩ := hI
      have hl3 : ns.length = 3 := by rw [hl]; rfl
      match ns, hl3, hn with
      | [x, y, z], _, hn =>
        have px := hn x (by simp)
        have py := hn y (by simp)
        have pz := hn z (by simp)
        unfold rd_prices_2
        simp only [var3, con3, op3, un3, tst3, chain3, tru3, vno3, van3, vo3, not3, and3, or3, ite3, nil3, cons3, tup3, lst3, lsf3, nx3, seq3, brk3, cnt3, drop3, ret3, retn3, ifs3, set3, asg3, gn3, gnil3, gcons3, gtup3, for3, ilst3, itup3, irng1, irng2, call3, fld3, sfld3, meth3, make3, raise3, frz3, try3, wTry3, inSuite3, outOf3, xfld3, cb3, isx, bml3, isl, app3, gsub3, st3, dic3, prs3, dkeys, newl, finv, view3, lcg3, id, bag_c, bag_a, bag_r, bag_m, bag_n, bag_pa, bag_pr, bag_pm, bag_pn, bag_len, up_same, up_up, at3_0, at3_1, at3_2, toNat_2, Int.toNat_zero, Int.toNat_one, istru_bl, istru_int, istru_non, istru_tup, istru_lst, istru_kls, istru_str, add3_ii, add3_ss, add3_tt, sub3_ii, mul3_ii, fdv3_ii, mod3_ii, pow3_ii, neg3_i, eqn3_ii, eqn3_ss, eqn3_bb, eqn3_tup, eqn3_lst, eqn3_non, cmi3_ii, isn3_bb, isn3_nn, isn3_on, isn3_tn, isn3_in, isn3_sn, isn3_rn, isn3_ln, isn3_bn, ix3_lst, ix3_kls, ix3_tup, ix3_ri, ix3_rs, opt3_some, getf_obj, seqj_lst, seqj_kls, seqj_ref, tupj_tup, len3_lst, len3_kls, len3_tup, len3_str, len3_ref, int3_i, int3_b, abs3_i, str3_i, lisf3_lst, lisf3_kls, lisf3_tup, list3_lst, list3_kls, list3_tup, tuple3_lst, tuple3_kls, tuple3_tup, isi_2, typ_non, typ_bl, typ_int, typ_str, typ_tup, typ_lst, typ_kls, typ_obj, typok_ty, typok_ref, clsv_ty, clsv_ref, eqo3_obj, onlyb_bl, adl3_ll, all3_lst, List.set_cons_zero, List.set_cons_succ, List.getElem?_cons_zero, List.getElem?_cons_succ, List.map_cons, List.map_nil, List.length_cons, List.length_nil, if_true, if_false, reduceIte, reduceCtorEq, Option.map_some, Option.some.injEq, and_true, true_and, List.cons_append, List.nil_append, Nat.reduceAdd, Nat.reduceLeDiff, Nat.reduceEqDiff, exists_eq_left', exists_eq_left, exists_and_left, exists_eq_right, exists_and_right, exists_const, Bool.not_true, Bool.not_false, kt_NoneType_int, kt_NoneType_bool, kt_NoneType_str, kt_NoneType_tuple, kt_NoneType_list, kt_NoneType_dict, kt_bool_int, kt_bool_bool, kt_bool_str, kt_bool_tuple, kt_bool_list, kt_bool_dict, kt_int_int, kt_int_bool, kt_int_str, kt_int_tuple, kt_int_list, kt_int_dict, kt_str_int, kt_str_bool, kt_str_str, kt_str_tuple, kt_str_list, kt_str_dict, kt_tuple_int, kt_tuple_bool, kt_tuple_str, kt_tuple_tuple, kt_tuple_list, kt_tuple_dict, kt_list_int, kt_list_bool, kt_list_str, kt_list_tuple, kt_list_list, kt_list_dict, kt_dict_int, kt_dict_bool, kt_dict_str, kt_dict_tuple, kt_dict_list, kt_dict_dict]
        refine ⟨b, 4, rfl, hto.bag, ⟨by decide, by decide⟩, fun r G3 h3 => ?_⟩
        simp only [var3, con3, op3, un3, tst3, chain3, tru3, vno3, van3, vo3, not3, and3, or3, ite3, nil3, cons3, tup3, lst3, lsf3, nx3, seq3, brk3, cnt3, drop3, ret3, retn3, ifs3, set3, asg3, gn3, gnil3, gcons3, gtup3, for3, ilst3, itup3, irng1, irng2, call3, fld3, sfld3, meth3, make3, raise3, frz3, try3, wTry3, inSuite3, outOf3, xfld3, cb3, isx, bml3, isl, app3, gsub3, st3, dic3, prs3, dkeys, newl, finv, view3, lcg3, id, bag_c, bag_a, bag_r, bag_m, bag_n, bag_pa, bag_pr, bag_pm, bag_pn, bag_len, up_same, up_up, at3_0, at3_1, at3_2, toNat_2, Int.toNat_zero, Int.toNat_one, istru_bl, istru_int, istru_non, istru_tup, istru_lst, istru_kls, istru_str, add3_ii, add3_ss, add3_tt, sub3_ii, mul3_ii, fdv3_ii, mod3_ii, pow3_ii, neg3_i, eqn3_ii, eqn3_ss, eqn3_bb, eqn3_tup, eqn3_lst, eqn3_non, cmi3_ii, isn3_bb, isn3_nn, isn3_on, isn3_tn, isn3_in, isn3_sn, isn3_rn, isn3_ln, isn3_bn, ix3_lst, ix3_kls, ix3_tup, ix3_ri, ix3_rs, opt3_some, getf_obj, seqj_lst, seqj_kls, seqj_ref, tupj_tup, len3_lst, len3_kls, len3_tup, len3_str, len3_ref, int3_i, int3_b, abs3_i, str3_i, lisf3_lst, lisf3_kls, lisf3_tup, list3_lst, list3_kls, list3_tup, tuple3_lst, tuple3_kls, tuple3_tup, isi_2, typ_non, typ_bl, typ_int, typ_str, typ_tup, typ_lst, typ_kls, typ_obj, typok_ty, typok_ref, clsv_ty, clsv_ref, eqo3_obj, onlyb_bl, adl3_ll, all3_lst, List.set_cons_zero, List.set_cons_succ, List.getElem?_cons_zero, List.getElem?_cons_succ, List.map_cons, List.map_nil, List.length_cons, List.length_nil, if_true, if_false, reduceIte, reduceCtorEq, Option.map_some, Option.some.injEq, and_true, true_and, List.cons_append, List.nil_append, Nat.reduceAdd, Nat.reduceLeDiff, Nat.reduceEqDiff, exists_eq_left', exists_eq_left, exists_and_left, exists_eq_right, exists_and_right, exists_const, Bool.not_true, Bool.not_false, kt_NoneType_int, kt_NoneType_bool, kt_NoneType_str, kt_NoneType_tuple, kt_NoneType_list, kt_NoneType_dict, kt_bool_int, kt_bool_bool, kt_bool_str, kt_bool_tuple, kt_bool_list, kt_bool_dict, kt_int_int, kt_int_bool, kt_int_str, kt_int_tuple, kt_int_list, kt_int_dict, kt_str_int, kt_str_bool, kt_str_str, kt_str_tuple, kt_str_list, kt_str_dict, kt_tuple_int, kt_tuple_bool, kt_tuple_str, kt_tuple_tuple, kt_tuple_list, kt_tuple_dict, kt_list_int, kt_list_bool, kt_list_str, kt_list_tuple, kt_list_list, kt_list_dict, kt_dict_int, kt_dict_bool, kt_dict_str, kt_dict_tuple, kt_dict_list, kt_dict_dict]
        cases r with
        | true =>
          simp only [if_true]
          unfold rd_prices_0 rd_prices_3
          simp only [var3, con3, op3, un3, tst3, chain3, tru3, vno3, van3, vo3, not3, and3, or3, ite3, nil3, cons3, tup3, lst3, lsf3, nx3, seq3, brk3, cnt3, drop3, ret3, retn3, ifs3, set3, asg3, gn3, gnil3, gcons3, gtup3, for3, ilst3, itup3, irng1, irng2, call3, fld3, sfld3, meth3, make3, raise3, frz3, try3, wTry3, inSuite3, outOf3, xfld3, cb3, isx, bml3, isl, app3, gsub3, st3, dic3, prs3, dkeys, newl, finv, view3, lcg3, id, bag_c, bag_a, bag_r, bag_m, bag_n, bag_pa, bag_pr, bag_pm, bag_pn, bag_len, up_same, up_up, at3_0, at3_1, at3_2, toNat_2, Int.toNat_zero, Int.toNat_one, istru_bl, istru_int, istru_non, istru_tup, istru_lst, istru_kls, istru_str, add3_ii, add3_ss, add3_tt, sub3_ii, mul3_ii, fdv3_ii, mod3_ii, pow3_ii, neg3_i, eqn3_ii, eqn3_ss, eqn3_bb, eqn3_tup, eqn3_lst, eqn3_non, cmi3_ii, isn3_bb, isn3_nn, isn3_on, isn3_tn, isn3_in, isn3_sn, isn3_rn, isn3_ln, isn3_bn, ix3_lst, ix3_kls, ix3_tup, ix3_ri, ix3_rs, opt3_some, getf_obj, seqj_lst, seqj_kls, seqj_ref, tupj_tup, len3_lst, len3_kls, len3_tup, len3_str, len3_ref, int3_i, int3_b, abs3_i, str3_i, lisf3_lst, lisf3_kls, lisf3_tup, list3_lst, list3_kls, list3_tup, tuple3_lst, tuple3_kls, tuple3_tup, isi_2, typ_non, typ_bl, typ_int, typ_str, typ_tup, typ_lst, typ_kls, typ_obj, typok_ty, typok_ref, clsv_ty, clsv_ref, eqo3_obj, onlyb_bl, adl3_ll, all3_lst, List.set_cons_zero, List.set_cons_succ, List.getElem?_cons_zero, List.getElem?_cons_succ, List.map_cons, List.map_nil, List.length_cons, List.length_nil, if_true, if_false, reduceIte, reduceCtorEq, Option.map_some, Option.some.injEq, and_true, true_and, List.cons_append, List.nil_append, Nat.reduceAdd, Nat.reduceLeDiff, Nat.reduceEqDiff, exists_eq_left', exists_eq_left, exists_and_left, exists_eq_right, exists_and_right, exists_const, Bool.not_true, Bool.not_false, kt_NoneType_int, kt_NoneType_bool, kt_NoneType_str, kt_NoneType_tuple, kt_NoneType_list, kt_NoneType_dict, kt_bool_int, kt_bool_bool, kt_bool_str, kt_bool_tuple, kt_bool_list, kt_bool_dict, kt_int_int, kt_int_bool, kt_int_str, kt_int_tuple, kt_int_list, kt_int_dict, kt_str_int, kt_str_bool, kt_str_str, kt_str_tuple, kt_str_list, kt_str_dict, kt_tuple_int, kt_tuple_bool, kt_tuple_str, kt_tuple_tuple, kt_tuple_list, kt_tuple_dict, kt_list_int, kt_list_bool, kt_list_str, kt_list_tuple, kt_list_list, kt_list_dict, kt_dict_int, kt_dict_bool, kt_dict_str, kt_dict_tuple, kt_dict_list, kt_dict_dict, at3]
          exact rt_same (hq _ _ _ _ px px px (hto.trans h3))
        | false =>
          simp only [if_false, Bool.false_eq_true]
          unfold rd_prices_3
          simp only [var3, con3, op3, un3, tst3, chain3, tru3, vno3, van3, vo3, not3, and3, or3, ite3, nil3, cons3, tup3, lst3, lsf3, nx3, seq3, brk3, cnt3, drop3, ret3, retn3, ifs3, set3, asg3, gn3, gnil3, gcons3, gtup3, for3, ilst3, itup3, irng1, irng2, call3, fld3, sfld3, meth3, make3, raise3, frz3, try3, wTry3, inSuite3, outOf3, xfld3, cb3, isx, bml3, isl, app3, gsub3, st3, dic3, prs3, dkeys, newl, finv, view3, lcg3, id, bag_c, bag_a, bag_r, bag_m, bag_n, bag_pa, bag_pr, bag_pm, bag_pn, bag_len, up_same, up_up, at3_0, at3_1, at3_2, toNat_2, Int.toNat_zero, Int.toNat_one, istru_bl, istru_int, istru_non, istru_tup, istru_lst, istru_kls, istru_str, add3_ii, add3_ss, add3_tt, sub3_ii, mul3_ii, fdv3_ii, mod3_ii, pow3_ii, neg3_i, eqn3_ii, eqn3_ss, eqn3_bb, eqn3_tup, eqn3_lst, eqn3_non, cmi3_ii, isn3_bb, isn3_nn, isn3_on, isn3_tn, isn3_in, isn3_sn, isn3_rn, isn3_ln, isn3_bn, ix3_lst, ix3_kls, ix3_tup, ix3_ri, ix3_rs, opt3_some, getf_obj, seqj_lst, seqj_kls, seqj_ref, tupj_tup, len3_lst, len3_kls, len3_tup, len3_str, len3_ref, int3_i, int3_b, abs3_i, str3_i, lisf3_lst, lisf3_kls, lisf3_tup, list3_lst, list3_kls, list3_tup, tuple3_lst, tuple3_kls, tuple3_tup, isi_2, typ_non, typ_bl, typ_int, typ_str, typ_tup, typ_lst, typ_kls, typ_obj, typok_ty, typok_ref, clsv_ty, clsv_ref, eqo3_obj, onlyb_bl, adl3_ll, all3_lst, List.set_cons_zero, List.set_cons_succ, List.getElem?_cons_zero, List.getElem?_cons_succ, List.map_cons, List.map_nil, List.length_cons, List.length_nil, if_true, if_false, reduceIte, reduceCtorEq, Option.map_some, Option.some.injEq, and_true, true_and, List.cons_append, List.nil_append, Nat.reduceAdd, Nat.reduceLeDiff, Nat.reduceEqDiff, exists_eq_left', exists_eq_left, exists_and_left, exists_eq_right, exists_and_right, exists_const, Bool.not_true, Bool.not_false, kt_NoneType_int, kt_NoneType_bool, kt_NoneType_str, kt_NoneType_tuple, kt_NoneType_list, kt_NoneType_dict, kt_bool_int, kt_bool_bool, kt_bool_str, kt_bool_tuple, kt_bool_list, kt_bool_dict, kt_int_int, kt_int_bool, kt_int_str, kt_int_tuple, kt_int_list, kt_int_dict, kt_str_int, kt_str_bool, kt_str_str, kt_str_tuple, kt_str_list, kt_str_dict, kt_tuple_int, kt_tuple_bool, kt_tuple_str, kt_tuple_tuple, kt_tuple_list, kt_tuple_dict, kt_list_int, kt_list_bool, kt_list_str, kt_list_tuple, kt_list_list, kt_list_dict, kt_dict_int, kt_dict_bool, kt_dict_str, kt_dict_tuple, kt_dict_list, kt_dict_dict]
          exact rt_same (hq _ _ _ _ px py pz (hto.trans h3))

end K52

namespace K52
open PySem PySem.Spec PyProof.Rows L2 T3

def sp_many (K : PySem.W.Frag) (a : Ad) : Sp3 := fun ds G Q _ => ∃ b, ds = [.ref b] ∧ Bag b G ∧ ∀ n G', BagTo b G G' → Q (.int n) G'

/- return _law_pick(_law_bag_here, 3) -/
def rd_many_0 (K : PySem.W.Frag) (a : Ad) (W : W3) : T3S := (ret3 (call3 (sp_pick K a) W 2 0 (fun ds _ => ds) (cons3 (var3 0) (cons3 (con3 (.int 3)) nil3)) nil3))
/- return _law_pick(_law_bag_here, 1000001) -/
def rd_many_1 (K : PySem.W.Frag) (a : Ad) (W : W3) : T3S := (ret3 (call3 (sp_pick K a) W 2 0 (fun ds _ => ds) (cons3 (var3 0) (cons3 (con3 (.int 1000001)) nil3)) nil3))
/- _law_way = _law_pick(_law_bag_here, 3) -/
def rd_many_2 (K : PySem.W.Frag) (a : Ad) (W : W3) : T3S := (set3 1 (call3 (sp_pick K a) W 2 0 (fun ds _ => ds) (cons3 (var3 0) (cons3 (con3 (.int 3)) nil3)) nil3))
/- if _law_way == 0: -/
def rd_many_3 (K : PySem.W.Frag) (a : Ad) (W : W3) : T3S := (ifs3 (tst3 (op3 eq3 (var3 1) (con3 (.int 0)))) (rd_many_0 K a W) nx3)
/- if _law_way == 1: -/
def rd_many_4 (K : PySem.W.Frag) (a : Ad) (W : W3) : T3S := (ifs3 (tst3 (op3 eq3 (var3 1) (con3 (.int 1)))) (rd_many_1 K a W) nx3)
/- return _law_choice(_law_bag_here, [10 ** 9, 10 ** 18, 10 ** 30 + 7, 10 ** 59]) + _law_pick(_law_bag_ -/
def rd_many_5 (K : PySem.W.Frag) (a : Ad) (W : W3) : T3S := (ret3 (op3 add3 (call3 (sp_choice K a) W 2 0 (fun ds _ => ds) (cons3 (var3 0) (cons3 (lsf3 (cons3 (op3 pow3 (con3 (.int 10)) (con3 (.int 9))) (cons3 (op3 pow3 (con3 (.int 10)) (con3 (.int 18))) (cons3 (op3 add3 (op3 pow3 (con3 (.int 10)) (con3 (.int 30))) (con3 (.int 7))) (cons3 (op3 pow3 (con3 (.int 10)) (con3 (.int 59))) nil3))))) nil3)) nil3) (call3 (sp_pick K a) W 2 0 (fun ds _ => ds) (cons3 (var3 0) (cons3 (op3 pow3 (con3 (.int 10)) (con3 (.int 9))) nil3)) nil3)))
def rd_many (K : PySem.W.Frag) (a : Ad) (W : W3) : T3S := (seq3 (rd_many_2 K a W) (seq3 (rd_many_3 K a W) (seq3 (rd_many_4 K a W) (rd_many_5 K a W))))
theorem dv_many {P : Program} {w : World} {K : PySem.W.Frag} {mg : Str → Option Value} {base : Heap} {a : Ad} {d : Fd} (T : Txt K mg a d) (wlp : ∀ ds G Q E, (sp_many K a) ds G Q E → ds.length = 1)
    (h : ∀ (ds : List D) (G : H3) (Q : K3) (E : X3), (sp_many K a) ds G Q E → rd_many K a (ex3 E) (ends3 Q) (start3 N_many ds) G) : Fk P w K mg base 3 a.f_many d.f_many ["_law_bag_here"] (sp_many K a) :=
  fn3 T.F_many sc_many wlp fun cdv A outer s H E B E3 hr tk po => by
    have sc := sc_many
    have hu64 := hr.units
    have hu1 := hu_of hr
    refine ⟨rd_many K a (ex3 E3), ?_, fun ds G Q h' => h ds G Q E3 h'⟩
    exact (b_cons (s_set 1 sc.nd (e_call (ok_pick T) (hr.mono (by decide)) tk T.g_pick T.F_pick.kp (ab_pick T) (a_cons (e_var 0) (a_cons e_int a_nil)))) (b_cons (s_if (p_cmp (o_eq hu64) (e_var 1) e_int) (b_one (s_ret (e_call (ok_pick T) (hr.mono (by decide)) tk T.g_pick T.F_pick.kp (ab_pick T) (a_cons (e_var 0) (a_cons e_int a_nil))))) b_nil) (b_cons (s_if (p_cmp (o_eq hu64) (e_var 1) e_int) (b_one (s_ret (e_call (ok_pick T) (hr.mono (by decide)) tk T.g_pick T.F_pick.kp (ab_pick T) (a_cons (e_var 0) (a_cons e_int a_nil))))) b_nil) (b_one (s_ret (e_op o_add (e_call (ok_choice T) (hr.mono (by decide)) tk T.g_choice T.F_choice.kp (ab_choice T) (a_cons (e_var 0) (a_cons (e_lsf (a_cons (e_op o_pow e_int e_int) (a_cons (e_op o_pow e_int e_int) (a_cons (e_op o_add (e_op o_pow e_int e_int) e_int) (a_cons (e_op o_pow e_int e_int) a_nil))))) a_nil))) (e_call (ok_pick T) (hr.mono (by decide)) tk T.g_pick T.F_pick.kp (ab_pick T) (a_cons (e_var 0) (a_cons (e_op o_pow e_int e_int) a_nil)))))))))

theorem ok_many {P : Program} {w : World} {K : PySem.W.Frag} {mg : Str → Option Value} {base : Heap} {a : Ad} {d : Fd} (T : Txt K mg a d) : Fk P w K mg base 3 a.f_many d.f_many ["_law_bag_here"] (sp_many K a) :=
  dv_many T (by rintro _ _ _ _ ⟨_, rfl, _⟩; rfl) fun ds G Q E h => by
    obtain ⟨b, rfl, hb, hq⟩ := h
    show rd_many K a _ (ends3 Q) [some (.ref b), none] G
    unfold rd_many rd_many_2
    simp only [var3, con3, op3, un3, tst3, chain3, tru3, vno3, van3, vo3, not3, and3, or3, ite3, nil3, cons3, tup3, lst3, lsf3, nx3, seq3, brk3, cnt3, drop3, ret3, retn3, ifs3, set3, asg3, gn3, gnil3, gcons3, gtup3, for3, ilst3, itup3, irng1, irng2, call3, fld3, sfld3, meth3, make3, raise3, frz3, try3, wTry3, inSuite3, outOf3, xfld3, cb3, isx, bml3, isl, app3, gsub3, st3, dic3, prs3, dkeys, newl, finv, view3, lcg3, id, bag_c, bag_a, bag_r, bag_m, bag_n, bag_pa, bag_pr, bag_pm, bag_pn, bag_len, up_same, up_up, at3_0, at3_1, at3_2, toNat_2, Int.toNat_zero, Int.toNat_one, istru_bl, istru_int, istru_non, istru_tup, istru_lst, istru_kls, istru_str, add3_ii, add3_ss, add3_tt, sub3_ii, mul3_ii, fdv3_ii, mod3_ii, pow3_ii, neg3_i, eqn3_ii, eqn3_ss, eqn3_bb, eqn3_tup, eqn3_lst, eqn3_non, cmi3_ii, isn3_bb, isn3_nn, isn3_on, isn3_tn, isn3_in, isn3_sn, isn3_rn, isn3_ln, isn3_bn, ix3_lst, ix3_kls, ix3_tup, ix3_ri, ix3_rs, opt3_some, getf_obj, seqj_lst, seqj_kls, seqj_ref, tupj_tup, len3_lst, len3_kls, len3_tup, len3_str, len3_ref, int3_i, int3_b, abs3_i, str3_i, lisf3_lst, lisf3_kls, lisf3_tup, list3_lst, list3_kls, list3_tup, tuple3_lst, tuple3_kls, tuple3_tup, isi_2, typ_non, typ_bl, typ_int, typ_str, typ_tup, typ_lst, typ_kls, typ_obj, typok_ty, typok_ref, clsv_ty, clsv_ref, eqo3_obj, onlyb_bl, adl3_ll, all3_lst, List.set_cons_zero, List.set_cons_succ, List.getElem?_cons_zero, List.getElem?_cons_succ, List.map_cons, List.map_nil, List.length_cons, List.length_nil, if_true, if_false, reduceIte, reduceCtorEq, Option.map_some, Option.some.injEq, and_true, true_and, List.cons_append, List.nil_append, Nat.reduceAdd, Nat.reduceLeDiff, Nat.reduceEqDiff, exists_eq_left', exists_eq_left, exists_and_left, exists_eq_right, exists_and_right, exists_const, Bool.not_true, Bool.not_false, kt_NoneType_int, kt_NoneType_bool, kt_NoneType_str, kt_NoneType_tuple, kt_NoneType_list, kt_NoneType_dict, kt_bool_int, kt_bool_bool, kt_bool_str, kt_bool_tuple, kt_bool_list, kt_bool_dict, kt_int_int, kt_int_bool, kt_int_str, kt_int_tuple, kt_int_list, kt_int_dict, kt_str_int, kt_str_bool, kt_str_str, kt_str_tuple, kt_str_list, kt_str_dict, kt_tuple_int, kt_tuple_bool, kt_tuple_str, kt_tuple_tuple, kt_tuple_list, kt_tuple_dict, kt_list_int, kt_list_bool, kt_list_str, kt_list_tuple, kt_list_list, kt_list_dict, kt_dict_int, kt_dict_bool, kt_dict_str, kt_dict_tuple, kt_dict_list, kt_dict_dict]
    refine ⟨b, 3, rfl, hb, ⟨by decide, by decide⟩, fun r G1 hr h1 => ?_⟩
    unfold rd_many_3
    simp only [var3, con3, op3, un3, tst3, chain3, tru3, vno3, van3, vo3, not3, and3, or3, ite3, nil3, cons3, tup3, lst3, lsf3, nx3, seq3, brk3, cnt3, drop3, ret3, retn3, ifs3, set3, asg3, gn3, gnil3, gcons3, gtup3, for3, ilst3, itup3, irng1, irng2, call3, fld3, sfld3, meth3, make3, raise3, frz3, try3, wTry3, inSuite3, outOf3, xfld3, cb3, isx, bml3, isl, app3, gsub3, st3, dic3, prs3, dkeys, newl, finv, view3, lcg3, id, bag_c, bag_a, bag_r, bag_m, bag_n, bag_pa, bag_pr, bag_pm, bag_pn, bag_len, up_same, up_up, at3_0, at3_1, at3_2, toNat_2, Int.toNat_zero, Int.toNat_one, istru_bl, istru_int, istru_non, istru_tup, istru_lst, istru_kls, istru_str, add3_ii, add3_ss, add3_tt, sub3_ii, mul3_ii, fdv3_ii, mod3_ii, pow3_ii, neg3_i, eqn3_ii, eqn3_ss, eqn3_bb, eqn3_tup, eqn3_lst, eqn3_non, cmi3_ii, isn3_bb, isn3_nn, isn3_on, isn3_tn, isn3_in, isn3_sn, isn3_rn, isn3_ln, isn3_bn, ix3_lst, ix3_kls, ix3_tup, ix3_ri, ix3_rs, opt3_some, getf_obj, seqj_lst, seqj_kls, seqj_ref, tupj_tup, len3_lst, len3_kls, len3_tup, len3_str, len3_ref, int3_i, int3_b, abs3_i, str3_i, lisf3_lst, lisf3_kls, lisf3_tup, list3_lst, list3_kls, list3_tup, tuple3_lst, tuple3_kls, tuple3_tup, isi_2, typ_non, typ_bl, typ_int, typ_str, typ_tup, typ_lst, typ_kls, typ_obj, typok_ty, typok_ref, clsv_ty, clsv_ref, eqo3_obj, onlyb_bl, adl3_ll, all3_lst, List.set_cons_zero, List.set_cons_succ, List.getElem?_cons_zero, List.getElem?_cons_succ, List.map_cons, List.map_nil, List.length_cons, List.length_nil, if_true, if_false, reduceIte, reduceCtorEq, Option.map_some, Option.some.injEq, and_true, true_and, List.cons_append, List.nil_append, Nat.reduceAdd, Nat.reduceLeDiff, Nat.reduceEqDiff, exists_eq_left', exists_eq_left, exists_and_left, exists_eq_right, exists_and_right, exists_const, Bool.not_true, Bool.not_false, kt_NoneType_int, kt_NoneType_bool, kt_NoneType_str, kt_NoneType_tuple, kt_NoneType_list, kt_NoneType_dict, kt_bool_int, kt_bool_bool, kt_bool_str, kt_bool_tuple, kt_bool_list, kt_bool_dict, kt_int_int, kt_int_bool, kt_int_str, kt_int_tuple, kt_int_list, kt_int_dict, kt_str_int, kt_str_bool, kt_str_str, kt_str_tuple, kt_str_list, kt_str_dict, kt_tuple_int, kt_tuple_bool, kt_tuple_str, kt_tuple_tuple, kt_tuple_list, kt_tuple_dict, kt_list_int, kt_list_bool, kt_list_str, kt_list_tuple, kt_list_list, kt_list_dict, kt_dict_int, kt_dict_bool, kt_dict_str, kt_dict_tuple, kt_dict_list, kt_dict_dict]
    by_cases c1 : r = 0
    · simp only [c1, decide_true, if_true]
      unfold rd_many_0
      simp only [var3, con3, op3, un3, tst3, chain3, tru3, vno3, van3, vo3, not3, and3, or3, ite3, nil3, cons3, tup3, lst3, lsf3, nx3, seq3, brk3, cnt3, drop3, ret3, retn3, ifs3, set3, asg3, gn3, gnil3, gcons3, gtup3, for3, ilst3, itup3, irng1, irng2, call3, fld3, sfld3, meth3, make3, raise3, frz3, try3, wTry3, inSuite3, outOf3, xfld3, cb3, isx, bml3, isl, app3, gsub3, st3, dic3, prs3, dkeys, newl, finv, view3, lcg3, id, bag_c, bag_a, bag_r, bag_m, bag_n, bag_pa, bag_pr, bag_pm, bag_pn, bag_len, up_same, up_up, at3_0, at3_1, at3_2, toNat_2, Int.toNat_zero, Int.toNat_one, istru_bl, istru_int, istru_non, istru_tup, istru_lst, istru_kls, istru_str, add3_ii, add3_ss, add3_tt, sub3_ii, mul3_ii, fdv3_ii, mod3_ii, pow3_ii, neg3_i, eqn3_ii, eqn3_ss, eqn3_bb, eqn3_tup, eqn3_lst, eqn3_non, cmi3_ii, isn3_bb, isn3_nn, isn3_on, isn3_tn, isn3_in, isn3_sn, isn3_rn, isn3_ln, isn3_bn, ix3_lst, ix3_kls, ix3_tup, ix3_ri, ix3_rs, opt3_some, getf_obj, seqj_lst, seqj_kls, seqj_ref, tupj_tup, len3_lst, len3_kls, len3_tup, len3_str, len3_ref, int3_i, int3_b, abs3_i, str3_i, lisf3_lst, lisf3_kls, lisf3_tup, list3_lst, list3_kls, list3_tup, tuple3_lst, tuple3_kls, tuple3_tup, isi_2, typ_non, typ_bl, typ_int, typ_str, typ_tup, typ_lst, typ_kls, typ_obj, typok_ty, typok_ref, clsv_ty, clsv_ref, eqo3_obj, onlyb_bl, adl3_ll, all3_lst, List.set_cons_zero, List.set_cons_succ, List.getElem?_cons_zero, List.getElem?_cons_succ, List.map_cons, List.map_nil, List.length_cons, List.length_nil, if_true, if_false, reduceIte, reduceCtorEq, Option.map_some, Option.some.injEq, and_true, true_and, List.cons_append, List.nil_append, Nat.reduceAdd, Nat.reduceLeDiff, Nat.reduceEqDiff, exists_eq_left', exists_eq_left, exists_and_left, exists_eq_right, exists_and_right, exists_const, Bool.not_true, Bool.not_false, kt_NoneType_int, kt_NoneType_bool, kt_NoneType_str, kt_NoneType_tuple, kt_NoneType_list, kt_NoneType_dict, kt_bool_int, kt_bool_bool, kt_bool_str, kt_bool_tuple, kt_bool_list, kt_bool_dict, kt_int_int, kt_int_bool, kt_int_str, kt_int_tuple, kt_int_list, kt_int_dict, kt_str_int, kt_str_bool, kt_str_str, kt_str_tuple, kt_str_list, kt_str_dict, kt_tuple_int, kt_tuple_bool, kt_tuple_str, kt_tuple_tuple, kt_tuple_list, kt_tuple_dict, kt_list_int, kt_list_bool, kt_list_str, kt_list_tuple, kt_list_list, kt_list_dict, kt_dict_int, kt_dict_bool, kt_dict_str, kt_dict_tuple, kt_dict_list, kt_dict_dict]
      exact ⟨b, 3, rfl, h1.bag, ⟨by decide, by decide⟩, fun r G2 hr h2 => rt_same (hq _ _ (h1.trans h2))⟩
    · simp only [c1, decide_false, if_false, Bool.false_eq_true]
      unfold rd_many_4
      simp only [var3, con3, op3, un3, tst3, chain3, tru3, vno3, van3, vo3, not3, and3, or3, ite3, nil3, cons3, tup3, lst3, lsf3, nx3, seq3, brk3, cnt3, drop3, ret3, retn3, ifs3, set3, asg3, gn3, gnil3, gcons3, gtup3, for3, ilst3, itup3, irng1, irng2, call3, fld3, sfld3, meth3, make3, raise3, frz3, try3, wTry3, inSuite3, outOf3, xfld3, cb3, isx, bml3, isl, app3, gsub3, st3, dic3, prs3, dkeys, newl, finv, view3, lcg3, id, bag_c, bag_a, bag_r, bag_m, bag_n, bag_pa, bag_pr, bag_pm, bag_pn, bag_len, up_same, up_up, at3_0, at3_1, at3_2, toNat_2, Int.toNat_zero, Int.toNat_one, istru_bl, istru_int, istru_non, istru_tup, istru_lst, istru_kls, istru_str, add3_ii, add3_ss, add3_tt, sub3_ii, mul3_ii, fdv3_ii, mod3_ii, pow3_ii, neg3_i, eqn3_ii, eqn3_ss, eqn3_bb, eqn3_tup, eqn3_lst, eqn3_non, cmi3_ii, isn3_bb, isn3_nn, isn3_on, isn3_tn, isn3_in, isn3_sn, isn3_rn, isn3_ln, isn3_bn, ix3_lst, ix3_kls, ix3_tup, ix3_ri, ix3_rs, opt3_some, getf_obj, seqj_lst, seqj_kls, seqj_ref, tupj_tup, len3_lst, len3_kls, len3_tup, len3_str, len3_ref, int3_i, int3_b, abs3_i, str3_i, lisf3_lst, lisf3_kls, lisf3_tup, list3_lst, list3_kls, list3_tup, tuple3_lst, tuple3_kls, tuple3_tup, isi_2, typ_non, typ_bl, typ_int, typ_str, typ_tup, typ_lst, typ_kls, typ_obj, typok_ty, typok_ref, clsv_ty, clsv_ref, eqo3_obj, onlyb_bl, adl3_ll, all3_lst, List.set_cons_zero, List.set_cons_succ, List.getElem?_cons_zero, List.getElem?_cons_succ, List.map_cons, List.map_nil, List.length_cons, List.length_nil, if_true, if_false, reduceIte, reduceCtorEq, Option.map_some, Option.some.injEq, and_true, true_and, List.cons_append, List.nil_append, Nat.reduceAdd, Nat.reduceLeDiff, Nat.reduceEqDiff, exists_eq_left', exists_eq_left, exists_and_left, exists_eq_right, exists_and_right, exists_const, Bool.not_true, Bool.not_false, kt_NoneType_int, kt_NoneType_bool, kt_NoneType_str, kt_NoneType_tuple, kt_NoneType_list, kt_NoneType_dict, kt_bool_int, kt_bool_bool, kt_bool_str, kt_bool_tuple, kt_bool_list, kt_bool_dict, kt_int_int, kt_int_bool, kt_int_str, kt_int_tuple, kt_int_list, kt_int_dict, kt_str_int, kt_str_bool, kt_str_str, kt_str_tuple, kt_str_list, kt_str_dict, kt_tuple_int, kt_tuple_bool, kt_tuple_str, kt_tuple_tuple, kt_tuple_list, kt_tuple_dict, kt_list_int, kt_list_bool, kt_list_str, kt_list_tuple, kt_list_list, kt_list_dict, kt_dict_int, kt_dict_bool, kt_dict_str, kt_dict_tuple, kt_dict_list, kt_dict_dict]
      by_cases c2 : r = 1
      · simp only [c2, decide_true, if_true]
        unfold rd_many_1
        simp only [var3, con3, op3, un3, tst3, chain3, tru3, vno3, van3, vo3, not3, and3, or3, ite3, nil3, cons3, tup3, lst3, lsf3, nx3, seq3, brk3, cnt3, drop3, ret3, retn3, ifs3, set3, asg3, gn3, gnil3, gcons3, gtup3, for3, ilst3, itup3, irng1, irng2, call3, fld3, sfld3, meth3, make3, raise3, frz3, try3, wTry3, inSuite3, outOf3, xfld3, cb3, isx, bml3, isl, app3, gsub3, st3, dic3, prs3, dkeys, newl, finv, view3, lcg3, id, bag_c, bag_a, bag_r, bag_m, bag_n, bag_pa, bag_pr, bag_pm, bag_pn, bag_len, up_same, up_up, at3_0, at3_1, at3_2, toNat_2, Int.toNat_zero, Int.toNat_one, istru_bl, istru_int, istru_non, istru_tup, istru_lst, istru_kls, istru_str, add3_ii, add3_ss, add3_tt, sub3_ii, mul3_ii, fdv3_ii, mod3_ii, pow3_ii, neg3_i, eqn3_ii, eqn3_ss, eqn3_bb, eqn3_tup, eqn3_lst, eqn3_non, cmi3_ii, isn3_bb, isn3_nn, isn3_on, isn3_tn, isn3_in, isn3_sn, isn3_rn, isn3_ln, isn3_bn, ix3_lst, ix3_kls, ix3_tup, ix3_ri, ix3_rs, opt3_some, getf_obj, seqj_lst, seqj_kls, seqj_ref, tupj_tup, len3_lst, len3_kls, len3_tup, len3_str, len3_ref, int3_i, int3_b, abs3_i, str3_i, lisf3_lst, lisf3_kls, lisf3_tup, list3_lst, list3_kls, list3_tup, tuple3_lst, tuple3_kls, tuple3_tup, isi_2, typ_non, typ_bl, typ_int, typ_str, typ_tup, typ_lst, typ_kls, typ_obj, typok_ty, typok_ref, clsv_ty, clsv_ref, eqo3_obj, onlyb_bl, adl3_ll, all3_lst, List.set_cons_zero, List.set_cons_succ, List.getElem?_cons_zero, List.getElem?_cons_succ, List.map_cons, List.map_nil, List.length_cons, List.length_nil, if_true, if_false, reduceIte, reduceCtorEq, Option.map_some, Option.some.injEq, and_true, true_and, List.cons_append, List.nil_append, Nat.reduceAdd, Nat.reduceLeDiff, Nat.reduceEqDiff, exists_eq_left', exists_eq_left, exists_and_left, exists_eq_right, exists_and_right, exists_const, Bool.not_true, Bool.not_false, kt_NoneType_int, kt_NoneType_bool, kt_NoneType_str, kt_NoneType_tuple, kt_NoneType_list, kt_NoneType_dict, kt_bool_int, kt_bool_bool, kt_bool_str, kt_bool_tuple, kt_bool_list, kt_bool_dict, kt_int_int, kt_int_bool, kt_int_str, kt_int_tuple, kt_int_list, kt_int_dict, kt_str_int, kt_str_bool, kt_str_str, kt_str_tuple, kt_str_list, kt_str_dict, kt_tuple_int, kt_tuple_bool, kt_tuple_str, kt_tuple_tuple, kt_tuple_list, kt_tuple_dict, kt_list_int, kt_list_bool, kt_list_str, kt_list_tuple, kt_list_list, kt_list_dict, kt_dict_int, kt_dict_bool, kt_dict_str, kt_dict_tuple, kt_dict_list, kt_dict_dict]
        exact ⟨b, 1000001, rfl, h1.bag, ⟨by decide, by decide⟩, fun r G2 hr h2 => rt_same (hq _ _ (h1.trans h2))⟩
      · simp only [c2, decide_false, if_false, Bool.false_eq_true]
        unfold rd_many_5
        simp only [var3, con3, op3, un3, tst3, chain3, tru3, vno3, van3, vo3, not3, and3, or3, ite3, nil3, cons3, tup3, lst3, lsf3, nx3, seq3, brk3, cnt3, drop3, ret3, retn3, ifs3, set3, asg3, gn3, gnil3, gcons3, gtup3, for3, ilst3, itup3, irng1, irng2, call3, fld3, sfld3, meth3, make3, raise3, frz3, try3, wTry3, inSuite3, outOf3, xfld3, cb3, isx, bml3, isl, app3, gsub3, st3, dic3, prs3, dkeys, newl, finv, view3, lcg3, id, bag_c, bag_a, bag_r, bag_m, bag_n, bag_pa, bag_pr, bag_pm, bag_pn, bag_len, up_same, up_up, at3_0, at3_1, at3_2, toNat_2, Int.toNat_zero, Int.toNat_one, istru_bl, istru_int, istru_non, istru_tup, istru_lst, istru_kls, istru_str, add3_ii, add3_ss, add3_tt, sub3_ii, mul3_ii, fdv3_ii, mod3_ii, pow3_ii, neg3_i, eqn3_ii, eqn3_ss, eqn3_bb, eqn3_tup, eqn3_lst, eqn3_non, cmi3_ii, isn3_bb, isn3_nn, isn3_on, isn3_tn, isn3_in, isn3_sn, isn3_rn, isn3_ln, isn3_bn, ix3_lst, ix3_kls, ix3_tup, ix3_ri, ix3_rs, opt3_some, getf_obj, seqj_lst, seqj_kls, seqj_ref, tupj_tup, len3_lst, len3_kls, len3_tup, len3_str, len3_ref, int3_i, int3_b, abs3_i, str3_i, lisf3_lst, lisf3_kls, lisf3_tup, list3_lst, list3_kls, list3_tup, tuple3_lst, tuple3_kls, tuple3_tup, isi_2, typ_non, typ_bl, typ_int, typ_str, typ_tup, typ_lst, typ_kls, typ_obj, typok_ty, typok_ref, clsv_ty, clsv_ref, eqo3_obj, onlyb_bl, adl3_ll, all3_lst, List.set_cons_zero, List.set_cons_succ, List.getElem?_cons_zero, List.getElem?_cons_succ, List.map_cons, List.map_nil, List.length_cons, List.length_nil, if_true, if_false, reduceIte, reduceCtorEq, Option.map_some, Option.some.injEq, and_true, true_and, List.cons_append, List.nil_append, Nat.reduceAdd, Nat.reduceLeDiff, Nat.reduceEqDiff, exists_eq_left', exists_eq_left, exists_and_left, exists_eq_right, exists_and_right, exists_const, Bool.not_true, Bool.not_false, kt_NoneType_int, kt_NoneType_bool, kt_NoneType_str, kt_NoneType_tuple, kt_NoneType_list, kt_NoneType_dict, kt_bool_int, kt_bool_bool, kt_bool_str, kt_bool_tuple, kt_bool_list, kt_bool_dict, kt_int_int, kt_int_bool, kt_int_str, kt_int_tuple, kt_int_list, kt_int_dict, kt_str_int, kt_str_bool, kt_str_str, kt_str_tuple, kt_str_list, kt_str_dict, kt_tuple_int, kt_tuple_bool, kt_tuple_str, kt_tuple_tuple, kt_tuple_list, kt_tuple_dict, kt_list_int, kt_list_bool, kt_list_str, kt_list_tuple, kt_list_list, kt_list_dict, kt_dict_int, kt_dict_bool, kt_dict_str, kt_dict_tuple, kt_dict_list, kt_dict_dict]
        refine ⟨⟨by decide, by decide, by decide⟩, ⟨by decide, by decide, by decide⟩, ⟨by decide, by decide, by decide⟩, ⟨by decide, by decide, by decide⟩, b, _, rfl, h1.bag, ⟨by decide, by decide⟩, fun d G2 hd h2 => ⟨⟨by decide, by decide, by decide⟩, b, _, rfl, h2.bag, ⟨by decide, by decide⟩, fun r G3 _ h3 => ?_⟩⟩
        simp only [List.mem_cons, List.not_mem_nil, or_false] at hd
        rcases hd with rfl | rfl | rfl | rfl <;> exact rt_same (hq _ _ (h1.trans (h2.trans h3)))

end K52

namespace K52
open PySem PySem.Spec PyProof.Rows L2 T3

def sp_holds_prices (K : PySem.W.Frag) (a : Ad) : Sp3 := fun ds G Q _ => ∃ p q r row, ds = [prD a p q r, row] ∧ lsv row G = some [.int p, .int q, .int r] ∧ Q (.bl true) G

/- _law_told = [_law_made.restate, _law_made.reweigh, _law_made.exchange] -/
def rd_holds_prices_0 (K : PySem.W.Frag) (a : Ad) (W : W3) : T3S := (set3 2 (lsf3 (cons3 (fld3 [a.c_Prices] "restate" (var3 0)) (cons3 (fld3 [a.c_Prices] "reweigh" (var3 0)) (cons3 (fld3 [a.c_Prices] "exchange" (var3 0)) nil3)))))
/- return all([_law_integer(_law_one) for _law_one in _law_told]) and _law_told == _law_row -/
def rd_holds_prices_1 (K : PySem.W.Frag) (a : Ad) (W : W3) : T3S := (ret3 (van3 (cb3 all3 (cons3 (lcf3 (ilst3 (var3 2)) (svn 3) yes3 (call3 (sp_integer K a) W0 1 0 (fun ds _ => ds) (cons3 (var3 3) nil3) nil3) [3]) nil3)) (op3 eq3 (var3 2) (var3 1))))
def rd_holds_prices (K : PySem.W.Frag) (a : Ad) (W : W3) : T3S := (seq3 (rd_holds_prices_0 K a W) (rd_holds_prices_1 K a W))
theorem dv_holds_prices {P : Program} {w : World} {K : PySem.W.Frag} {mg : Str → Option Value} {base : Heap} {a : Ad} {d : Fd} (T : Txt K mg a d) (wlp : ∀ ds G Q E, (sp_holds_prices K a) ds G Q E → ds.length = 2)
    (h : ∀ (ds : List D) (G : H3) (Q : K3) (E : X3), (sp_holds_prices K a) ds G Q E → rd_holds_prices K a (ex3 E) (ends3 Q) (start3 N_holds_prices ds) G) : Fk P w K mg base 2 a.f_holds_prices d.f_holds_prices ["_law_made", "_law_row"] (sp_holds_prices K a) :=
  fn3 T.F_holds_prices sc_holds_prices wlp fun cdv A outer s H E B E3 hr tk po => by
    have sc := sc_holds_prices
    have hu64 := hr.units
    have hu1 := hu_of hr
    refine ⟨rd_holds_prices K a (ex3 E3), ?_, fun ds G Q h' => h ds G Q E3 h'⟩
    exact (b_cons (s_set 2 sc.nd (e_lsf (a_cons (e_fld (fun C hC => by rw [List.mem_singleton.mp hC]; exact ⟨T.cls_Prices, T.na_Prices_restate⟩) (e_var 0)) (a_cons (e_fld (fun C hC => by rw [List.mem_singleton.mp hC]; exact ⟨T.cls_Prices, T.na_Prices_reweigh⟩) (e_var 0)) (a_cons (e_fld (fun C hC => by rw [List.mem_singleton.mp hC]; exact ⟨T.cls_Prices, T.na_Prices_exchange⟩) (e_var 0)) a_nil))))) (b_one (s_ret (e_and (e_cb (c_all rfl) T.n_all (by decide +kernel) (a_cons (e_lcf (own := [("_law_one", 3)]) (ct_name (by decide)) rfl sc.nd (i_list (e_var 2)) (blkOk_by (N := N_holds_prices) (sc := defScope s_holds_prices) (by decide +kernel)) (fun _ _ _ _ _ => pg_name (i := 3) sc.nd rfl (.inl rfl)) (fun _ _ _ _ _ => Ifs3.nil) (fun _ _ _ _ _ => fun _ => (e_call (ok_integer T) (hr.mono (by decide)) takesF T.g_integer T.F_integer.kp (ab_integer T) (a_cons (e_var 3) a_nil)))) a_nil)) (e_one (e_cmp (o_eq hu64) (e_var 2) (e_var 1)))))))

theorem ok_holds_prices {P : Program} {w : World} {K : PySem.W.Frag} {mg : Str → Option Value} {base : Heap} {a : Ad} {d : Fd} (T : Txt K mg a d) : Fk P w K mg base 2 a.f_holds_prices d.f_holds_prices ["_law_made", "_law_row"] (sp_holds_prices K a) :=
  dv_holds_prices T (by rintro _ _ _ _ ⟨_, _, _, _, rfl, _⟩; rfl) fun ds G Q E h => by
    obtain ⟨p, q, r, row, rfl, hr, h⟩ := h
    show rd_holds_prices K a _ (ends3 Q) [some (prD a p q r), some row, none, none] G
    unfold rd_holds_prices rd_holds_prices_0 prD
    simp only [var3, con3, op3, un3, tst3, chain3, tru3, vno3, van3, vo3, not3, and3, or3, ite3, nil3, cons3, tup3, lst3, lsf3, nx3, seq3, brk3, cnt3, drop3, ret3, retn3, ifs3, set3, asg3, gn3, gnil3, gcons3, gtup3, for3, ilst3, itup3, irng1, irng2, call3, fld3, sfld3, meth3, make3, raise3, frz3, try3, wTry3, inSuite3, outOf3, xfld3, cb3, isx, bml3, isl, app3, gsub3, st3, dic3, prs3, dkeys, newl, finv, view3, lcg3, id, bag_c, bag_a, bag_r, bag_m, bag_n, bag_pa, bag_pr, bag_pm, bag_pn, bag_len, up_same, up_up, at3_0, at3_1, at3_2, toNat_2, Int.toNat_zero, Int.toNat_one, istru_bl, istru_int, istru_non, istru_tup, istru_lst, istru_kls, istru_str, add3_ii, add3_ss, add3_tt, sub3_ii, mul3_ii, fdv3_ii, mod3_ii, pow3_ii, neg3_i, eqn3_ii, eqn3_ss, eqn3_bb, eqn3_tup, eqn3_lst, eqn3_non, cmi3_ii, isn3_bb, isn3_nn, isn3_on, isn3_tn, isn3_in, isn3_sn, isn3_rn, isn3_ln, isn3_bn, ix3_lst, ix3_kls, ix3_tup, ix3_ri, ix3_rs, opt3_some, getf_obj, seqj_lst, seqj_kls, seqj_ref, tupj_tup, len3_lst, len3_kls, len3_tup, len3_str, len3_ref, int3_i, int3_b, abs3_i, str3_i, lisf3_lst, lisf3_kls, lisf3_tup, list3_lst, list3_kls, list3_tup, tuple3_lst, tuple3_kls, tuple3_tup, isi_2, typ_non, typ_bl, typ_int, typ_str, typ_tup, typ_lst, typ_kls, typ_obj, typok_ty, typok_ref, clsv_ty, clsv_ref, eqo3_obj, onlyb_bl, adl3_ll, all3_lst, List.set_cons_zero, List.set_cons_succ, List.getElem?_cons_zero, List.getElem?_cons_succ, List.map_cons, List.map_nil, List.length_cons, List.length_nil, if_true, if_false, reduceIte, reduceCtorEq, Option.map_some, Option.some.injEq, and_true, true_and, List.cons_append, List.nil_append, Nat.reduceAdd, Nat.reduceLeDiff, Nat.reduceEqDiff, exists_eq_left', exists_eq_left, exists_and_left, exists_eq_right, exists_and_right, exists_const, Bool.not_true, Bool.not_false, kt_NoneType_int, kt_NoneType_bool, kt_NoneType_str, kt_NoneType_tuple, kt_NoneType_list, kt_NoneType_dict, kt_bool_int, kt_bool_bool, kt_bool_str, kt_bool_tuple, kt_bool_list, kt_bool_dict, kt_int_int, kt_int_bool, kt_int_str, kt_int_tuple, kt_int_list, kt_int_dict, kt_str_int, kt_str_bool, kt_str_str, kt_str_tuple, kt_str_list, kt_str_dict, kt_tuple_int, kt_tuple_bool, kt_tuple_str, kt_tuple_tuple, kt_tuple_list, kt_tuple_dict, kt_list_int, kt_list_bool, kt_list_str, kt_list_tuple, kt_list_list, kt_list_dict, kt_dict_int, kt_dict_bool, kt_dict_str, kt_dict_tuple, kt_dict_list, kt_dict_dict, prF_p, prF_q, prF_r, List.mem_singleton]
    unfold rd_holds_prices_1
    simp only [var3, con3, op3, un3, tst3, chain3, tru3, vno3, van3, vo3, not3, and3, or3, ite3, nil3, cons3, tup3, lst3, lsf3, nx3, seq3, brk3, cnt3, drop3, ret3, retn3, ifs3, set3, asg3, gn3, gnil3, gcons3, gtup3, for3, ilst3, itup3, irng1, irng2, call3, fld3, sfld3, meth3, make3, raise3, frz3, try3, wTry3, inSuite3, outOf3, xfld3, cb3, isx, bml3, isl, app3, gsub3, st3, dic3, prs3, dkeys, newl, finv, view3, lcg3, id, bag_c, bag_a, bag_r, bag_m, bag_n, bag_pa, bag_pr, bag_pm, bag_pn, bag_len, up_same, up_up, at3_0, at3_1, at3_2, toNat_2, Int.toNat_zero, Int.toNat_one, istru_bl, istru_int, istru_non, istru_tup, istru_lst, istru_kls, istru_str, add3_ii, add3_ss, add3_tt, sub3_ii, mul3_ii, fdv3_ii, mod3_ii, pow3_ii, neg3_i, eqn3_ii, eqn3_ss, eqn3_bb, eqn3_tup, eqn3_lst, eqn3_non, cmi3_ii, isn3_bb, isn3_nn, isn3_on, isn3_tn, isn3_in, isn3_sn, isn3_rn, isn3_ln, isn3_bn, ix3_lst, ix3_kls, ix3_tup, ix3_ri, ix3_rs, opt3_some, getf_obj, seqj_lst, seqj_kls, seqj_ref, tupj_tup, len3_lst, len3_kls, len3_tup, len3_str, len3_ref, int3_i, int3_b, abs3_i, str3_i, lisf3_lst, lisf3_kls, lisf3_tup, list3_lst, list3_kls, list3_tup, tuple3_lst, tuple3_kls, tuple3_tup, isi_2, typ_non, typ_bl, typ_int, typ_str, typ_tup, typ_lst, typ_kls, typ_obj, typok_ty, typok_ref, clsv_ty, clsv_ref, eqo3_obj, onlyb_bl, adl3_ll, all3_lst, List.set_cons_zero, List.set_cons_succ, List.getElem?_cons_zero, List.getElem?_cons_succ, List.map_cons, List.map_nil, List.length_cons, List.length_nil, if_true, if_false, reduceIte, reduceCtorEq, Option.map_some, Option.some.injEq, and_true, true_and, List.cons_append, List.nil_append, Nat.reduceAdd, Nat.reduceLeDiff, Nat.reduceEqDiff, exists_eq_left', exists_eq_left, exists_and_left, exists_eq_right, exists_and_right, exists_const, Bool.not_true, Bool.not_false, kt_NoneType_int, kt_NoneType_bool, kt_NoneType_str, kt_NoneType_tuple, kt_NoneType_list, kt_NoneType_dict, kt_bool_int, kt_bool_bool, kt_bool_str, kt_bool_tuple, kt_bool_list, kt_bool_dict, kt_int_int, kt_int_bool, kt_int_str, kt_int_tuple, kt_int_list, kt_int_dict, kt_str_int, kt_str_bool, kt_str_str, kt_str_tuple, kt_str_list, kt_str_dict, kt_tuple_int, kt_tuple_bool, kt_tuple_str, kt_tuple_tuple, kt_tuple_list, kt_tuple_dict, kt_list_int, kt_list_bool, kt_list_str, kt_list_tuple, kt_list_list, kt_list_dict, kt_dict_int, kt_dict_bool, kt_dict_str, kt_dict_tuple, kt_dict_list, kt_dict_dict]
    refine lci_map (fun _ => .bl true) G trivial (by simp) (fun x hx => ?_) ?_
    · refine ⟨_, rfl, fun R h => ?_⟩
      simp only [var3, con3, op3, un3, tst3, chain3, tru3, vno3, van3, vo3, not3, and3, or3, ite3, nil3, cons3, tup3, lst3, lsf3, nx3, seq3, brk3, cnt3, drop3, ret3, retn3, ifs3, set3, asg3, gn3, gnil3, gcons3, gtup3, for3, ilst3, itup3, irng1, irng2, call3, fld3, sfld3, meth3, make3, raise3, frz3, try3, wTry3, inSuite3, outOf3, xfld3, cb3, isx, bml3, isl, app3, gsub3, st3, dic3, prs3, dkeys, newl, finv, view3, lcg3, id, bag_c, bag_a, bag_r, bag_m, bag_n, bag_pa, bag_pr, bag_pm, bag_pn, bag_len, up_same, up_up, at3_0, at3_1, at3_2, toNat_2, Int.toNat_zero, Int.toNat_one, istru_bl, istru_int, istru_non, istru_tup, istru_lst, istru_kls, istru_str, add3_ii, add3_ss, add3_tt, sub3_ii, mul3_ii, fdv3_ii, mod3_ii, pow3_ii, neg3_i, eqn3_ii, eqn3_ss, eqn3_bb, eqn3_tup, eqn3_lst, eqn3_non, cmi3_ii, isn3_bb, isn3_nn, isn3_on, isn3_tn, isn3_in, isn3_sn, isn3_rn, isn3_ln, isn3_bn, ix3_lst, ix3_kls, ix3_tup, ix3_ri, ix3_rs, opt3_some, getf_obj, seqj_lst, seqj_kls, seqj_ref, tupj_tup, len3_lst, len3_kls, len3_tup, len3_str, len3_ref, int3_i, int3_b, abs3_i, str3_i, lisf3_lst, lisf3_kls, lisf3_tup, list3_lst, list3_kls, list3_tup, tuple3_lst, tuple3_kls, tuple3_tup, isi_2, typ_non, typ_bl, typ_int, typ_str, typ_tup, typ_lst, typ_kls, typ_obj, typok_ty, typok_ref, clsv_ty, clsv_ref, eqo3_obj, onlyb_bl, adl3_ll, all3_lst, List.set_cons_zero, List.set_cons_succ, List.getElem?_cons_zero, List.getElem?_cons_succ, List.map_cons, List.map_nil, List.length_cons, List.length_nil, if_true, if_false, reduceIte, reduceCtorEq, Option.map_some, Option.some.injEq, and_true, true_and, List.cons_append, List.nil_append, Nat.reduceAdd, Nat.reduceLeDiff, Nat.reduceEqDiff, exists_eq_left', exists_eq_left, exists_and_left, exists_eq_right, exists_and_right, exists_const, Bool.not_true, Bool.not_false, kt_NoneType_int, kt_NoneType_bool, kt_NoneType_str, kt_NoneType_tuple, kt_NoneType_list, kt_NoneType_dict, kt_bool_int, kt_bool_bool, kt_bool_str, kt_bool_tuple, kt_bool_list, kt_bool_dict, kt_int_int, kt_int_bool, kt_int_str, kt_int_tuple, kt_int_list, kt_int_dict, kt_str_int, kt_str_bool, kt_str_str, kt_str_tuple, kt_str_list, kt_str_dict, kt_tuple_int, kt_tuple_bool, kt_tuple_str, kt_tuple_tuple, kt_tuple_list, kt_tuple_dict, kt_list_int, kt_list_bool, kt_list_str, kt_list_tuple, kt_list_list, kt_list_dict, kt_dict_int, kt_dict_bool, kt_dict_str, kt_dict_tuple, kt_dict_list, kt_dict_dict, wipe3]
      simp only [List.mem_cons, List.not_mem_nil, or_false] at hx
      rcases hx with rfl | rfl | rfl <;> exact ⟨_, true, rfl, rfl, h⟩
    · simp only [var3, con3, op3, un3, tst3, chain3, tru3, vno3, van3, vo3, not3, and3, or3, ite3, nil3, cons3, tup3, lst3, lsf3, nx3, seq3, brk3, cnt3, drop3, ret3, retn3, ifs3, set3, asg3, gn3, gnil3, gcons3, gtup3, for3, ilst3, itup3, irng1, irng2, call3, fld3, sfld3, meth3, make3, raise3, frz3, try3, wTry3, inSuite3, outOf3, xfld3, cb3, isx, bml3, isl, app3, gsub3, st3, dic3, prs3, dkeys, newl, finv, view3, lcg3, id, bag_c, bag_a, bag_r, bag_m, bag_n, bag_pa, bag_pr, bag_pm, bag_pn, bag_len, up_same, up_up, at3_0, at3_1, at3_2, toNat_2, Int.toNat_zero, Int.toNat_one, istru_bl, istru_int, istru_non, istru_tup, istru_lst, istru_kls, istru_str, add3_ii, add3_ss, add3_tt, sub3_ii, mul3_ii, fdv3_ii, mod3_ii, pow3_ii, neg3_i, eqn3_ii, eqn3_ss, eqn3_bb, eqn3_tup, eqn3_lst, eqn3_non, cmi3_ii, isn3_bb, isn3_nn, isn3_on, isn3_tn, isn3_in, isn3_sn, isn3_rn, isn3_ln, isn3_bn, ix3_lst, ix3_kls, ix3_tup, ix3_ri, ix3_rs, opt3_some, getf_obj, seqj_lst, seqj_kls, seqj_ref, tupj_tup, len3_lst, len3_kls, len3_tup, len3_str, len3_ref, int3_i, int3_b, abs3_i, str3_i, lisf3_lst, lisf3_kls, lisf3_tup, list3_lst, list3_kls, list3_tup, tuple3_lst, tuple3_kls, tuple3_tup, isi_2, typ_non, typ_bl, typ_int, typ_str, typ_tup, typ_lst, typ_kls, typ_obj, typok_ty, typok_ref, clsv_ty, clsv_ref, eqo3_obj, onlyb_bl, adl3_ll, all3_lst, List.set_cons_zero, List.set_cons_succ, List.getElem?_cons_zero, List.getElem?_cons_succ, List.map_cons, List.map_nil, List.length_cons, List.length_nil, if_true, if_false, reduceIte, reduceCtorEq, Option.map_some, Option.some.injEq, and_true, true_and, List.cons_append, List.nil_append, Nat.reduceAdd, Nat.reduceLeDiff, Nat.reduceEqDiff, exists_eq_left', exists_eq_left, exists_and_left, exists_eq_right, exists_and_right, exists_const, Bool.not_true, Bool.not_false, kt_NoneType_int, kt_NoneType_bool, kt_NoneType_str, kt_NoneType_tuple, kt_NoneType_list, kt_NoneType_dict, kt_bool_int, kt_bool_bool, kt_bool_str, kt_bool_tuple, kt_bool_list, kt_bool_dict, kt_int_int, kt_int_bool, kt_int_str, kt_int_tuple, kt_int_list, kt_int_dict, kt_str_int, kt_str_bool, kt_str_str, kt_str_tuple, kt_str_list, kt_str_dict, kt_tuple_int, kt_tuple_bool, kt_tuple_str, kt_tuple_tuple, kt_tuple_list, kt_tuple_dict, kt_list_int, kt_list_bool, kt_list_str, kt_list_tuple, kt_list_list, kt_list_dict, kt_dict_int, kt_dict_bool, kt_dict_str, kt_dict_tuple, kt_dict_list, kt_dict_dict, bls]
      have e1 : pyds [.int p, .int q, .int r] = some [PyData.int p, .int q, .int r] := rfl
      rw [if_pos (by decide)]
      refine ⟨_, _, pyat_lsv rfl e1, pyat_lsv hr e1, ⟨rfl, rfl⟩, ?_⟩
      rw [PySem.SeqAt.eqv_refl _ rfl]
      exact rt_same h

end K52

namespace K52
open PySem PySem.Spec PyProof.Rows L2 T3

def sp_sums_up (K : PySem.W.Frag) (a : Ad) : Sp3 := fun ds G Q _ => ∃ p q r x y z row cnt, ds = [prD a p q r, row, cnt] ∧ lsv row G = some [.int p, .int q, .int r] ∧ lsv cnt G = some [.int x, .int y, .int z] ∧ (Pr p ∧ Pr q ∧ Pr r) ∧ Q (.bl true) G

/- _law_told = _law_made.total(_law_many_here[0], _law_many_here[1], _law_many_here[2]) -/
def rd_sums_up_0 (K : PySem.W.Frag) (a : Ad) (W : W3) : T3S := (set3 3 (meth3 a.c_Prices "total" (sp_Prices_total K a) W 4 (fun ds _ => ds) (var3 0) (cons3 (op3 ix3 (var3 2) (con3 (.int 0))) (cons3 (op3 ix3 (var3 2) (con3 (.int 1))) (cons3 (op3 ix3 (var3 2) (con3 (.int 2))) nil3)))))
/- return _law_integer(_law_told) and _law_told == _law_many_here[0] * _law_row[0] + _law_many_here[1]  -/
def rd_sums_up_1 (K : PySem.W.Frag) (a : Ad) (W : W3) : T3S := (ret3 (van3 (call3 (sp_integer K a) W 1 0 (fun ds _ => ds) (cons3 (var3 3) nil3) nil3) (op3 eq3 (var3 3) (op3 add3 (op3 add3 (op3 mul3 (op3 ix3 (var3 2) (con3 (.int 0))) (op3 ix3 (var3 1) (con3 (.int 0)))) (op3 mul3 (op3 ix3 (var3 2) (con3 (.int 1))) (op3 ix3 (var3 1) (con3 (.int 1))))) (op3 mul3 (op3 ix3 (var3 2) (con3 (.int 2))) (op3 ix3 (var3 1) (con3 (.int 2))))))))
def rd_sums_up (K : PySem.W.Frag) (a : Ad) (W : W3) : T3S := (seq3 (rd_sums_up_0 K a W) (rd_sums_up_1 K a W))
theorem dv_sums_up {P : Program} {w : World} {K : PySem.W.Frag} {mg : Str → Option Value} {base : Heap} {a : Ad} {d : Fd} (T : Txt K mg a d) (wlp : ∀ ds G Q E, (sp_sums_up K a) ds G Q E → ds.length = 3)
    (h : ∀ (ds : List D) (G : H3) (Q : K3) (E : X3), (sp_sums_up K a) ds G Q E → rd_sums_up K a (ex3 E) (ends3 Q) (start3 N_sums_up ds) G) : Fk P w K mg base 2 a.f_sums_up d.f_sums_up ["_law_made", "_law_row", "_law_many_here"] (sp_sums_up K a) :=
  fn3 T.F_sums_up sc_sums_up wlp fun cdv A outer s H E B E3 hr tk po => by
    have sc := sc_sums_up
    have hu64 := hr.units
    have hu1 := hu_of hr
    refine ⟨rd_sums_up K a (ex3 E3), ?_, fun ds G Q h' => h ds G Q E3 h'⟩
    exact (b_cons (s_set 3 sc.nd (e_meth (ok_Prices_total T) (hr.mono (by decide)) tk T.cls_Prices T.me_Prices_total (ab_Prices_total T) (e_var 0) (a_cons (e_ix hu1 (e_var 2) e_int) (a_cons (e_ix hu1 (e_var 2) e_int) (a_cons (e_ix hu1 (e_var 2) e_int) a_nil))))) (b_one (s_ret (e_and (e_call (ok_integer T) (hr.mono (by decide)) tk T.g_integer T.F_integer.kp (ab_integer T) (a_cons (e_var 3) a_nil)) (e_one (e_cmp (o_eq hu64) (e_var 3) (e_op o_add (e_op o_add (e_op o_mul (e_ix hu1 (e_var 2) e_int) (e_ix hu1 (e_var 1) e_int)) (e_op o_mul (e_ix hu1 (e_var 2) e_int) (e_ix hu1 (e_var 1) e_int))) (e_op o_mul (e_ix hu1 (e_var 2) e_int) (e_ix hu1 (e_var 1) e_int)))))))))

theorem ok_sums_up {P : Program} {w : World} {K : PySem.W.Frag} {mg : Str → Option Value} {base : Heap} {a : Ad} {d : Fd} (T : Txt K mg a d) : Fk P w K mg base 2 a.f_sums_up d.f_sums_up ["_law_made", "_law_row", "_law_many_here"] (sp_sums_up K a) :=
  dv_sums_up T (by rintro _ _ _ _ ⟨_, _, _, _, _, _, _, _, rfl, _⟩; rfl) fun ds G Q E h => by
    obtain ⟨p, q, r, x, y, z, row, cnt, rfl, hr, hc, ⟨hp, hq, hs⟩, h⟩ := h
    unfold Pr at hp hq hs
    show rd_sums_up K a _ (ends3 Q) [some (prD a p q r), some row, some cnt, none] G
    unfold rd_sums_up rd_sums_up_0
    simp only [seq3, set3, meth3, var3, List.getElem?_cons_zero, List.getElem?_cons_succ]
    refine ⟨⟨_, rfl, rfl⟩, ?_⟩
    simp only [cons3, op3, nil3, con3, var3, List.getElem?_cons_zero, List.getElem?_cons_succ]
    refine ix3_lsv hc (ix3_lsv hc (ix3_lsv hc ⟨rfl, p, q, r, x, y, z, rfl, ⟨by omega, by omega, by omega⟩, ?_⟩))
    unfold rd_sums_up_1
    simp only [List.set_cons_zero, List.set_cons_succ, ret3, van3, call3, cons3, nil3, var3, List.getElem?_cons_zero, List.getElem?_cons_succ]
    refine ⟨⟨rfl, rfl⟩, _, true, rfl, rfl, ?_⟩
    simp only [istru, tru, lok, if_true, true_and, op3, con3, var3, List.getElem?_cons_zero, List.getElem?_cons_succ]
    refine ix3_lsv hc (ix3_lsv hr ⟨mulok_r (by omega), ix3_lsv hc (ix3_lsv hr ⟨mulok_r (by omega), ix3_lsv hc (ix3_lsv hr ⟨mulok_r (by omega), ?_⟩)⟩)⟩)
    exact rt_same (of_dec rfl h)

end K52

namespace K52
open PySem PySem.Spec PyProof.Rows L2 T3

/-- the first of three that is no price -/
def dueD (bp bq br : Bool) : D := .tup [.str (if (bp && bq && br) = true then "none" else "BadPrices"), .str (if bp = true then if bq = true then if br = true then "" else "exchange" else "reweigh" else "restate"), .bl true]
def sp_refused (K : PySem.W.Frag) (a : Ad) : Sp3 := fun ds G Q _ => ∃ row x y z bp bq br, ds = [row] ∧ lsv row G = some [x, y, z] ∧ prOk x = some bp ∧ prOk y = some bq ∧ prOk z = some br ∧ Q (dueD bp bq br) G

/- Prices(_law_row[0], _law_row[1], _law_row[2]) -/
def rd_refused_0 (K : PySem.W.Frag) (a : Ad) (W : W3) : T3S := (drop3 (frz3 (make3 a.c_Prices (sp_Pricesx_initx K a) W 4 0 (fun ds _ => ds) (cons3 (op3 ix3 (var3 0) (con3 (.int 0))) (cons3 (op3 ix3 (var3 0) (con3 (.int 1))) (cons3 (op3 ix3 (var3 0) (con3 (.int 2))) nil3))) nil3)))
def hd_refused_1 (K : PySem.W.Frag) (a : Ad) (W : W3) : List Hd3 := [⟨(.ref a.c_BadPrices), some 1, fun ea ec ef => (seq3 (set3 2 (van3 (cb3 (isx K ea ec) (cons3 (var3 1) (cons3 (con3 (.ref a.c_FallsError)) nil3))) (van3 (cb3 (isx K ea ec) (cons3 (var3 1) (cons3 (con3 (.ty "ValueError")) nil3))) (vno3 (cb3 (isx K ea ec) (cons3 (var3 1) (cons3 (con3 (.ref a.c_BadNumber)) nil3))))))) (ret3 (tup3 (cons3 (con3 (.str "BadPrices")) (cons3 (xfld3 ea ec ef [a.c_BadPrices] "part" (var3 1)) (cons3 (var3 2) nil3))))))⟩, ⟨(.ref a.c_FallsError), none, fun ea ec ef => (ret3 (tup3 (cons3 (con3 (.str "another")) (cons3 (con3 (.str "")) (cons3 (con3 (.bl false)) nil3)))))⟩]
/- try: -/
def rd_refused_1 (K : PySem.W.Frag) (a : Ad) (W : W3) : T3S := (try3 K W (hd_refused_1 K a W) (fun W => (rd_refused_0 K a W)))
/- return ('none', '', True) -/
def rd_refused_2 (K : PySem.W.Frag) (a : Ad) (W : W3) : T3S := (ret3 (tup3 (cons3 (con3 (.str "none")) (cons3 (con3 (.str "")) (cons3 (con3 (.bl true)) nil3)))))
def rd_refused (K : PySem.W.Frag) (a : Ad) (W : W3) : T3S := (seq3 (rd_refused_1 K a W) (rd_refused_2 K a W))
theorem dv_refused {P : Program} {w : World} {K : PySem.W.Frag} {mg : Str → Option Value} {base : Heap} {a : Ad} {d : Fd} (T : Txt K mg a d) (wlp : ∀ ds G Q E, (sp_refused K a) ds G Q E → ds.length = 1)
    (h : ∀ (ds : List D) (G : H3) (Q : K3) (E : X3), (sp_refused K a) ds G Q E → rd_refused K a (ex3 E) (ends3 Q) (start3 N_refused ds) G) : Fk P w K mg base 5 a.f_refused d.f_refused ["_law_row"] (sp_refused K a) :=
  fn3 T.F_refused sc_refused wlp fun cdv A outer s H E B E3 hr tk po => by
    have sc := sc_refused
    have hu64 := hr.units
    have hu1 := hu_of hr
    refine ⟨rd_refused K a (ex3 E3), ?_, fun ds G Q h' => h ds G Q E3 h'⟩
    exact (b_cons (s_try tk rfl rfl (fun W B2 pn xe tk po => (b_one (s_expr (e_frz (e_make T.mk_Prices (ok_Pricesx_initx T) (hr.mono (by decide)) tk T.g_Prices (ab_Pricesx_initx T) (a_cons (e_ix hu1 (e_var 0) e_int) (a_cons (e_ix hu1 (e_var 0) e_int) (a_cons (e_ix hu1 (e_var 0) e_int) a_nil)))))))) (TryOk3.named 1 ⟨rfl, by decide, .inl T.g_BadPrices⟩ sc.nd rfl rfl (fun ea oe ec ed pn ef B' es => (b_cons (s_set 2 sc.nd (e_and (e_cb (c_isx es) T.n_isinstance (by decide +kernel) (a_cons (e_var 1) (a_cons (e_ref (by rfl) T.g_FallsError) a_nil))) (e_and (e_cb (c_isx es) T.n_isinstance (by decide +kernel) (a_cons (e_var 1) (a_cons (e_bty (by rfl) T.n_ValueError (by decide +kernel)) a_nil))) (e_one (e_not (e_cb (c_isx es) T.n_isinstance (by decide +kernel) (a_cons (e_var 1) (a_cons (e_ref (by rfl) T.g_BadNumber) a_nil)))))))) (b_one (s_ret (e_tup (a_cons e_str (a_cons (e_xf es (fun C hC => by rw [List.mem_singleton.mp hC]; exact T.xf_BadPrices) (e_var 1)) (a_cons (e_var 2) a_nil)))))))) (TryOk3.plain ⟨rfl, by decide, .inl T.g_FallsError⟩ (fun ea oe ec ed pn ef B' es => (b_one (s_ret (e_tup (a_cons e_str (a_cons e_str (a_cons e_bl a_nil))))))) TryOk3.nil))) (b_one (s_ret (e_tup (a_cons e_str (a_cons e_str (a_cons e_bl a_nil)))))))

theorem ok_refused {P : Program} {w : World} {K : PySem.W.Frag} {mg : Str → Option Value} {base : Heap} {a : Ad} {d : Fd} (T : Txt K mg a d) : Fk P w K mg base 5 a.f_refused d.f_refused ["_law_row"] (sp_refused K a) :=
  dv_refused T (by rintro _ _ _ _ ⟨_, _, _, _, _, _, _, rfl, _⟩; rfl) fun ds G Q E h => by
    obtain ⟨row, x, y, z, bp, bq, br, rfl, hr, h1, h2, h3, h⟩ := h
    show rd_refused K a _ (ends3 Q) [some row, none, none] G
    unfold rd_refused rd_refused_1 rd_refused_0
    simp only [seq3, try3, drop3, frz3, make3, var3, cons3, op3, nil3, con3, List.getElem?_cons_zero, List.getElem?_cons_succ]
    refine ix3_lsv hr (ix3_lsv hr (ix3_lsv hr ⟨⟨rfl, rfl⟩, fun p hp => ⟨p, x, y, z, bp, bq, br, rfl, up_same, h1, h2, h3, ?_⟩⟩))
    have good : (ends3 Q).rt (dueD true true true) G → rd_refused_2 K a (ex3 E) (ends3 Q) [some row, none, none] G := fun q => by
      unfold rd_refused_2
      simp only [var3, con3, op3, un3, tst3, chain3, tru3, vno3, van3, vo3, not3, and3, or3, ite3, nil3, cons3, tup3, lst3, lsf3, nx3, seq3, brk3, cnt3, drop3, ret3, retn3, ifs3, set3, asg3, gn3, gnil3, gcons3, gtup3, for3, ilst3, itup3, irng1, irng2, call3, fld3, sfld3, meth3, make3, raise3, frz3, try3, wTry3, inSuite3, outOf3, xfld3, cb3, isx, bml3, isl, app3, gsub3, st3, dic3, prs3, dkeys, newl, finv, view3, lcg3, id, bag_c, bag_a, bag_r, bag_m, bag_n, bag_pa, bag_pr, bag_pm, bag_pn, bag_len, up_same, up_up, at3_0, at3_1, at3_2, toNat_2, Int.toNat_zero, Int.toNat_one, istru_bl, istru_int, istru_non, istru_tup, istru_lst, istru_kls, istru_str, add3_ii, add3_ss, add3_tt, sub3_ii, mul3_ii, fdv3_ii, mod3_ii, pow3_ii, neg3_i, eqn3_ii, eqn3_ss, eqn3_bb, eqn3_tup, eqn3_lst, eqn3_non, cmi3_ii, isn3_bb, isn3_nn, isn3_on, isn3_tn, isn3_in, isn3_sn, isn3_rn, isn3_ln, isn3_bn, ix3_lst, ix3_kls, ix3_tup, ix3_ri, ix3_rs, opt3_some, getf_obj, seqj_lst, seqj_kls, seqj_ref, tupj_tup, len3_lst, len3_kls, len3_tup, len3_str, len3_ref, int3_i, int3_b, abs3_i, str3_i, lisf3_lst, lisf3_kls, lisf3_tup, list3_lst, list3_kls, list3_tup, tuple3_lst, tuple3_kls, tuple3_tup, isi_2, typ_non, typ_bl, typ_int, typ_str, typ_tup, typ_lst, typ_kls, typ_obj, typok_ty, typok_ref, clsv_ty, clsv_ref, eqo3_obj, onlyb_bl, adl3_ll, all3_lst, List.set_cons_zero, List.set_cons_succ, List.getElem?_cons_zero, List.getElem?_cons_succ, List.map_cons, List.map_nil, List.length_cons, List.length_nil, if_true, if_false, reduceIte, reduceCtorEq, Option.map_some, Option.some.injEq, and_true, true_and, List.cons_append, List.nil_append, Nat.reduceAdd, Nat.reduceLeDiff, Nat.reduceEqDiff, exists_eq_left', exists_eq_left, exists_and_left, exists_eq_right, exists_and_right, exists_const, Bool.not_true, Bool.not_false, kt_NoneType_int, kt_NoneType_bool, kt_NoneType_str, kt_NoneType_tuple, kt_NoneType_list, kt_NoneType_dict, kt_bool_int, kt_bool_bool, kt_bool_str, kt_bool_tuple, kt_bool_list, kt_bool_dict, kt_int_int, kt_int_bool, kt_int_str, kt_int_tuple, kt_int_list, kt_int_dict, kt_str_int, kt_str_bool, kt_str_str, kt_str_tuple, kt_str_list, kt_str_dict, kt_tuple_int, kt_tuple_bool, kt_tuple_str, kt_tuple_tuple, kt_tuple_list, kt_tuple_dict, kt_list_int, kt_list_bool, kt_list_str, kt_list_tuple, kt_list_list, kt_list_dict, kt_dict_int, kt_dict_bool, kt_dict_str, kt_dict_tuple, kt_dict_list, kt_dict_dict]
      exact q
    have due : ∀ s : Str, Q (.tup [.str "BadPrices", .str s, .bl true]) G → wTry3 K (ex3 E) { nx := rd_refused_2 K a (ex3 E) (ends3 Q), rt := (ends3 Q).rt, bk := (ends3 Q).bk, ct := (ends3 Q).ct } (hd_refused_1 K a (ex3 E)) (.ref a.c_BadPrices) [("part", .str s)] [some row, none, none] G := fun s q => by
      unfold hd_refused_1
      simp only [var3, con3, op3, un3, tst3, chain3, tru3, vno3, van3, vo3, not3, and3, or3, ite3, nil3, cons3, tup3, lst3, lsf3, nx3, seq3, brk3, cnt3, drop3, ret3, retn3, ifs3, set3, asg3, gn3, gnil3, gcons3, gtup3, for3, ilst3, itup3, irng1, irng2, call3, fld3, sfld3, meth3, make3, raise3, frz3, try3, wTry3, inSuite3, outOf3, xfld3, cb3, isx, bml3, isl, app3, gsub3, st3, dic3, prs3, dkeys, newl, finv, view3, lcg3, id, bag_c, bag_a, bag_r, bag_m, bag_n, bag_pa, bag_pr, bag_pm, bag_pn, bag_len, up_same, up_up, at3_0, at3_1, at3_2, toNat_2, Int.toNat_zero, Int.toNat_one, istru_bl, istru_int, istru_non, istru_tup, istru_lst, istru_kls, istru_str, add3_ii, add3_ss, add3_tt, sub3_ii, mul3_ii, fdv3_ii, mod3_ii, pow3_ii, neg3_i, eqn3_ii, eqn3_ss, eqn3_bb, eqn3_tup, eqn3_lst, eqn3_non, cmi3_ii, isn3_bb, isn3_nn, isn3_on, isn3_tn, isn3_in, isn3_sn, isn3_rn, isn3_ln, isn3_bn, ix3_lst, ix3_kls, ix3_tup, ix3_ri, ix3_rs, opt3_some, getf_obj, seqj_lst, seqj_kls, seqj_ref, tupj_tup, len3_lst, len3_kls, len3_tup, len3_str, len3_ref, int3_i, int3_b, abs3_i, str3_i, lisf3_lst, lisf3_kls, lisf3_tup, list3_lst, list3_kls, list3_tup, tuple3_lst, tuple3_kls, tuple3_tup, isi_2, typ_non, typ_bl, typ_int, typ_str, typ_tup, typ_lst, typ_kls, typ_obj, typok_ty, typok_ref, clsv_ty, clsv_ref, eqo3_obj, onlyb_bl, adl3_ll, all3_lst, List.set_cons_zero, List.set_cons_succ, List.getElem?_cons_zero, List.getElem?_cons_succ, List.map_cons, List.map_nil, List.length_cons, List.length_nil, if_true, if_false, reduceIte, reduceCtorEq, Option.map_some, Option.some.injEq, and_true, true_and, List.cons_append, List.nil_append, Nat.reduceAdd, Nat.reduceLeDiff, Nat.reduceEqDiff, exists_eq_left', exists_eq_left, exists_and_left, exists_eq_right, exists_and_right, exists_const, Bool.not_true, Bool.not_false, kt_NoneType_int, kt_NoneType_bool, kt_NoneType_str, kt_NoneType_tuple, kt_NoneType_list, kt_NoneType_dict, kt_bool_int, kt_bool_bool, kt_bool_str, kt_bool_tuple, kt_bool_list, kt_bool_dict, kt_int_int, kt_int_bool, kt_int_str, kt_int_tuple, kt_int_list, kt_int_dict, kt_str_int, kt_str_bool, kt_str_str, kt_str_tuple, kt_str_list, kt_str_dict, kt_tuple_int, kt_tuple_bool, kt_tuple_str, kt_tuple_tuple, kt_tuple_list, kt_tuple_dict, kt_list_int, kt_list_bool, kt_list_str, kt_list_tuple, kt_list_list, kt_list_dict, kt_dict_int, kt_dict_bool, kt_dict_str, kt_dict_tuple, kt_dict_list, kt_dict_dict, List.mem_singleton]
      refine ⟨true, T.exm_BadPrices_BadPrices, ?_⟩
      rw [if_pos rfl]
      refine fun _ => ⟨_, rfl, T.xe_BadPrices, true, T.kit_BadPrices_FallsError, ?_⟩
      rw [if_pos rfl]
      refine ⟨_, rfl, T.xe_BadPrices, true, T.kit_BadPrices_ValueError, ?_⟩
      rw [if_pos rfl]
      exact ⟨_, rfl, T.xe_BadPrices, false, T.kit_BadPrices_BadNumber, rt_same q⟩
    have pp : dn (up G p (.ins a.c_Prices [])) p = G := dn_up hp
    rw [pp]
    cases bp with
    | false => exact due _ h
    | true => cases bq with
      | false => exact due _ h
      | true => cases br with
        | false => exact due _ h
        | true =>
          simp only [if_true]
          refine ⟨trivial, ?_⟩
          simp only [var3, con3, op3, un3, tst3, chain3, tru3, vno3, van3, vo3, not3, and3, or3, ite3, nil3, cons3, tup3, lst3, lsf3, nx3, seq3, brk3, cnt3, drop3, ret3, retn3, ifs3, set3, asg3, gn3, gnil3, gcons3, gtup3, for3, ilst3, itup3, irng1, irng2, call3, fld3, sfld3, meth3, make3, raise3, frz3, try3, wTry3, inSuite3, outOf3, xfld3, cb3, isx, bml3, isl, app3, gsub3, st3, dic3, prs3, dkeys, newl, finv, view3, lcg3, id, bag_c, bag_a, bag_r, bag_m, bag_n, bag_pa, bag_pr, bag_pm, bag_pn, bag_len, up_same, up_up, at3_0, at3_1, at3_2, toNat_2, Int.toNat_zero, Int.toNat_one, istru_bl, istru_int, istru_non, istru_tup, istru_lst, istru_kls, istru_str, add3_ii, add3_ss, add3_tt, sub3_ii, mul3_ii, fdv3_ii, mod3_ii, pow3_ii, neg3_i, eqn3_ii, eqn3_ss, eqn3_bb, eqn3_tup, eqn3_lst, eqn3_non, cmi3_ii, isn3_bb, isn3_nn, isn3_on, isn3_tn, isn3_in, isn3_sn, isn3_rn, isn3_ln, isn3_bn, ix3_lst, ix3_kls, ix3_tup, ix3_ri, ix3_rs, opt3_some, getf_obj, seqj_lst, seqj_kls, seqj_ref, tupj_tup, len3_lst, len3_kls, len3_tup, len3_str, len3_ref, int3_i, int3_b, abs3_i, str3_i, lisf3_lst, lisf3_kls, lisf3_tup, list3_lst, list3_kls, list3_tup, tuple3_lst, tuple3_kls, tuple3_tup, isi_2, typ_non, typ_bl, typ_int, typ_str, typ_tup, typ_lst, typ_kls, typ_obj, typok_ty, typok_ref, clsv_ty, clsv_ref, eqo3_obj, onlyb_bl, adl3_ll, all3_lst, List.set_cons_zero, List.set_cons_succ, List.getElem?_cons_zero, List.getElem?_cons_succ, List.map_cons, List.map_nil, List.length_cons, List.length_nil, if_true, if_false, reduceIte, reduceCtorEq, Option.map_some, Option.some.injEq, and_true, true_and, List.cons_append, List.nil_append, Nat.reduceAdd, Nat.reduceLeDiff, Nat.reduceEqDiff, exists_eq_left', exists_eq_left, exists_and_left, exists_eq_right, exists_and_right, exists_const, Bool.not_true, Bool.not_false, kt_NoneType_int, kt_NoneType_bool, kt_NoneType_str, kt_NoneType_tuple, kt_NoneType_list, kt_NoneType_dict, kt_bool_int, kt_bool_bool, kt_bool_str, kt_bool_tuple, kt_bool_list, kt_bool_dict, kt_int_int, kt_int_bool, kt_int_str, kt_int_tuple, kt_int_list, kt_int_dict, kt_str_int, kt_str_bool, kt_str_str, kt_str_tuple, kt_str_list, kt_str_dict, kt_tuple_int, kt_tuple_bool, kt_tuple_str, kt_tuple_tuple, kt_tuple_list, kt_tuple_dict, kt_list_int, kt_list_bool, kt_list_str, kt_list_tuple, kt_list_list, kt_list_dict, kt_dict_int, kt_dict_bool, kt_dict_str, kt_dict_tuple, kt_dict_list, kt_dict_dict, frzk, dn_up hp]
          exact good (rt_same h)

end K52

namespace K52
open PySem PySem.Spec PyProof.Rows L2 T3

def sp_caught (K : PySem.W.Frag) (a : Ad) : Sp3 := fun ds G Q _ => ∃ row x y z bp bq br, ds = [row] ∧ lsv row G = some [x, y, z] ∧ prOk x = some bp ∧ prOk y = some bq ∧ prOk z = some br ∧ Q (.bl (!(bp && bq && br))) G

/- Prices(_law_row[0], _law_row[1], _law_row[2]) -/
def rd_caught_0 (K : PySem.W.Frag) (a : Ad) (W : W3) : T3S := (drop3 (frz3 (make3 a.c_Prices (sp_Pricesx_initx K a) W 4 0 (fun ds _ => ds) (cons3 (op3 ix3 (var3 0) (con3 (.int 0))) (cons3 (op3 ix3 (var3 0) (con3 (.int 1))) (cons3 (op3 ix3 (var3 0) (con3 (.int 2))) nil3))) nil3)))
def hd_caught_1 (K : PySem.W.Frag) (a : Ad) (W : W3) : List Hd3 := [⟨(.ref a.c_FallsError), none, fun ea ec ef => (ret3 (con3 (.bl true)))⟩]
/- try: -/
def rd_caught_1 (K : PySem.W.Frag) (a : Ad) (W : W3) : T3S := (try3 K W (hd_caught_1 K a W) (fun W => (rd_caught_0 K a W)))
/- return False -/
def rd_caught_2 (K : PySem.W.Frag) (a : Ad) (W : W3) : T3S := (ret3 (con3 (.bl false)))
def rd_caught (K : PySem.W.Frag) (a : Ad) (W : W3) : T3S := (seq3 (rd_caught_1 K a W) (rd_caught_2 K a W))
theorem dv_caught {P : Program} {w : World} {K : PySem.W.Frag} {mg : Str → Option Value} {base : Heap} {a : Ad} {d : Fd} (T : Txt K mg a d) (wlp : ∀ ds G Q E, (sp_caught K a) ds G Q E → ds.length = 1)
    (h : ∀ (ds : List D) (G : H3) (Q : K3) (E : X3), (sp_caught K a) ds G Q E → rd_caught K a (ex3 E) (ends3 Q) (start3 N_caught ds) G) : Fk P w K mg base 5 a.f_caught d.f_caught ["_law_row"] (sp_caught K a) :=
  fn3 T.F_caught sc_caught wlp fun cdv A outer s H E B E3 hr tk po => by
    have sc := sc_caught
    have hu64 := hr.units
    have hu1 := hu_of hr
    refine ⟨rd_caught K a (ex3 E3), ?_, fun ds G Q h' => h ds G Q E3 h'⟩
    exact (b_cons (s_try tk rfl rfl (fun W B2 pn xe tk po => (b_one (s_expr (e_frz (e_make T.mk_Prices (ok_Pricesx_initx T) (hr.mono (by decide)) tk T.g_Prices (ab_Pricesx_initx T) (a_cons (e_ix hu1 (e_var 0) e_int) (a_cons (e_ix hu1 (e_var 0) e_int) (a_cons (e_ix hu1 (e_var 0) e_int) a_nil)))))))) (TryOk3.plain ⟨rfl, by decide, .inl T.g_FallsError⟩ (fun ea oe ec ed pn ef B' es => (b_one (s_ret e_bl))) TryOk3.nil)) (b_one (s_ret e_bl)))

theorem ok_caught {P : Program} {w : World} {K : PySem.W.Frag} {mg : Str → Option Value} {base : Heap} {a : Ad} {d : Fd} (T : Txt K mg a d) : Fk P w K mg base 5 a.f_caught d.f_caught ["_law_row"] (sp_caught K a) :=
  dv_caught T (by rintro _ _ _ _ ⟨_, _, _, _, _, _, _, rfl, _⟩; rfl) fun ds G Q E h => by
    obtain ⟨row, x, y, z, bp, bq, br, rfl, hr, h1, h2, h3, h⟩ := h
    show rd_caught K a _ (ends3 Q) [some row] G
    unfold rd_caught rd_caught_1 rd_caught_0
    simp only [seq3, try3, drop3, frz3, make3, var3, cons3, op3, nil3, con3, List.getElem?_cons_zero, List.getElem?_cons_succ]
    refine ix3_lsv hr (ix3_lsv hr (ix3_lsv hr ⟨⟨rfl, rfl⟩, fun p hp => ⟨p, x, y, z, bp, bq, br, rfl, up_same, h1, h2, h3, ?_⟩⟩))
    have good : (ends3 Q).rt (.bl false) G → rd_caught_2 K a (ex3 E) (ends3 Q) [some row] G := fun q => by
      unfold rd_caught_2
      simp only [var3, con3, op3, un3, tst3, chain3, tru3, vno3, van3, vo3, not3, and3, or3, ite3, nil3, cons3, tup3, lst3, lsf3, nx3, seq3, brk3, cnt3, drop3, ret3, retn3, ifs3, set3, asg3, gn3, gnil3, gcons3, gtup3, for3, ilst3, itup3, irng1, irng2, call3, fld3, sfld3, meth3, make3, raise3, frz3, try3, wTry3, inSuite3, outOf3, xfld3, cb3, isx, bml3, isl, app3, gsub3, st3, dic3, prs3, dkeys, newl, finv, view3, lcg3, id, bag_c, bag_a, bag_r, bag_m, bag_n, bag_pa, bag_pr, bag_pm, bag_pn, bag_len, up_same, up_up, at3_0, at3_1, at3_2, toNat_2, Int.toNat_zero, Int.toNat_one, istru_bl, istru_int, istru_non, istru_tup, istru_lst, istru_kls, istru_str, add3_ii, add3_ss, add3_tt, sub3_ii, mul3_ii, fdv3_ii, mod3_ii, pow3_ii, neg3_i, eqn3_ii, eqn3_ss, eqn3_bb, eqn3_tup, eqn3_lst, eqn3_non, cmi3_ii, isn3_bb, isn3_nn, isn3_on, isn3_tn, isn3_in, isn3_sn, isn3_rn, isn3_ln, isn3_bn, ix3_lst, ix3_kls, ix3_tup, ix3_ri, ix3_rs, opt3_some, getf_obj, seqj_lst, seqj_kls, seqj_ref, tupj_tup, len3_lst, len3_kls, len3_tup, len3_str, len3_ref, int3_i, int3_b, abs3_i, str3_i, lisf3_lst, lisf3_kls, lisf3_tup, list3_lst, list3_kls, list3_tup, tuple3_lst, tuple3_kls, tuple3_tup, isi_2, typ_non, typ_bl, typ_int, typ_str, typ_tup, typ_lst, typ_kls, typ_obj, typok_ty, typok_ref, clsv_ty, clsv_ref, eqo3_obj, onlyb_bl, adl3_ll, all3_lst, List.set_cons_zero, List.set_cons_succ, List.getElem?_cons_zero, List.getElem?_cons_succ, List.map_cons, List.map_nil, List.length_cons, List.length_nil, if_true, if_false, reduceIte, reduceCtorEq, Option.map_some, Option.some.injEq, and_true, true_and, List.cons_append, List.nil_append, Nat.reduceAdd, Nat.reduceLeDiff, Nat.reduceEqDiff, exists_eq_left', exists_eq_left, exists_and_left, exists_eq_right, exists_and_right, exists_const, Bool.not_true, Bool.not_false, kt_NoneType_int, kt_NoneType_bool, kt_NoneType_str, kt_NoneType_tuple, kt_NoneType_list, kt_NoneType_dict, kt_bool_int, kt_bool_bool, kt_bool_str, kt_bool_tuple, kt_bool_list, kt_bool_dict, kt_int_int, kt_int_bool, kt_int_str, kt_int_tuple, kt_int_list, kt_int_dict, kt_str_int, kt_str_bool, kt_str_str, kt_str_tuple, kt_str_list, kt_str_dict, kt_tuple_int, kt_tuple_bool, kt_tuple_str, kt_tuple_tuple, kt_tuple_list, kt_tuple_dict, kt_list_int, kt_list_bool, kt_list_str, kt_list_tuple, kt_list_list, kt_list_dict, kt_dict_int, kt_dict_bool, kt_dict_str, kt_dict_tuple, kt_dict_list, kt_dict_dict]
      exact q
    have due : ∀ s : Str, Q (.bl true) G → wTry3 K (ex3 E) { nx := rd_caught_2 K a (ex3 E) (ends3 Q), rt := (ends3 Q).rt, bk := (ends3 Q).bk, ct := (ends3 Q).ct } (hd_caught_1 K a (ex3 E)) (.ref a.c_BadPrices) [("part", .str s)] [some row] G := fun s q => by
      unfold hd_caught_1
      simp only [var3, con3, op3, un3, tst3, chain3, tru3, vno3, van3, vo3, not3, and3, or3, ite3, nil3, cons3, tup3, lst3, lsf3, nx3, seq3, brk3, cnt3, drop3, ret3, retn3, ifs3, set3, asg3, gn3, gnil3, gcons3, gtup3, for3, ilst3, itup3, irng1, irng2, call3, fld3, sfld3, meth3, make3, raise3, frz3, try3, wTry3, inSuite3, outOf3, xfld3, cb3, isx, bml3, isl, app3, gsub3, st3, dic3, prs3, dkeys, newl, finv, view3, lcg3, id, bag_c, bag_a, bag_r, bag_m, bag_n, bag_pa, bag_pr, bag_pm, bag_pn, bag_len, up_same, up_up, at3_0, at3_1, at3_2, toNat_2, Int.toNat_zero, Int.toNat_one, istru_bl, istru_int, istru_non, istru_tup, istru_lst, istru_kls, istru_str, add3_ii, add3_ss, add3_tt, sub3_ii, mul3_ii, fdv3_ii, mod3_ii, pow3_ii, neg3_i, eqn3_ii, eqn3_ss, eqn3_bb, eqn3_tup, eqn3_lst, eqn3_non, cmi3_ii, isn3_bb, isn3_nn, isn3_on, isn3_tn, isn3_in, isn3_sn, isn3_rn, isn3_ln, isn3_bn, ix3_lst, ix3_kls, ix3_tup, ix3_ri, ix3_rs, opt3_some, getf_obj, seqj_lst, seqj_kls, seqj_ref, tupj_tup, len3_lst, len3_kls, len3_tup, len3_str, len3_ref, int3_i, int3_b, abs3_i, str3_i, lisf3_lst, lisf3_kls, lisf3_tup, list3_lst, list3_kls, list3_tup, tuple3_lst, tuple3_kls, tuple3_tup, isi_2, typ_non, typ_bl, typ_int, typ_str, typ_tup, typ_lst, typ_kls, typ_obj, typok_ty, typok_ref, clsv_ty, clsv_ref, eqo3_obj, onlyb_bl, adl3_ll, all3_lst, List.set_cons_zero, List.set_cons_succ, List.getElem?_cons_zero, List.getElem?_cons_succ, List.map_cons, List.map_nil, List.length_cons, List.length_nil, if_true, if_false, reduceIte, reduceCtorEq, Option.map_some, Option.some.injEq, and_true, true_and, List.cons_append, List.nil_append, Nat.reduceAdd, Nat.reduceLeDiff, Nat.reduceEqDiff, exists_eq_left', exists_eq_left, exists_and_left, exists_eq_right, exists_and_right, exists_const, Bool.not_true, Bool.not_false, kt_NoneType_int, kt_NoneType_bool, kt_NoneType_str, kt_NoneType_tuple, kt_NoneType_list, kt_NoneType_dict, kt_bool_int, kt_bool_bool, kt_bool_str, kt_bool_tuple, kt_bool_list, kt_bool_dict, kt_int_int, kt_int_bool, kt_int_str, kt_int_tuple, kt_int_list, kt_int_dict, kt_str_int, kt_str_bool, kt_str_str, kt_str_tuple, kt_str_list, kt_str_dict, kt_tuple_int, kt_tuple_bool, kt_tuple_str, kt_tuple_tuple, kt_tuple_list, kt_tuple_dict, kt_list_int, kt_list_bool, kt_list_str, kt_list_tuple, kt_list_list, kt_list_dict, kt_dict_int, kt_dict_bool, kt_dict_str, kt_dict_tuple, kt_dict_list, kt_dict_dict, List.mem_singleton]
      refine ⟨true, T.exm_BadPrices_FallsError, ?_⟩
      rw [if_pos rfl]
      exact fun _ => rt_same q
    have pp : dn (up G p (.ins a.c_Prices [])) p = G := dn_up hp
    rw [pp]
    cases bp with
    | false => exact due _ h
    | true => cases bq with
      | false => exact due _ h
      | true => cases br with
        | false => exact due _ h
        | true =>
          simp only [if_true]
          refine ⟨trivial, ?_⟩
          simp only [var3, con3, op3, un3, tst3, chain3, tru3, vno3, van3, vo3, not3, and3, or3, ite3, nil3, cons3, tup3, lst3, lsf3, nx3, seq3, brk3, cnt3, drop3, ret3, retn3, ifs3, set3, asg3, gn3, gnil3, gcons3, gtup3, for3, ilst3, itup3, irng1, irng2, call3, fld3, sfld3, meth3, make3, raise3, frz3, try3, wTry3, inSuite3, outOf3, xfld3, cb3, isx, bml3, isl, app3, gsub3, st3, dic3, prs3, dkeys, newl, finv, view3, lcg3, id, bag_c, bag_a, bag_r, bag_m, bag_n, bag_pa, bag_pr, bag_pm, bag_pn, bag_len, up_same, up_up, at3_0, at3_1, at3_2, toNat_2, Int.toNat_zero, Int.toNat_one, istru_bl, istru_int, istru_non, istru_tup, istru_lst, istru_kls, istru_str, add3_ii, add3_ss, add3_tt, sub3_ii, mul3_ii, fdv3_ii, mod3_ii, pow3_ii, neg3_i, eqn3_ii, eqn3_ss, eqn3_bb, eqn3_tup, eqn3_lst, eqn3_non, cmi3_ii, isn3_bb, isn3_nn, isn3_on, isn3_tn, isn3_in, isn3_sn, isn3_rn, isn3_ln, isn3_bn, ix3_lst, ix3_kls, ix3_tup, ix3_ri, ix3_rs, opt3_some, getf_obj, seqj_lst, seqj_kls, seqj_ref, tupj_tup, len3_lst, len3_kls, len3_tup, len3_str, len3_ref, int3_i, int3_b, abs3_i, str3_i, lisf3_lst, lisf3_kls, lisf3_tup, list3_lst, list3_kls, list3_tup, tuple3_lst, tuple3_kls, tuple3_tup, isi_2, typ_non, typ_bl, typ_int, typ_str, typ_tup, typ_lst, typ_kls, typ_obj, typok_ty, typok_ref, clsv_ty, clsv_ref, eqo3_obj, onlyb_bl, adl3_ll, all3_lst, List.set_cons_zero, List.set_cons_succ, List.getElem?_cons_zero, List.getElem?_cons_succ, List.map_cons, List.map_nil, List.length_cons, List.length_nil, if_true, if_false, reduceIte, reduceCtorEq, Option.map_some, Option.some.injEq, and_true, true_and, List.cons_append, List.nil_append, Nat.reduceAdd, Nat.reduceLeDiff, Nat.reduceEqDiff, exists_eq_left', exists_eq_left, exists_and_left, exists_eq_right, exists_and_right, exists_const, Bool.not_true, Bool.not_false, kt_NoneType_int, kt_NoneType_bool, kt_NoneType_str, kt_NoneType_tuple, kt_NoneType_list, kt_NoneType_dict, kt_bool_int, kt_bool_bool, kt_bool_str, kt_bool_tuple, kt_bool_list, kt_bool_dict, kt_int_int, kt_int_bool, kt_int_str, kt_int_tuple, kt_int_list, kt_int_dict, kt_str_int, kt_str_bool, kt_str_str, kt_str_tuple, kt_str_list, kt_str_dict, kt_tuple_int, kt_tuple_bool, kt_tuple_str, kt_tuple_tuple, kt_tuple_list, kt_tuple_dict, kt_list_int, kt_list_bool, kt_list_str, kt_list_tuple, kt_list_list, kt_list_dict, kt_dict_int, kt_dict_bool, kt_dict_str, kt_dict_tuple, kt_dict_list, kt_dict_dict, frzk, dn_up hp]
          exact good (rt_same h)

end K52

namespace K52
open PySem PySem.Spec PyProof.Rows L2 T3

def sp_bad (K : PySem.W.Frag) (a : Ad) : Sp3 := fun ds G Q _ => ∃ b, ds = [.ref b] ∧ Bag b G ∧ ∀ d G', prOk d = some false → BagTo b G G' → Q d G'

/- _law_bad_here = [-1, 1001, -1000, 10 ** 59, 1001 + _law_pick(_law_bag_here, 10 ** 6), -1 - _law_pick -/
def rd_bad_0 (K : PySem.W.Frag) (a : Ad) (W : W3) : T3S := (set3 1 (lsf3 (cons3 (un3 neg3 (con3 (.int 1))) (cons3 (con3 (.int 1001)) (cons3 (un3 neg3 (con3 (.int 1000))) (cons3 (op3 pow3 (con3 (.int 10)) (con3 (.int 59))) (cons3 (op3 add3 (con3 (.int 1001)) (call3 (sp_pick K a) W 2 0 (fun ds _ => ds) (cons3 (var3 0) (cons3 (op3 pow3 (con3 (.int 10)) (con3 (.int 6))) nil3)) nil3)) (cons3 (op3 sub3 (un3 neg3 (con3 (.int 1))) (call3 (sp_pick K a) W 2 0 (fun ds _ => ds) (cons3 (var3 0) (cons3 (con3 (.int 1000)) nil3)) nil3)) nil3))))))))
/- _law_bad_here = _law_bad_here + [True, False, None, '1', '', (1,), [2]] -/
def rd_bad_1 (K : PySem.W.Frag) (a : Ad) (W : W3) : T3S := (set3 1 (op3 adl3 (var3 1) (lsf3 (cons3 (con3 (.bl true)) (cons3 (con3 (.bl false)) (cons3 (con3 .non) (cons3 (con3 (.str "1")) (cons3 (con3 (.str "")) (cons3 (tup3 (cons3 (con3 (.int 1)) nil3)) (cons3 (lsf3 (cons3 (con3 (.int 2)) nil3)) nil3))))))))))
/- return _law_choice(_law_bag_here, _law_bad_here) -/
def rd_bad_2 (K : PySem.W.Frag) (a : Ad) (W : W3) : T3S := (ret3 (call3 (sp_choice K a) W 2 0 (fun ds _ => ds) (cons3 (var3 0) (cons3 (var3 1) nil3)) nil3))
def rd_bad (K : PySem.W.Frag) (a : Ad) (W : W3) : T3S := (seq3 (rd_bad_0 K a W) (seq3 (rd_bad_1 K a W) (rd_bad_2 K a W)))
theorem dv_bad {P : Program} {w : World} {K : PySem.W.Frag} {mg : Str → Option Value} {base : Heap} {a : Ad} {d : Fd} (T : Txt K mg a d) (wlp : ∀ ds G Q E, (sp_bad K a) ds G Q E → ds.length = 1)
    (h : ∀ (ds : List D) (G : H3) (Q : K3) (E : X3), (sp_bad K a) ds G Q E → rd_bad K a (ex3 E) (ends3 Q) (start3 N_bad ds) G) : Fk P w K mg base 3 a.f_bad d.f_bad ["_law_bag_here"] (sp_bad K a) :=
  fn3 T.F_bad sc_bad wlp fun cdv A outer s H E B E3 hr tk po => by
    have sc := sc_bad
    have hu64 := hr.units
    have hu1 := hu_of hr
    refine ⟨rd_bad K a (ex3 E3), ?_, fun ds G Q h' => h ds G Q E3 h'⟩
    exact (b_cons (s_set 1 sc.nd (e_lsf (a_cons (e_un o_neg e_int) (a_cons e_int (a_cons (e_un o_neg e_int) (a_cons (e_op o_pow e_int e_int) (a_cons (e_op o_add e_int (e_call (ok_pick T) (hr.mono (by decide)) tk T.g_pick T.F_pick.kp (ab_pick T) (a_cons (e_var 0) (a_cons (e_op o_pow e_int e_int) a_nil)))) (a_cons (e_op o_sub (e_un o_neg e_int) (e_call (ok_pick T) (hr.mono (by decide)) tk T.g_pick T.F_pick.kp (ab_pick T) (a_cons (e_var 0) (a_cons e_int a_nil)))) a_nil)))))))) (b_cons (s_set 1 sc.nd (e_op o_adl (e_var 1) (e_lsf (a_cons e_bl (a_cons e_bl (a_cons e_non (a_cons e_str (a_cons e_str (a_cons (e_tup (a_cons e_int a_nil)) (a_cons (e_lsf (a_cons e_int a_nil)) a_nil)))))))))) (b_one (s_ret (e_call (ok_choice T) (hr.mono (by decide)) tk T.g_choice T.F_choice.kp (ab_choice T) (a_cons (e_var 0) (a_cons (e_var 1) a_nil)))))))

theorem ok_bad {P : Program} {w : World} {K : PySem.W.Frag} {mg : Str → Option Value} {base : Heap} {a : Ad} {d : Fd} (T : Txt K mg a d) : Fk P w K mg base 3 a.f_bad d.f_bad ["_law_bag_here"] (sp_bad K a) :=
  dv_bad T (by rintro _ _ _ _ ⟨_, rfl, _⟩; rfl) fun ds G Q E h => by
    obtain ⟨b, rfl, hb, hq⟩ := h
    show rd_bad K a _ (ends3 Q) [some (.ref b), none] G
    unfold rd_bad rd_bad_0
    simp only [var3, con3, op3, un3, tst3, chain3, tru3, vno3, van3, vo3, not3, and3, or3, ite3, nil3, cons3, tup3, lst3, lsf3, nx3, seq3, brk3, cnt3, drop3, ret3, retn3, ifs3, set3, asg3, gn3, gnil3, gcons3, gtup3, for3, ilst3, itup3, irng1, irng2, call3, fld3, sfld3, meth3, make3, raise3, frz3, try3, wTry3, inSuite3, outOf3, xfld3, cb3, isx, bml3, isl, app3, gsub3, st3, dic3, prs3, dkeys, newl, finv, view3, lcg3, id, bag_c, bag_a, bag_r, bag_m, bag_n, bag_pa, bag_pr, bag_pm, bag_pn, bag_len, up_same, up_up, at3_0, at3_1, at3_2, toNat_2, Int.toNat_zero, Int.toNat_one, istru_bl, istru_int, istru_non, istru_tup, istru_lst, istru_kls, istru_str, add3_ii, add3_ss, add3_tt, sub3_ii, mul3_ii, fdv3_ii, mod3_ii, pow3_ii, neg3_i, eqn3_ii, eqn3_ss, eqn3_bb, eqn3_tup, eqn3_lst, eqn3_non, cmi3_ii, isn3_bb, isn3_nn, isn3_on, isn3_tn, isn3_in, isn3_sn, isn3_rn, isn3_ln, isn3_bn, ix3_lst, ix3_kls, ix3_tup, ix3_ri, ix3_rs, opt3_some, getf_obj, seqj_lst, seqj_kls, seqj_ref, tupj_tup, len3_lst, len3_kls, len3_tup, len3_str, len3_ref, int3_i, int3_b, abs3_i, str3_i, lisf3_lst, lisf3_kls, lisf3_tup, list3_lst, list3_kls, list3_tup, tuple3_lst, tuple3_kls, tuple3_tup, isi_2, typ_non, typ_bl, typ_int, typ_str, typ_tup, typ_lst, typ_kls, typ_obj, typok_ty, typok_ref, clsv_ty, clsv_ref, eqo3_obj, onlyb_bl, adl3_ll, all3_lst, List.set_cons_zero, List.set_cons_succ, List.getElem?_cons_zero, List.getElem?_cons_succ, List.map_cons, List.map_nil, List.length_cons, List.length_nil, if_true, if_false, reduceIte, reduceCtorEq, Option.map_some, Option.some.injEq, and_true, true_and, List.cons_append, List.nil_append, Nat.reduceAdd, Nat.reduceLeDiff, Nat.reduceEqDiff, exists_eq_left', exists_eq_left, exists_and_left, exists_eq_right, exists_and_right, exists_const, Bool.not_true, Bool.not_false, kt_NoneType_int, kt_NoneType_bool, kt_NoneType_str, kt_NoneType_tuple, kt_NoneType_list, kt_NoneType_dict, kt_bool_int, kt_bool_bool, kt_bool_str, kt_bool_tuple, kt_bool_list, kt_bool_dict, kt_int_int, kt_int_bool, kt_int_str, kt_int_tuple, kt_int_list, kt_int_dict, kt_str_int, kt_str_bool, kt_str_str, kt_str_tuple, kt_str_list, kt_str_dict, kt_tuple_int, kt_tuple_bool, kt_tuple_str, kt_tuple_tuple, kt_tuple_list, kt_tuple_dict, kt_list_int, kt_list_bool, kt_list_str, kt_list_tuple, kt_list_list, kt_list_dict, kt_dict_int, kt_dict_bool, kt_dict_str, kt_dict_tuple, kt_dict_list, kt_dict_dict]
    refine ⟨⟨by decide, by decide, by decide⟩, ⟨by decide, by decide, by decide⟩, b, _, rfl, hb, ⟨by decide, by decide⟩, fun r G1 hr h1 => ⟨b, _, rfl, h1.bag, ⟨by decide, by decide⟩, fun r2 G2 hr2 h2 => ?_⟩⟩
    unfold rd_bad_1
    simp only [var3, con3, op3, un3, tst3, chain3, tru3, vno3, van3, vo3, not3, and3, or3, ite3, nil3, cons3, tup3, lst3, lsf3, nx3, seq3, brk3, cnt3, drop3, ret3, retn3, ifs3, set3, asg3, gn3, gnil3, gcons3, gtup3, for3, ilst3, itup3, irng1, irng2, call3, fld3, sfld3, meth3, make3, raise3, frz3, try3, wTry3, inSuite3, outOf3, xfld3, cb3, isx, bml3, isl, app3, gsub3, st3, dic3, prs3, dkeys, newl, finv, view3, lcg3, id, bag_c, bag_a, bag_r, bag_m, bag_n, bag_pa, bag_pr, bag_pm, bag_pn, bag_len, up_same, up_up, at3_0, at3_1, at3_2, toNat_2, Int.toNat_zero, Int.toNat_one, istru_bl, istru_int, istru_non, istru_tup, istru_lst, istru_kls, istru_str, add3_ii, add3_ss, add3_tt, sub3_ii, mul3_ii, fdv3_ii, mod3_ii, pow3_ii, neg3_i, eqn3_ii, eqn3_ss, eqn3_bb, eqn3_tup, eqn3_lst, eqn3_non, cmi3_ii, isn3_bb, isn3_nn, isn3_on, isn3_tn, isn3_in, isn3_sn, isn3_rn, isn3_ln, isn3_bn, ix3_lst, ix3_kls, ix3_tup, ix3_ri, ix3_rs, opt3_some, getf_obj, seqj_lst, seqj_kls, seqj_ref, tupj_tup, len3_lst, len3_kls, len3_tup, len3_str, len3_ref, int3_i, int3_b, abs3_i, str3_i, lisf3_lst, lisf3_kls, lisf3_tup, list3_lst, list3_kls, list3_tup, tuple3_lst, tuple3_kls, tuple3_tup, isi_2, typ_non, typ_bl, typ_int, typ_str, typ_tup, typ_lst, typ_kls, typ_obj, typok_ty, typok_ref, clsv_ty, clsv_ref, eqo3_obj, onlyb_bl, adl3_ll, all3_lst, List.set_cons_zero, List.set_cons_succ, List.getElem?_cons_zero, List.getElem?_cons_succ, List.map_cons, List.map_nil, List.length_cons, List.length_nil, if_true, if_false, reduceIte, reduceCtorEq, Option.map_some, Option.some.injEq, and_true, true_and, List.cons_append, List.nil_append, Nat.reduceAdd, Nat.reduceLeDiff, Nat.reduceEqDiff, exists_eq_left', exists_eq_left, exists_and_left, exists_eq_right, exists_and_right, exists_const, Bool.not_true, Bool.not_false, kt_NoneType_int, kt_NoneType_bool, kt_NoneType_str, kt_NoneType_tuple, kt_NoneType_list, kt_NoneType_dict, kt_bool_int, kt_bool_bool, kt_bool_str, kt_bool_tuple, kt_bool_list, kt_bool_dict, kt_int_int, kt_int_bool, kt_int_str, kt_int_tuple, kt_int_list, kt_int_dict, kt_str_int, kt_str_bool, kt_str_str, kt_str_tuple, kt_str_list, kt_str_dict, kt_tuple_int, kt_tuple_bool, kt_tuple_str, kt_tuple_tuple, kt_tuple_list, kt_tuple_dict, kt_list_int, kt_list_bool, kt_list_str, kt_list_tuple, kt_list_list, kt_list_dict, kt_dict_int, kt_dict_bool, kt_dict_str, kt_dict_tuple, kt_dict_list, kt_dict_dict]
    refine ⟨by rw [sizeLine_eq]; decide, ?_⟩
    unfold rd_bad_2
    simp only [var3, con3, op3, un3, tst3, chain3, tru3, vno3, van3, vo3, not3, and3, or3, ite3, nil3, cons3, tup3, lst3, lsf3, nx3, seq3, brk3, cnt3, drop3, ret3, retn3, ifs3, set3, asg3, gn3, gnil3, gcons3, gtup3, for3, ilst3, itup3, irng1, irng2, call3, fld3, sfld3, meth3, make3, raise3, frz3, try3, wTry3, inSuite3, outOf3, xfld3, cb3, isx, bml3, isl, app3, gsub3, st3, dic3, prs3, dkeys, newl, finv, view3, lcg3, id, bag_c, bag_a, bag_r, bag_m, bag_n, bag_pa, bag_pr, bag_pm, bag_pn, bag_len, up_same, up_up, at3_0, at3_1, at3_2, toNat_2, Int.toNat_zero, Int.toNat_one, istru_bl, istru_int, istru_non, istru_tup, istru_lst, istru_kls, istru_str, add3_ii, add3_ss, add3_tt, sub3_ii, mul3_ii, fdv3_ii, mod3_ii, pow3_ii, neg3_i, eqn3_ii, eqn3_ss, eqn3_bb, eqn3_tup, eqn3_lst, eqn3_non, cmi3_ii, isn3_bb, isn3_nn, isn3_on, isn3_tn, isn3_in, isn3_sn, isn3_rn, isn3_ln, isn3_bn, ix3_lst, ix3_kls, ix3_tup, ix3_ri, ix3_rs, opt3_some, getf_obj, seqj_lst, seqj_kls, seqj_ref, tupj_tup, len3_lst, len3_kls, len3_tup, len3_str, len3_ref, int3_i, int3_b, abs3_i, str3_i, lisf3_lst, lisf3_kls, lisf3_tup, list3_lst, list3_kls, list3_tup, tuple3_lst, tuple3_kls, tuple3_tup, isi_2, typ_non, typ_bl, typ_int, typ_str, typ_tup, typ_lst, typ_kls, typ_obj, typok_ty, typok_ref, clsv_ty, clsv_ref, eqo3_obj, onlyb_bl, adl3_ll, all3_lst, List.set_cons_zero, List.set_cons_succ, List.getElem?_cons_zero, List.getElem?_cons_succ, List.map_cons, List.map_nil, List.length_cons, List.length_nil, if_true, if_false, reduceIte, reduceCtorEq, Option.map_some, Option.some.injEq, and_true, true_and, List.cons_append, List.nil_append, Nat.reduceAdd, Nat.reduceLeDiff, Nat.reduceEqDiff, exists_eq_left', exists_eq_left, exists_and_left, exists_eq_right, exists_and_right, exists_const, Bool.not_true, Bool.not_false, kt_NoneType_int, kt_NoneType_bool, kt_NoneType_str, kt_NoneType_tuple, kt_NoneType_list, kt_NoneType_dict, kt_bool_int, kt_bool_bool, kt_bool_str, kt_bool_tuple, kt_bool_list, kt_bool_dict, kt_int_int, kt_int_bool, kt_int_str, kt_int_tuple, kt_int_list, kt_int_dict, kt_str_int, kt_str_bool, kt_str_str, kt_str_tuple, kt_str_list, kt_str_dict, kt_tuple_int, kt_tuple_bool, kt_tuple_str, kt_tuple_tuple, kt_tuple_list, kt_tuple_dict, kt_list_int, kt_list_bool, kt_list_str, kt_list_tuple, kt_list_list, kt_list_dict, kt_dict_int, kt_dict_bool, kt_dict_str, kt_dict_tuple, kt_dict_list, kt_dict_dict]
    refine ⟨b, _, rfl, h2.bag, ⟨by simp, by simp⟩, fun d G3 hd h3 => ?_⟩
    have big : ∀ i : Int, (i < 0 ∨ 1000 < i) → prOk (.int i) = some false := fun i h => by
      show some (decide (0 ≤ i ∧ i ≤ 1000)) = some false
      rw [decide_eq_false (by omega)]
    refine rt_same (hq _ _ ?_ (h1.trans (h2.trans h3)))
    simp only [List.mem_cons, List.not_mem_nil, or_false] at hd
    rcases hd with rfl | rfl | rfl | rfl | rfl | rfl | rfl | rfl | rfl | rfl | rfl | rfl | rfl
    · exact big _ (by omega)
    · exact big _ (by omega)
    · exact big _ (by omega)
    · exact big _ (.inr (by decide))
    · exact big _ (by omega)
    · exact big _ (by omega)
    all_goals rfl

end K52

namespace K52
open PySem PySem.Spec PyProof.Rows L2 T3

abbrev sp_law (K : PySem.W.Frag) (a : Ad) : Sp3 := spLaw

/- _law_second = list(_law_first) -/
def rd_law_0 (K : PySem.W.Frag) (a : Ad) (W : W3) : T3S := (set3 3 (cb3 list3 (cons3 (var3 2) nil3)))
/- _law_second[_law_at] = int(_law_first[_law_at] + 1 + _law_pick(_law_bag_here, 1000)) % 1001 -/
def rd_law_1 (K : PySem.W.Frag) (a : Ad) (W : W3) : T3S := (asg3 (op3 mod3 (cb3 int3 (cons3 (op3 add3 (op3 add3 (op3 ix3 (var3 2) (var3 4)) (con3 (.int 1))) (call3 (sp_pick K a) W 2 0 (fun ds _ => ds) (cons3 (var3 1) (cons3 (con3 (.int 1000)) nil3)) nil3)) nil3)) (con3 (.int 1001))) (gsub3 (var3 3) (var3 4)))
/- return False -/
def rd_law_2 (K : PySem.W.Frag) (a : Ad) (W : W3) : T3S := (ret3 (con3 (.bl false)))
/- return False -/
def rd_law_3 (K : PySem.W.Frag) (a : Ad) (W : W3) : T3S := (ret3 (con3 (.bl false)))
/- return False -/
def rd_law_4 (K : PySem.W.Frag) (a : Ad) (W : W3) : T3S := (ret3 (con3 (.bl false)))
/- return False -/
def rd_law_5 (K : PySem.W.Frag) (a : Ad) (W : W3) : T3S := (ret3 (con3 (.bl false)))
/- return False -/
def rd_law_6 (K : PySem.W.Frag) (a : Ad) (W : W3) : T3S := (ret3 (con3 (.bl false)))
/- return False -/
def rd_law_7 (K : PySem.W.Frag) (a : Ad) (W : W3) : T3S := (ret3 (con3 (.bl false)))
/- return False -/
def rd_law_8 (K : PySem.W.Frag) (a : Ad) (W : W3) : T3S := (ret3 (con3 (.bl false)))
/- return False -/
def rd_law_9 (K : PySem.W.Frag) (a : Ad) (W : W3) : T3S := (ret3 (con3 (.bl false)))
/- return False -/
def rd_law_10 (K : PySem.W.Frag) (a : Ad) (W : W3) : T3S := (ret3 (con3 (.bl false)))
/- _law_odd[_law_k] = _law_bad(_law_bag_here) -/
def rd_law_11 (K : PySem.W.Frag) (a : Ad) (W : W3) : T3S := (asg3 (call3 (sp_bad K a) W 1 0 (fun ds _ => ds) (cons3 (var3 1) nil3) nil3) (gsub3 (var3 9) (var3 6)))
/- return False -/
def rd_law_12 (K : PySem.W.Frag) (a : Ad) (W : W3) : T3S := (ret3 (con3 (.bl false)))
/- _law_bag_here = _law_bag(_law_script) -/
def rd_law_13 (K : PySem.W.Frag) (a : Ad) (W : W3) : T3S := (set3 1 (call3 (sp_bag K a) W 1 0 (fun ds _ => ds) (cons3 (var3 0) nil3) nil3))
/- _law_first = _law_prices(_law_bag_here) -/
def rd_law_14 (K : PySem.W.Frag) (a : Ad) (W : W3) : T3S := (set3 2 (call3 (sp_prices K a) W 1 0 (fun ds _ => ds) (cons3 (var3 1) nil3) nil3))
/- _law_second = _law_prices(_law_bag_here) -/
def rd_law_15 (K : PySem.W.Frag) (a : Ad) (W : W3) : T3S := (set3 3 (call3 (sp_prices K a) W 1 0 (fun ds _ => ds) (cons3 (var3 1) nil3) nil3))
/- _law_at = _law_pick(_law_bag_here, 3) -/
def rd_law_16 (K : PySem.W.Frag) (a : Ad) (W : W3) : T3S := (set3 4 (call3 (sp_pick K a) W 2 0 (fun ds _ => ds) (cons3 (var3 1) (cons3 (con3 (.int 3)) nil3)) nil3))
/- if _law_one_in(_law_bag_here, 2): -/
def rd_law_17 (K : PySem.W.Frag) (a : Ad) (W : W3) : T3S := (view3 (ifs3 (tru3 (call3 (sp_one_in K a) W 2 0 (fun ds _ => ds) (cons3 (var3 1) (cons3 (con3 (.int 2)) nil3)) nil3)) (seq3 (rd_law_0 K a W) (rd_law_1 K a W)) nx3))
/- _law_many_here = [_law_many(_law_bag_here) for _law_k in range(3)] -/
def rd_law_18 (K : PySem.W.Frag) (a : Ad) (W : W3) : T3S := (set3 5 (lcf3 (irng1 (cons3 (con3 (.int 3)) nil3)) (svn 6) yes3 (call3 (sp_many K a) W0 1 0 (fun ds _ => ds) (cons3 (var3 1) nil3) nil3) [6]))
/- _law_one = Prices(_law_first[0], _law_first[1], _law_first[2]) -/
def rd_law_19 (K : PySem.W.Frag) (a : Ad) (W : W3) : T3S := (set3 7 (frz3 (make3 a.c_Prices (sp_Pricesx_initx K a) W 4 0 (fun ds _ => ds) (cons3 (op3 ix3 (var3 2) (con3 (.int 0))) (cons3 (op3 ix3 (var3 2) (con3 (.int 1))) (cons3 (op3 ix3 (var3 2) (con3 (.int 2))) nil3))) nil3)))
/- _law_two = Prices(exchange=_law_second[2], restate=_law_second[0], reweigh=_law_second[1]) -/
def rd_law_20 (K : PySem.W.Frag) (a : Ad) (W : W3) : T3S := (set3 8 (frz3 (make3 a.c_Prices (sp_Pricesx_initx K a) W 1 3 gab_Pricesx_initx_1_exchange_restate_reweigh nil3 (cons3 (op3 ix3 (var3 3) (con3 (.int 2))) (cons3 (op3 ix3 (var3 3) (con3 (.int 0))) (cons3 (op3 ix3 (var3 3) (con3 (.int 1))) nil3))))))
/- if not _law_holds_prices(_law_one, _law_first) or not _law_holds_prices(_law_two, _law_second): -/
def rd_law_21 (K : PySem.W.Frag) (a : Ad) (W : W3) : T3S := (ifs3 (or3 (not3 (tru3 (call3 (sp_holds_prices K a) W 2 0 (fun ds _ => ds) (cons3 (var3 7) (cons3 (var3 2) nil3)) nil3))) (not3 (tru3 (call3 (sp_holds_prices K a) W 2 0 (fun ds _ => ds) (cons3 (var3 8) (cons3 (var3 3) nil3)) nil3)))) (rd_law_2 K a W) nx3)
/- if not _law_sums_up(_law_one, _law_first, _law_many_here) or not _law_sums_up(_law_two, _law_second, -/
def rd_law_22 (K : PySem.W.Frag) (a : Ad) (W : W3) : T3S := (ifs3 (or3 (not3 (tru3 (call3 (sp_sums_up K a) W 3 0 (fun ds _ => ds) (cons3 (var3 7) (cons3 (var3 2) (cons3 (var3 5) nil3))) nil3))) (or3 (not3 (tru3 (call3 (sp_sums_up K a) W 3 0 (fun ds _ => ds) (cons3 (var3 8) (cons3 (var3 3) (cons3 (var3 5) nil3))) nil3))) (not3 (tru3 (call3 (sp_sums_up K a) W 3 0 (fun ds _ => ds) (cons3 (var3 7) (cons3 (var3 2) (cons3 (var3 5) nil3))) nil3))))) (rd_law_3 K a W) nx3)
/- if not _law_sums_up(_law_two, _law_second, [int(_law_k == _law_at) for _law_k in range(3)]) or not _ -/
def rd_law_23 (K : PySem.W.Frag) (a : Ad) (W : W3) : T3S := (ifs3 (or3 (not3 (tru3 (call3 (sp_sums_up K a) W 3 0 (fun ds _ => ds) (cons3 (var3 8) (cons3 (var3 3) (cons3 (lcf3 (irng1 (cons3 (con3 (.int 3)) nil3)) (svn 6) yes3 (cb3 int3 (cons3 (op3 eq3 (var3 6) (var3 4)) nil3)) [6]) nil3))) nil3))) (not3 (tru3 (call3 (sp_sums_up K a) W 3 0 (fun ds _ => ds) (cons3 (var3 7) (cons3 (var3 2) (cons3 (lsf3 (cons3 (con3 (.int 0)) (cons3 (con3 (.int 0)) (cons3 (con3 (.int 0)) nil3)))) nil3))) nil3)))) (rd_law_4 K a W) nx3)
/- if not isinstance(_law_one == _law_two, bool) or (_law_one == _law_two) != (_law_first == _law_secon -/
def rd_law_24 (K : PySem.W.Frag) (a : Ad) (W : W3) : T3S := (ifs3 (or3 (not3 (tru3 (cb3 (isi K) (cons3 (op3 (eqo3 K a.c_Prices (sp_Pricesx_eqx K a)) (var3 7) (var3 8)) (cons3 (con3 (.ty "bool")) nil3))))) (tst3 (op3 ne3 (op3 (eqo3 K a.c_Prices (sp_Pricesx_eqx K a)) (var3 7) (var3 8)) (op3 eq3 (var3 2) (var3 3))))) (rd_law_5 K a W) nx3)
/- if (_law_one == Prices(_law_first[0], _law_first[1], _law_first[2])) is not True: -/
def rd_law_25 (K : PySem.W.Frag) (a : Ad) (W : W3) : T3S := (ifs3 (tst3 (op3 (isn3 not) (op3 (eqo3 K a.c_Prices (sp_Pricesx_eqx K a)) (var3 7) (frz3 (make3 a.c_Prices (sp_Pricesx_initx K a) W 4 0 (fun ds _ => ds) (cons3 (op3 ix3 (var3 2) (con3 (.int 0))) (cons3 (op3 ix3 (var3 2) (con3 (.int 1))) (cons3 (op3 ix3 (var3 2) (con3 (.int 2))) nil3))) nil3))) (con3 (.bl true)))) (rd_law_6 K a W) nx3)
/- if (_law_one == _law_first[0]) is not False or (_law_one == tuple(_law_first)) is not False or (_law -/
def rd_law_26 (K : PySem.W.Frag) (a : Ad) (W : W3) : T3S := (ifs3 (or3 (tst3 (op3 (isn3 not) (op3 (eqo3 K a.c_Prices (sp_Pricesx_eqx K a)) (var3 7) (op3 ix3 (var3 2) (con3 (.int 0)))) (con3 (.bl false)))) (or3 (tst3 (op3 (isn3 not) (op3 (eqo3 K a.c_Prices (sp_Pricesx_eqx K a)) (var3 7) (cb3 tuple3 (cons3 (var3 2) nil3))) (con3 (.bl false)))) (tst3 (op3 (isn3 not) (op3 (eqo3 K a.c_Prices (sp_Pricesx_eqx K a)) (var3 8) (con3 (.str "prices"))) (con3 (.bl false)))))) (rd_law_7 K a W) nx3)
/- if not _law_holds_prices(Prices(), [1, 1, 2]) or not _law_holds_prices(Prices(_law_first[0]), [_law_ -/
def rd_law_27 (K : PySem.W.Frag) (a : Ad) (W : W3) : T3S := (ifs3 (or3 (not3 (tru3 (call3 (sp_holds_prices K a) W 2 0 (fun ds _ => ds) (cons3 (frz3 (make3 a.c_Prices (sp_Pricesx_initx K a) W 1 0 gab_Pricesx_initx_1 nil3 nil3)) (cons3 (lsf3 (cons3 (con3 (.int 1)) (cons3 (con3 (.int 1)) (cons3 (con3 (.int 2)) nil3)))) nil3)) nil3))) (not3 (tru3 (call3 (sp_holds_prices K a) W 2 0 (fun ds _ => ds) (cons3 (frz3 (make3 a.c_Prices (sp_Pricesx_initx K a) W 2 0 gab_Pricesx_initx_2 (cons3 (op3 ix3 (var3 2) (con3 (.int 0))) nil3) nil3)) (cons3 (lsf3 (cons3 (op3 ix3 (var3 2) (con3 (.int 0))) (cons3 (con3 (.int 1)) (cons3 (con3 (.int 2)) nil3)))) nil3)) nil3)))) (rd_law_8 K a W) nx3)
/- if not _law_holds_prices(Prices(_law_first[0], _law_second[1]), [_law_first[0], _law_second[1], 2]): -/
def rd_law_28 (K : PySem.W.Frag) (a : Ad) (W : W3) : T3S := (ifs3 (not3 (tru3 (call3 (sp_holds_prices K a) W 2 0 (fun ds _ => ds) (cons3 (frz3 (make3 a.c_Prices (sp_Pricesx_initx K a) W 3 0 gab_Pricesx_initx_3 (cons3 (op3 ix3 (var3 2) (con3 (.int 0))) (cons3 (op3 ix3 (var3 3) (con3 (.int 1))) nil3)) nil3)) (cons3 (lsf3 (cons3 (op3 ix3 (var3 2) (con3 (.int 0))) (cons3 (op3 ix3 (var3 3) (con3 (.int 1))) (cons3 (con3 (.int 2)) nil3)))) nil3)) nil3))) (rd_law_9 K a W) nx3)
/- if not _law_holds_prices(Prices(reweigh=_law_second[1]), [1, _law_second[1], 2]) or (Prices() == Pri -/
def rd_law_29 (K : PySem.W.Frag) (a : Ad) (W : W3) : T3S := (ifs3 (or3 (not3 (tru3 (call3 (sp_holds_prices K a) W 2 0 (fun ds _ => ds) (cons3 (frz3 (make3 a.c_Prices (sp_Pricesx_initx K a) W 1 1 gab_Pricesx_initx_1_reweigh nil3 (cons3 (op3 ix3 (var3 3) (con3 (.int 1))) nil3))) (cons3 (lsf3 (cons3 (con3 (.int 1)) (cons3 (op3 ix3 (var3 3) (con3 (.int 1))) (cons3 (con3 (.int 2)) nil3)))) nil3)) nil3))) (tst3 (op3 (isn3 not) (op3 (eqo3 K a.c_Prices (sp_Pricesx_eqx K a)) (frz3 (make3 a.c_Prices (sp_Pricesx_initx K a) W 1 0 gab_Pricesx_initx_1 nil3 nil3)) (frz3 (make3 a.c_Prices (sp_Pricesx_initx K a) W 4 0 (fun ds _ => ds) (cons3 (con3 (.int 1)) (cons3 (con3 (.int 1)) (cons3 (con3 (.int 2)) nil3))) nil3))) (con3 (.bl true))))) (rd_law_10 K a W) nx3)
/- _law_odd = list(_law_first) -/
def rd_law_30 (K : PySem.W.Frag) (a : Ad) (W : W3) : T3S := (set3 9 (cb3 list3 (cons3 (var3 2) nil3)))
/- _law_wrong = [_law_k for _law_k in range(3) if _law_k == _law_at or _law_one_in(_law_bag_here, 3)] -/
def rd_law_31 (K : PySem.W.Frag) (a : Ad) (W : W3) : T3S := (set3 10 (lcf3 (irng1 (cons3 (con3 (.int 3)) nil3)) (svn 6) (or3 (tst3 (op3 eq3 (var3 6) (var3 4))) (tru3 (call3 (sp_one_in K a) W0 2 0 (fun ds _ => ds) (cons3 (var3 1) (cons3 (con3 (.int 3)) nil3)) nil3))) (var3 6) [6]))
/- for _law_k in _law_wrong: -/
def rd_law_32 (K : PySem.W.Frag) (a : Ad) (W : W3) : T3S := (for3 (ilst3 (var3 10)) (gn3 6) (rd_law_11 K a W))
/- _law_due = ['restate', 'reweigh', 'exchange'][_law_wrong[0]] -/
def rd_law_33 (K : PySem.W.Frag) (a : Ad) (W : W3) : T3S := (set3 11 (op3 ix3 (lsf3 (cons3 (con3 (.str "restate")) (cons3 (con3 (.str "reweigh")) (cons3 (con3 (.str "exchange")) nil3)))) (op3 ix3 (var3 10) (con3 (.int 0)))))
/- if _law_refused(_law_odd) != ('BadPrices', _law_due, True) or not _law_caught(_law_odd): -/
def rd_law_34 (K : PySem.W.Frag) (a : Ad) (W : W3) : T3S := (ifs3 (or3 (tst3 (op3 ne3 (call3 (sp_refused K a) W 1 0 (fun ds _ => ds) (cons3 (var3 9) nil3) nil3) (tup3 (cons3 (con3 (.str "BadPrices")) (cons3 (var3 11) (cons3 (con3 (.bl true)) nil3)))))) (not3 (tru3 (call3 (sp_caught K a) W 1 0 (fun ds _ => ds) (cons3 (var3 9) nil3) nil3)))) (rd_law_12 K a W) nx3)
/- return _law_refused(_law_first) == ('none', '', True) and _law_refused([0, 1000, 0]) == ('none', '', -/
def rd_law_35 (K : PySem.W.Frag) (a : Ad) (W : W3) : T3S := (ret3 (van3 (op3 eq3 (call3 (sp_refused K a) W 1 0 (fun ds _ => ds) (cons3 (var3 2) nil3) nil3) (tup3 (cons3 (con3 (.str "none")) (cons3 (con3 (.str "")) (cons3 (con3 (.bl true)) nil3))))) (op3 eq3 (call3 (sp_refused K a) W 1 0 (fun ds _ => ds) (cons3 (lsf3 (cons3 (con3 (.int 0)) (cons3 (con3 (.int 1000)) (cons3 (con3 (.int 0)) nil3)))) nil3) nil3) (tup3 (cons3 (con3 (.str "none")) (cons3 (con3 (.str "")) (cons3 (con3 (.bl true)) nil3)))))))
def tl_law_34 (K : PySem.W.Frag) (a : Ad) (W : W3) : T3S := (seq3 (rd_law_34 K a W) (rd_law_35 K a W))
theorem go_law_34 {K : PySem.W.Frag} {a : Ad} {W : W3} {N : N3} {σ : S3} {G : H3} (h : (rd_law_34 K a W) { nx := (rd_law_35 K a W) N, rt := N.rt, bk := N.bk, ct := N.ct } σ G) : tl_law_34 K a W N σ G := seq3_in (t := (rd_law_34 K a W)) (u := (rd_law_35 K a W)) h
def tl_law_33 (K : PySem.W.Frag) (a : Ad) (W : W3) : T3S := (seq3 (rd_law_33 K a W) (tl_law_34 K a W))
theorem go_law_33 {K : PySem.W.Frag} {a : Ad} {W : W3} {N : N3} {σ : S3} {G : H3} (h : (rd_law_33 K a W) { nx := (tl_law_34 K a W) N, rt := N.rt, bk := N.bk, ct := N.ct } σ G) : tl_law_33 K a W N σ G := seq3_in (t := (rd_law_33 K a W)) (u := (tl_law_34 K a W)) h
def tl_law_32 (K : PySem.W.Frag) (a : Ad) (W : W3) : T3S := (seq3 (rd_law_32 K a W) (tl_law_33 K a W))
theorem go_law_32 {K : PySem.W.Frag} {a : Ad} {W : W3} {N : N3} {σ : S3} {G : H3} (h : (rd_law_32 K a W) { nx := (tl_law_33 K a W) N, rt := N.rt, bk := N.bk, ct := N.ct } σ G) : tl_law_32 K a W N σ G := seq3_in (t := (rd_law_32 K a W)) (u := (tl_law_33 K a W)) h
def tl_law_31 (K : PySem.W.Frag) (a : Ad) (W : W3) : T3S := (seq3 (rd_law_31 K a W) (tl_law_32 K a W))
theorem go_law_31 {K : PySem.W.Frag} {a : Ad} {W : W3} {N : N3} {σ : S3} {G : H3} (h : (rd_law_31 K a W) { nx := (tl_law_32 K a W) N, rt := N.rt, bk := N.bk, ct := N.ct } σ G) : tl_law_31 K a W N σ G := seq3_in (t := (rd_law_31 K a W)) (u := (tl_law_32 K a W)) h
def tl_law_30 (K : PySem.W.Frag) (a : Ad) (W : W3) : T3S := (seq3 (rd_law_30 K a W) (tl_law_31 K a W))
theorem go_law_30 {K : PySem.W.Frag} {a : Ad} {W : W3} {N : N3} {σ : S3} {G : H3} (h : (rd_law_30 K a W) { nx := (tl_law_31 K a W) N, rt := N.rt, bk := N.bk, ct := N.ct } σ G) : tl_law_30 K a W N σ G := seq3_in (t := (rd_law_30 K a W)) (u := (tl_law_31 K a W)) h
def tl_law_29 (K : PySem.W.Frag) (a : Ad) (W : W3) : T3S := (seq3 (rd_law_29 K a W) (tl_law_30 K a W))
theorem go_law_29 {K : PySem.W.Frag} {a : Ad} {W : W3} {N : N3} {σ : S3} {G : H3} (h : (rd_law_29 K a W) { nx := (tl_law_30 K a W) N, rt := N.rt, bk := N.bk, ct := N.ct } σ G) : tl_law_29 K a W N σ G := seq3_in (t := (rd_law_29 K a W)) (u := (tl_law_30 K a W)) h
def tl_law_28 (K : PySem.W.Frag) (a : Ad) (W : W3) : T3S := (seq3 (rd_law_28 K a W) (tl_law_29 K a W))
theorem go_law_28 {K : PySem.W.Frag} {a : Ad} {W : W3} {N : N3} {σ : S3} {G : H3} (h : (rd_law_28 K a W) { nx := (tl_law_29 K a W) N, rt := N.rt, bk := N.bk, ct := N.ct } σ G) : tl_law_28 K a W N σ G := seq3_in (t := (rd_law_28 K a W)) (u := (tl_law_29 K a W)) h
def tl_law_27 (K : PySem.W.Frag) (a : Ad) (W : W3) : T3S := (seq3 (rd_law_27 K a W) (tl_law_28 K a W))
theorem go_law_27 {K : PySem.W.Frag} {a : Ad} {W : W3} {N : N3} {σ : S3} {G : H3} (h : (rd_law_27 K a W) { nx := (tl_law_28 K a W) N, rt := N.rt, bk := N.bk, ct := N.ct } σ G) : tl_law_27 K a W N σ G := seq3_in (t := (rd_law_27 K a W)) (u := (tl_law_28 K a W)) h
def tl_law_26 (K : PySem.W.Frag) (a : Ad) (W : W3) : T3S := (seq3 (rd_law_26 K a W) (tl_law_27 K a W))
theorem go_law_26 {K : PySem.W.Frag} {a : Ad} {W : W3} {N : N3} {σ : S3} {G : H3} (h : (rd_law_26 K a W) { nx := (tl_law_27 K a W) N, rt := N.rt, bk := N.bk, ct := N.ct } σ G) : tl_law_26 K a W N σ G := seq3_in (t := (rd_law_26 K a W)) (u := (tl_law_27 K a W)) h
def tl_law_25 (K : PySem.W.Frag) (a : Ad) (W : W3) : T3S := (seq3 (rd_law_25 K a W) (tl_law_26 K a W))
theorem go_law_25 {K : PySem.W.Frag} {a : Ad} {W : W3} {N : N3} {σ : S3} {G : H3} (h : (rd_law_25 K a W) { nx := (tl_law_26 K a W) N, rt := N.rt, bk := N.bk, ct := N.ct } σ G) : tl_law_25 K a W N σ G := seq3_in (t := (rd_law_25 K a W)) (u := (tl_law_26 K a W)) h
def tl_law_24 (K : PySem.W.Frag) (a : Ad) (W : W3) : T3S := (seq3 (rd_law_24 K a W) (tl_law_25 K a W))
theorem go_law_24 {K : PySem.W.Frag} {a : Ad} {W : W3} {N : N3} {σ : S3} {G : H3} (h : (rd_law_24 K a W) { nx := (tl_law_25 K a W) N, rt := N.rt, bk := N.bk, ct := N.ct } σ G) : tl_law_24 K a W N σ G := seq3_in (t := (rd_law_24 K a W)) (u := (tl_law_25 K a W)) h
def tl_law_23 (K : PySem.W.Frag) (a : Ad) (W : W3) : T3S := (seq3 (rd_law_23 K a W) (tl_law_24 K a W))
theorem go_law_23 {K : PySem.W.Frag} {a : Ad} {W : W3} {N : N3} {σ : S3} {G : H3} (h : (rd_law_23 K a W) { nx := (tl_law_24 K a W) N, rt := N.rt, bk := N.bk, ct := N.ct } σ G) : tl_law_23 K a W N σ G := seq3_in (t := (rd_law_23 K a W)) (u := (tl_law_24 K a W)) h
def tl_law_22 (K : PySem.W.Frag) (a : Ad) (W : W3) : T3S := (seq3 (rd_law_22 K a W) (tl_law_23 K a W))
theorem go_law_22 {K : PySem.W.Frag} {a : Ad} {W : W3} {N : N3} {σ : S3} {G : H3} (h : (rd_law_22 K a W) { nx := (tl_law_23 K a W) N, rt := N.rt, bk := N.bk, ct := N.ct } σ G) : tl_law_22 K a W N σ G := seq3_in (t := (rd_law_22 K a W)) (u := (tl_law_23 K a W)) h
def tl_law_21 (K : PySem.W.Frag) (a : Ad) (W : W3) : T3S := (seq3 (rd_law_21 K a W) (tl_law_22 K a W))
theorem go_law_21 {K : PySem.W.Frag} {a : Ad} {W : W3} {N : N3} {σ : S3} {G : H3} (h : (rd_law_21 K a W) { nx := (tl_law_22 K a W) N, rt := N.rt, bk := N.bk, ct := N.ct } σ G) : tl_law_21 K a W N σ G := seq3_in (t := (rd_law_21 K a W)) (u := (tl_law_22 K a W)) h
def tl_law_20 (K : PySem.W.Frag) (a : Ad) (W : W3) : T3S := (seq3 (rd_law_20 K a W) (tl_law_21 K a W))
theorem go_law_20 {K : PySem.W.Frag} {a : Ad} {W : W3} {N : N3} {σ : S3} {G : H3} (h : (rd_law_20 K a W) { nx := (tl_law_21 K a W) N, rt := N.rt, bk := N.bk, ct := N.ct } σ G) : tl_law_20 K a W N σ G := seq3_in (t := (rd_law_20 K a W)) (u := (tl_law_21 K a W)) h
def tl_law_19 (K : PySem.W.Frag) (a : Ad) (W : W3) : T3S := (seq3 (rd_law_19 K a W) (tl_law_20 K a W))
theorem go_law_19 {K : PySem.W.Frag} {a : Ad} {W : W3} {N : N3} {σ : S3} {G : H3} (h : (rd_law_19 K a W) { nx := (tl_law_20 K a W) N, rt := N.rt, bk := N.bk, ct := N.ct } σ G) : tl_law_19 K a W N σ G := seq3_in (t := (rd_law_19 K a W)) (u := (tl_law_20 K a W)) h
def tl_law_18 (K : PySem.W.Frag) (a : Ad) (W : W3) : T3S := (seq3 (rd_law_18 K a W) (tl_law_19 K a W))
theorem go_law_18 {K : PySem.W.Frag} {a : Ad} {W : W3} {N : N3} {σ : S3} {G : H3} (h : (rd_law_18 K a W) { nx := (tl_law_19 K a W) N, rt := N.rt, bk := N.bk, ct := N.ct } σ G) : tl_law_18 K a W N σ G := seq3_in (t := (rd_law_18 K a W)) (u := (tl_law_19 K a W)) h
def tl_law_17 (K : PySem.W.Frag) (a : Ad) (W : W3) : T3S := (seq3 (rd_law_17 K a W) (tl_law_18 K a W))
theorem go_law_17 {K : PySem.W.Frag} {a : Ad} {W : W3} {N : N3} {σ : S3} {G : H3} (h : (rd_law_17 K a W) { nx := (tl_law_18 K a W) N, rt := N.rt, bk := N.bk, ct := N.ct } σ G) : tl_law_17 K a W N σ G := seq3_in (t := (rd_law_17 K a W)) (u := (tl_law_18 K a W)) h
def tl_law_16 (K : PySem.W.Frag) (a : Ad) (W : W3) : T3S := (seq3 (rd_law_16 K a W) (tl_law_17 K a W))
theorem go_law_16 {K : PySem.W.Frag} {a : Ad} {W : W3} {N : N3} {σ : S3} {G : H3} (h : (rd_law_16 K a W) { nx := (tl_law_17 K a W) N, rt := N.rt, bk := N.bk, ct := N.ct } σ G) : tl_law_16 K a W N σ G := seq3_in (t := (rd_law_16 K a W)) (u := (tl_law_17 K a W)) h
def tl_law_15 (K : PySem.W.Frag) (a : Ad) (W : W3) : T3S := (seq3 (rd_law_15 K a W) (tl_law_16 K a W))
theorem go_law_15 {K : PySem.W.Frag} {a : Ad} {W : W3} {N : N3} {σ : S3} {G : H3} (h : (rd_law_15 K a W) { nx := (tl_law_16 K a W) N, rt := N.rt, bk := N.bk, ct := N.ct } σ G) : tl_law_15 K a W N σ G := seq3_in (t := (rd_law_15 K a W)) (u := (tl_law_16 K a W)) h
def tl_law_14 (K : PySem.W.Frag) (a : Ad) (W : W3) : T3S := (seq3 (rd_law_14 K a W) (tl_law_15 K a W))
theorem go_law_14 {K : PySem.W.Frag} {a : Ad} {W : W3} {N : N3} {σ : S3} {G : H3} (h : (rd_law_14 K a W) { nx := (tl_law_15 K a W) N, rt := N.rt, bk := N.bk, ct := N.ct } σ G) : tl_law_14 K a W N σ G := seq3_in (t := (rd_law_14 K a W)) (u := (tl_law_15 K a W)) h
def tl_law_13 (K : PySem.W.Frag) (a : Ad) (W : W3) : T3S := (seq3 (rd_law_13 K a W) (tl_law_14 K a W))
theorem go_law_13 {K : PySem.W.Frag} {a : Ad} {W : W3} {N : N3} {σ : S3} {G : H3} (h : (rd_law_13 K a W) { nx := (tl_law_14 K a W) N, rt := N.rt, bk := N.bk, ct := N.ct } σ G) : tl_law_13 K a W N σ G := seq3_in (t := (rd_law_13 K a W)) (u := (tl_law_14 K a W)) h
def rd_law (K : PySem.W.Frag) (a : Ad) (W : W3) : T3S := (seq3 (rd_law_13 K a W) (seq3 (rd_law_14 K a W) (seq3 (rd_law_15 K a W) (seq3 (rd_law_16 K a W) (seq3 (rd_law_17 K a W) (seq3 (rd_law_18 K a W) (seq3 (rd_law_19 K a W) (seq3 (rd_law_20 K a W) (seq3 (rd_law_21 K a W) (seq3 (rd_law_22 K a W) (seq3 (rd_law_23 K a W) (seq3 (rd_law_24 K a W) (seq3 (rd_law_25 K a W) (seq3 (rd_law_26 K a W) (seq3 (rd_law_27 K a W) (seq3 (rd_law_28 K a W) (seq3 (rd_law_29 K a W) (seq3 (rd_law_30 K a W) (seq3 (rd_law_31 K a W) (seq3 (rd_law_32 K a W) (seq3 (rd_law_33 K a W) (seq3 (rd_law_34 K a W) (rd_law_35 K a W)))))))))))))))))))))))
theorem dv_law {P : Program} {w : World} {K : PySem.W.Frag} {mg : Str → Option Value} {base : Heap} {a : Ad} {d : Fd} (T : Txt K mg a d) (wlp : ∀ ds G Q E, (sp_law K a) ds G Q E → ds.length = 1)
    (h : ∀ (ds : List D) (G : H3) (Q : K3) (E : X3), (sp_law K a) ds G Q E → rd_law K a (ex3 E) (ends3 Q) (start3 N_law ds) G) : Fk P w K mg base 6 a.f_law d.f_law ["_law_script"] (sp_law K a) :=
  fn3 T.F_law sc_law wlp fun cdv A outer s H E B E3 hr tk po => by
    have sc := sc_law
    have hu64 := hr.units
    have hu1 := hu_of hr
    refine ⟨rd_law K a (ex3 E3), ?_, fun ds G Q h' => h ds G Q E3 h'⟩
    exact (b_cons (s_set 1 sc.nd (e_call (ok_bag T) (hr.mono (by decide)) tk T.g_bag T.F_bag.kp (ab_bag T) (a_cons (e_var 0) a_nil))) (b_cons (s_set 2 sc.nd (e_call (ok_prices T) (hr.mono (by decide)) tk T.g_prices T.F_prices.kp (ab_prices T) (a_cons (e_var 1) a_nil))) (b_cons (s_set 3 sc.nd (e_call (ok_prices T) (hr.mono (by decide)) tk T.g_prices T.F_prices.kp (ab_prices T) (a_cons (e_var 1) a_nil))) (b_cons (s_set 4 sc.nd (e_call (ok_pick T) (hr.mono (by decide)) tk T.g_pick T.F_pick.kp (ab_pick T) (a_cons (e_var 1) (a_cons e_int a_nil)))) (b_cons (s_view (s_if (p_tru (e_call (ok_one_in T) (hr.mono (by decide)) tk T.g_one_in T.F_one_in.kp (ab_one_in T) (a_cons (e_var 1) (a_cons e_int a_nil)))) (b_cons (s_set 3 sc.nd (e_ct c_list T.n_list (by decide +kernel) (a_cons (e_var 2) a_nil))) (b_one (s_asg (e_op o_mod (e_ct c_int T.n_int (by decide +kernel) (a_cons (e_op o_add (e_op o_add (e_ix hu1 (e_var 2) (e_var 4)) e_int) (e_call (ok_pick T) (hr.mono (by decide)) tk T.g_pick T.F_pick.kp (ab_pick T) (a_cons (e_var 1) (a_cons e_int a_nil)))) a_nil)) e_int) (g_sub hu1 (e_var 3) (e_var 4))))) b_nil)) (b_cons (s_lcf 5 (own := [("_law_k", 6)]) (ct_name (by decide)) rfl sc.nd (i_rng1 (by rfl) T.n_range (a_cons e_int a_nil)) (blkOk_by (N := N_law) (sc := defScope s_law) (by decide +kernel)) (fun _ _ _ _ _ => pg_name (i := 6) sc.nd rfl (.inl rfl)) (fun _ _ _ _ _ => Ifs3.nil) (fun _ _ _ _ _ => fun _ => (e_call (ok_many T) (hr.mono (by decide)) takesF T.g_many T.F_many.kp (ab_many T) (a_cons (e_var 1) a_nil))) (sw_true rfl rfl rfl (by decide +kernel))) (b_cons (s_set 7 sc.nd (e_frz (e_make T.mk_Prices (ok_Pricesx_initx T) (hr.mono (by decide)) tk T.g_Prices (ab_Pricesx_initx T) (a_cons (e_ix hu1 (e_var 2) e_int) (a_cons (e_ix hu1 (e_var 2) e_int) (a_cons (e_ix hu1 (e_var 2) e_int) a_nil)))))) (b_cons (s_set 8 sc.nd (e_frz (e_makek T.mk_Prices (ok_Pricesx_initx T) (hr.mono (by decide)) tk T.g_Prices (ab_Pricesx_initx_1_exchange_restate_reweigh T) (k_cons (e_ix hu1 (e_var 3) e_int) (k_cons (e_ix hu1 (e_var 3) e_int) (k_cons (e_ix hu1 (e_var 3) e_int) k_nil)))))) (b_cons (s_if (p_w (w_or (p_not (p_tru (e_call (ok_holds_prices T) (hr.mono (by decide)) tk T.g_holds_prices T.F_holds_prices.kp (ab_holds_prices T) (a_cons (e_var 7) (a_cons (e_var 2) a_nil))))) (w_or1 (p_not (p_tru (e_call (ok_holds_prices T) (hr.mono (by decide)) tk T.g_holds_prices T.F_holds_prices.kp (ab_holds_prices T) (a_cons (e_var 8) (a_cons (e_var 3) a_nil)))))))) (b_one (s_ret e_bl)) b_nil) (b_cons (s_if (p_w (w_or (p_not (p_tru (e_call (ok_sums_up T) (hr.mono (by decide)) tk T.g_sums_up T.F_sums_up.kp (ab_sums_up T) (a_cons (e_var 7) (a_cons (e_var 2) (a_cons (e_var 5) a_nil)))))) (w_or (p_not (p_tru (e_call (ok_sums_up T) (hr.mono (by decide)) tk T.g_sums_up T.F_sums_up.kp (ab_sums_up T) (a_cons (e_var 8) (a_cons (e_var 3) (a_cons (e_var 5) a_nil)))))) (w_or1 (p_not (p_tru (e_call (ok_sums_up T) (hr.mono (by decide)) tk T.g_sums_up T.F_sums_up.kp (ab_sums_up T) (a_cons (e_var 7) (a_cons (e_var 2) (a_cons (e_var 5) a_nil)))))))))) (b_one (s_ret e_bl)) b_nil) (b_cons (s_if (p_w (w_or (p_not (p_tru (e_call (ok_sums_up T) (hr.mono (by decide)) tk T.g_sums_up T.F_sums_up.kp (ab_sums_up T) (a_cons (e_var 8) (a_cons (e_var 3) (a_cons (e_lcf (own := [("_law_k", 6)]) (ct_name (by decide)) rfl sc.nd (i_rng1 (by rfl) T.n_range (a_cons e_int a_nil)) (blkOk_by (N := N_law) (sc := defScope s_law) (by decide +kernel)) (fun _ _ _ _ _ => pg_name (i := 6) sc.nd rfl (.inl rfl)) (fun _ _ _ _ _ => Ifs3.nil) (fun _ _ _ _ _ => fun _ => (e_ct c_int T.n_int (by decide +kernel) (a_cons (e_cmp (o_eq hu64) (e_var 6) (e_var 4)) a_nil)))) a_nil)))))) (w_or1 (p_not (p_tru (e_call (ok_sums_up T) (hr.mono (by decide)) tk T.g_sums_up T.F_sums_up.kp (ab_sums_up T) (a_cons (e_var 7) (a_cons (e_var 2) (a_cons (e_lsf (a_cons e_int (a_cons e_int (a_cons e_int a_nil)))) a_nil))))))))) (b_one (s_ret e_bl)) b_nil) (b_cons (s_if (p_w (w_or (p_not (p_tru (e_cb c_isi T.n_isinstance (by decide +kernel) (a_cons (e_cmp (o_eqo hu64 (ok_Pricesx_eqx T) (hr.mono (by decide)) (ab_Pricesx_eqx T) T.eq_Prices.at_ T.eq_Prices.fn) (e_var 7) (e_var 8)) (a_cons (e_bty (by rfl) T.n_bool (by decide +kernel)) a_nil))))) (w_or1 (p_cmp (o_ne hu64) (e_cmp (o_eqo hu64 (ok_Pricesx_eqx T) (hr.mono (by decide)) (ab_Pricesx_eqx T) T.eq_Prices.at_ T.eq_Prices.fn) (e_var 7) (e_var 8)) (e_cmp (o_eq hu64) (e_var 2) (e_var 3)))))) (b_one (s_ret e_bl)) b_nil) (b_cons (s_if (p_cmp o_isnot (e_cmp (o_eqo hu64 (ok_Pricesx_eqx T) (hr.mono (by decide)) (ab_Pricesx_eqx T) T.eq_Prices.at_ T.eq_Prices.fn) (e_var 7) (e_frz (e_make T.mk_Prices (ok_Pricesx_initx T) (hr.mono (by decide)) tk T.g_Prices (ab_Pricesx_initx T) (a_cons (e_ix hu1 (e_var 2) e_int) (a_cons (e_ix hu1 (e_var 2) e_int) (a_cons (e_ix hu1 (e_var 2) e_int) a_nil)))))) e_bl) (b_one (s_ret e_bl)) b_nil) (b_cons (s_if (p_w (w_or (p_cmp o_isnot (e_cmp (o_eqo hu64 (ok_Pricesx_eqx T) (hr.mono (by decide)) (ab_Pricesx_eqx T) T.eq_Prices.at_ T.eq_Prices.fn) (e_var 7) (e_ix hu1 (e_var 2) e_int)) e_bl) (w_or (p_cmp o_isnot (e_cmp (o_eqo hu64 (ok_Pricesx_eqx T) (hr.mono (by decide)) (ab_Pricesx_eqx T) T.eq_Prices.at_ T.eq_Prices.fn) (e_var 7) (e_ct c_tuple T.n_tuple (by decide +kernel) (a_cons (e_var 2) a_nil))) e_bl) (w_or1 (p_cmp o_isnot (e_cmp (o_eqo hu64 (ok_Pricesx_eqx T) (hr.mono (by decide)) (ab_Pricesx_eqx T) T.eq_Prices.at_ T.eq_Prices.fn) (e_var 8) e_str) e_bl))))) (b_one (s_ret e_bl)) b_nil) (b_cons (s_if (p_w (w_or (p_not (p_tru (e_call (ok_holds_prices T) (hr.mono (by decide)) tk T.g_holds_prices T.F_holds_prices.kp (ab_holds_prices T) (a_cons (e_frz (e_make0 T.mk_Prices (ok_Pricesx_initx T) (hr.mono (by decide)) tk T.g_Prices (ab_Pricesx_initx_1 T))) (a_cons (e_lsf (a_cons e_int (a_cons e_int (a_cons e_int a_nil)))) a_nil))))) (w_or1 (p_not (p_tru (e_call (ok_holds_prices T) (hr.mono (by decide)) tk T.g_holds_prices T.F_holds_prices.kp (ab_holds_prices T) (a_cons (e_frz (e_make T.mk_Prices (ok_Pricesx_initx T) (hr.mono (by decide)) tk T.g_Prices (ab_Pricesx_initx_2 T) (a_cons (e_ix hu1 (e_var 2) e_int) a_nil))) (a_cons (e_lsf (a_cons (e_ix hu1 (e_var 2) e_int) (a_cons e_int (a_cons e_int a_nil)))) a_nil)))))))) (b_one (s_ret e_bl)) b_nil) (b_cons (s_if (p_not (p_tru (e_call (ok_holds_prices T) (hr.mono (by decide)) tk T.g_holds_prices T.F_holds_prices.kp (ab_holds_prices T) (a_cons (e_frz (e_make T.mk_Prices (ok_Pricesx_initx T) (hr.mono (by decide)) tk T.g_Prices (ab_Pricesx_initx_3 T) (a_cons (e_ix hu1 (e_var 2) e_int) (a_cons (e_ix hu1 (e_var 3) e_int) a_nil)))) (a_cons (e_lsf (a_cons (e_ix hu1 (e_var 2) e_int) (a_cons (e_ix hu1 (e_var 3) e_int) (a_cons e_int a_nil)))) a_nil))))) (b_one (s_ret e_bl)) b_nil) (b_cons (s_if (p_w (w_or (p_not (p_tru (e_call (ok_holds_prices T) (hr.mono (by decide)) tk T.g_holds_prices T.F_holds_prices.kp (ab_holds_prices T) (a_cons (e_frz (e_makek T.mk_Prices (ok_Pricesx_initx T) (hr.mono (by decide)) tk T.g_Prices (ab_Pricesx_initx_1_reweigh T) (k_cons (e_ix hu1 (e_var 3) e_int) k_nil))) (a_cons (e_lsf (a_cons e_int (a_cons (e_ix hu1 (e_var 3) e_int) (a_cons e_int a_nil)))) a_nil))))) (w_or1 (p_cmp o_isnot (e_cmp (o_eqo hu64 (ok_Pricesx_eqx T) (hr.mono (by decide)) (ab_Pricesx_eqx T) T.eq_Prices.at_ T.eq_Prices.fn) (e_frz (e_make0 T.mk_Prices (ok_Pricesx_initx T) (hr.mono (by decide)) tk T.g_Prices (ab_Pricesx_initx_1 T))) (e_frz (e_make T.mk_Prices (ok_Pricesx_initx T) (hr.mono (by decide)) tk T.g_Prices (ab_Pricesx_initx T) (a_cons e_int (a_cons e_int (a_cons e_int a_nil)))))) e_bl)))) (b_one (s_ret e_bl)) b_nil) (b_cons (s_set 9 sc.nd (e_ct c_list T.n_list (by decide +kernel) (a_cons (e_var 2) a_nil))) (b_cons (s_lcf 10 (own := [("_law_k", 6)]) (ct_name (by decide)) rfl sc.nd (i_rng1 (by rfl) T.n_range (a_cons e_int a_nil)) (blkOk_by (N := N_law) (sc := defScope s_law) (by decide +kernel)) (fun _ _ _ _ _ => pg_name (i := 6) sc.nd rfl (.inl rfl)) (fun _ _ _ _ _ => Ifs3.one fun _ => (p_w (w_or (p_cmp (o_eq hu64) (e_var 6) (e_var 4)) (w_or1 (p_tru (e_call (ok_one_in T) (hr.mono (by decide)) takesF T.g_one_in T.F_one_in.kp (ab_one_in T) (a_cons (e_var 1) (a_cons e_int a_nil)))))))) (fun _ _ _ _ _ => fun _ => (e_var 6)) (sw_true rfl rfl rfl (by decide +kernel))) (b_cons (s_for po rfl (i_list (e_var 10)) (g_name 6 sc.nd) (b_one (s_asg (e_call (ok_bad T) (hr.mono (by decide)) tk T.g_bad T.F_bad.kp (ab_bad T) (a_cons (e_var 1) a_nil)) (g_sub hu1 (e_var 9) (e_var 6))))) (b_cons (s_set 11 sc.nd (e_ix hu1 (e_lsf (a_cons e_str (a_cons e_str (a_cons e_str a_nil)))) (e_ix hu1 (e_var 10) e_int))) (b_cons (s_if (p_w (w_or (p_cmp (o_ne hu64) (e_call (ok_refused T) (hr.mono (by decide)) tk T.g_refused T.F_refused.kp (ab_refused T) (a_cons (e_var 9) a_nil)) (e_tup (a_cons e_str (a_cons (e_var 11) (a_cons e_bl a_nil))))) (w_or1 (p_not (p_tru (e_call (ok_caught T) (hr.mono (by decide)) tk T.g_caught T.F_caught.kp (ab_caught T) (a_cons (e_var 9) a_nil))))))) (b_one (s_ret e_bl)) b_nil) (b_one (s_ret (e_and (e_cmp (o_eq hu64) (e_call (ok_refused T) (hr.mono (by decide)) tk T.g_refused T.F_refused.kp (ab_refused T) (a_cons (e_var 2) a_nil)) (e_tup (a_cons e_str (a_cons e_str (a_cons e_bl a_nil))))) (e_one (e_cmp (o_eq hu64) (e_call (ok_refused T) (hr.mono (by decide)) tk T.g_refused T.F_refused.kp (ab_refused T) (a_cons (e_lsf (a_cons e_int (a_cons e_int (a_cons e_int a_nil)))) a_nil)) (e_tup (a_cons e_str (a_cons e_str (a_cons e_bl a_nil)))))))))))))))))))))))))))))))

end K52

namespace K52
open PySem PySem.Spec PyProof.Rows L2 T3

theorem Pr.ok {n : Int} (h : Pr n) : prOk (.int n) = some true := by
  show some (decide (0 ≤ n ∧ n ≤ 1000)) = some true
  rw [decide_eq_true (show 0 ≤ n ∧ n ≤ 1000 from h)]
theorem Pr.mod {n : Int} : Pr (n % 1001) := ⟨Int.emod_nonneg _ (by decide), by have := Int.emod_lt_of_pos n (by decide : (0 : Int) < 1001); omega⟩
/-- a new Prices, three right ones given -/
theorem mk_ok {K : PySem.W.Frag} {a : Ad} {Q : K3} {E : X3} {x : Addr} {p q r : Int} {G : H3} (hx : G x = none) (hp : Pr p) (hq : Pr q) (hr : Pr r) (h : Q (prD a p q r) G) :
    sp_Pricesx_initx K a [.ref x, .int p, .int q, .int r] (up G x (.ins a.c_Prices [])) (fun v G3 => v = .non ∧ frzk Q (.ref x) G3) E := by
  refine ⟨x, _, _, _, true, true, true, rfl, up_same, hp.ok, hq.ok, hr.ok, ?_⟩
  simp only [if_true]
  refine ⟨trivial, ?_⟩
  rw [up_up]
  simp only [frzk, up_same, dn_up hx]
  exact h
abbrev fst3 (p q r : Int) : D := .lst [.int p, .int q, .int r]
section
variable {P : Program} {w : World} {K : PySem.W.Frag} {mg : Str → Option Value} {base : Heap} {a : Ad} {d : Fd} (T : Txt K mg a d) {W : W3} {N : N3} {b : Addr} {G : H3} {p1 q1 r1 p2 q2 r2 i m0 m1 m2 : Int} {sc : D} {lk : Option D}
theorem st_19 (hp1 : Pr p1) (hq1 : Pr q1) (hr1 : Pr r1) {x3 x4 x5 : Option D} (h : N.nx [some sc, some (.ref b), some (fst3 p1 q1 r1), x3, x4, x5, lk, some (prD a p1 q1 r1), none, none, none, none] G) :
    rd_law_19 K a W N [some sc, some (.ref b), some (fst3 p1 q1 r1), x3, x4, x5, lk, none, none, none, none, none] G := by
  unfold rd_law_19
  simp only [var3, con3, op3, un3, tst3, chain3, tru3, vno3, van3, vo3, not3, and3, or3, ite3, nil3, cons3, tup3, lst3, lsf3, nx3, seq3, brk3, cnt3, drop3, ret3, retn3, ifs3, set3, asg3, gn3, gnil3, gcons3, gtup3, for3, ilst3, itup3, irng1, irng2, call3, fld3, sfld3, meth3, make3, raise3, frz3, try3, wTry3, inSuite3, outOf3, xfld3, cb3, isx, bml3, isl, app3, gsub3, st3, dic3, prs3, dkeys, newl, finv, view3, lcg3, id, bag_c, bag_a, bag_r, bag_m, bag_n, bag_pa, bag_pr, bag_pm, bag_pn, bag_len, up_same, up_up, at3_0, at3_1, at3_2, toNat_2, Int.toNat_zero, Int.toNat_one, istru_bl, istru_int, istru_non, istru_tup, istru_lst, istru_kls, istru_str, add3_ii, add3_ss, add3_tt, sub3_ii, mul3_ii, fdv3_ii, mod3_ii, pow3_ii, neg3_i, eqn3_ii, eqn3_ss, eqn3_bb, eqn3_tup, eqn3_lst, eqn3_non, cmi3_ii, isn3_bb, isn3_nn, isn3_on, isn3_tn, isn3_in, isn3_sn, isn3_rn, isn3_ln, isn3_bn, ix3_lst, ix3_kls, ix3_tup, ix3_ri, ix3_rs, opt3_some, getf_obj, seqj_lst, seqj_kls, seqj_ref, tupj_tup, len3_lst, len3_kls, len3_tup, len3_str, len3_ref, int3_i, int3_b, abs3_i, str3_i, lisf3_lst, lisf3_kls, lisf3_tup, list3_lst, list3_kls, list3_tup, tuple3_lst, tuple3_kls, tuple3_tup, isi_2, typ_non, typ_bl, typ_int, typ_str, typ_tup, typ_lst, typ_kls, typ_obj, typok_ty, typok_ref, clsv_ty, clsv_ref, eqo3_obj, onlyb_bl, adl3_ll, all3_lst, List.set_cons_zero, List.set_cons_succ, List.getElem?_cons_zero, List.getElem?_cons_succ, List.map_cons, List.map_nil, List.length_cons, List.length_nil, if_true, if_false, reduceIte, reduceCtorEq, Option.map_some, Option.some.injEq, and_true, true_and, List.cons_append, List.nil_append, Nat.reduceAdd, Nat.reduceLeDiff, Nat.reduceEqDiff, exists_eq_left', exists_eq_left, exists_and_left, exists_eq_right, exists_and_right, exists_const, Bool.not_true, Bool.not_false, kt_NoneType_int, kt_NoneType_bool, kt_NoneType_str, kt_NoneType_tuple, kt_NoneType_list, kt_NoneType_dict, kt_bool_int, kt_bool_bool, kt_bool_str, kt_bool_tuple, kt_bool_list, kt_bool_dict, kt_int_int, kt_int_bool, kt_int_str, kt_int_tuple, kt_int_list, kt_int_dict, kt_str_int, kt_str_bool, kt_str_str, kt_str_tuple, kt_str_list, kt_str_dict, kt_tuple_int, kt_tuple_bool, kt_tuple_str, kt_tuple_tuple, kt_tuple_list, kt_tuple_dict, kt_list_int, kt_list_bool, kt_list_str, kt_list_tuple, kt_list_list, kt_list_dict, kt_dict_int, kt_dict_bool, kt_dict_str, kt_dict_tuple, kt_dict_list, kt_dict_dict]
  exact fun x hx => mk_ok hx hp1 hq1 hr1 h
theorem st_20 (hp2 : Pr p2) (hq2 : Pr q2) (hr2 : Pr r2) {x2 x4 x5 x7 : Option D} (h : N.nx [some sc, some (.ref b), x2, some (fst3 p2 q2 r2), x4, x5, lk, x7, some (prD a p2 q2 r2), none, none, none] G) :
    rd_law_20 K a W N [some sc, some (.ref b), x2, some (fst3 p2 q2 r2), x4, x5, lk, x7, none, none, none, none] G := by
  unfold rd_law_20
  simp only [var3, con3, op3, un3, tst3, chain3, tru3, vno3, van3, vo3, not3, and3, or3, ite3, nil3, cons3, tup3, lst3, lsf3, nx3, seq3, brk3, cnt3, drop3, ret3, retn3, ifs3, set3, asg3, gn3, gnil3, gcons3, gtup3, for3, ilst3, itup3, irng1, irng2, call3, fld3, sfld3, meth3, make3, raise3, frz3, try3, wTry3, inSuite3, outOf3, xfld3, cb3, isx, bml3, isl, app3, gsub3, st3, dic3, prs3, dkeys, newl, finv, view3, lcg3, id, bag_c, bag_a, bag_r, bag_m, bag_n, bag_pa, bag_pr, bag_pm, bag_pn, bag_len, up_same, up_up, at3_0, at3_1, at3_2, toNat_2, Int.toNat_zero, Int.toNat_one, istru_bl, istru_int, istru_non, istru_tup, istru_lst, istru_kls, istru_str, add3_ii, add3_ss, add3_tt, sub3_ii, mul3_ii, fdv3_ii, mod3_ii, pow3_ii, neg3_i, eqn3_ii, eqn3_ss, eqn3_bb, eqn3_tup, eqn3_lst, eqn3_non, cmi3_ii, isn3_bb, isn3_nn, isn3_on, isn3_tn, isn3_in, isn3_sn, isn3_rn, isn3_ln, isn3_bn, ix3_lst, ix3_kls, ix3_tup, ix3_ri, ix3_rs, opt3_some, getf_obj, seqj_lst, seqj_kls, seqj_ref, tupj_tup, len3_lst, len3_kls, len3_tup, len3_str, len3_ref, int3_i, int3_b, abs3_i, str3_i, lisf3_lst, lisf3_kls, lisf3_tup, list3_lst, list3_kls, list3_tup, tuple3_lst, tuple3_kls, tuple3_tup, isi_2, typ_non, typ_bl, typ_int, typ_str, typ_tup, typ_lst, typ_kls, typ_obj, typok_ty, typok_ref, clsv_ty, clsv_ref, eqo3_obj, onlyb_bl, adl3_ll, all3_lst, List.set_cons_zero, List.set_cons_succ, List.getElem?_cons_zero, List.getElem?_cons_succ, List.map_cons, List.map_nil, List.length_cons, List.length_nil, if_true, if_false, reduceIte, reduceCtorEq, Option.map_some, Option.some.injEq, and_true, true_and, List.cons_append, List.nil_append, Nat.reduceAdd, Nat.reduceLeDiff, Nat.reduceEqDiff, exists_eq_left', exists_eq_left, exists_and_left, exists_eq_right, exists_and_right, exists_const, Bool.not_true, Bool.not_false, kt_NoneType_int, kt_NoneType_bool, kt_NoneType_str, kt_NoneType_tuple, kt_NoneType_list, kt_NoneType_dict, kt_bool_int, kt_bool_bool, kt_bool_str, kt_bool_tuple, kt_bool_list, kt_bool_dict, kt_int_int, kt_int_bool, kt_int_str, kt_int_tuple, kt_int_list, kt_int_dict, kt_str_int, kt_str_bool, kt_str_str, kt_str_tuple, kt_str_list, kt_str_dict, kt_tuple_int, kt_tuple_bool, kt_tuple_str, kt_tuple_tuple, kt_tuple_list, kt_tuple_dict, kt_list_int, kt_list_bool, kt_list_str, kt_list_tuple, kt_list_list, kt_list_dict, kt_dict_int, kt_dict_bool, kt_dict_str, kt_dict_tuple, kt_dict_list, kt_dict_dict]
  exact fun x hx => mk_ok hx hp2 hq2 hr2 h
/-- the state when both are made -/
abbrev S2 (a : Ad) (b : Addr) (sc : D) (p1 q1 r1 p2 q2 r2 i m0 m1 m2 : Int) (lk x9 x10 x11 : Option D) : S3 := [some sc, some (.ref b), some (fst3 p1 q1 r1), some (fst3 p2 q2 r2), some (.int i), some (fst3 m0 m1 m2), lk, some (prD a p1 q1 r1), some (prD a p2 q2 r2), x9, x10, x11]
theorem st_21 {x9 x10 x11 : Option D} (h : N.nx (S2 a b sc p1 q1 r1 p2 q2 r2 i m0 m1 m2 lk x9 x10 x11) G) : rd_law_21 K a W N (S2 a b sc p1 q1 r1 p2 q2 r2 i m0 m1 m2 lk x9 x10 x11) G := by
  unfold rd_law_21
  simp only [var3, con3, op3, un3, tst3, chain3, tru3, vno3, van3, vo3, not3, and3, or3, ite3, nil3, cons3, tup3, lst3, lsf3, nx3, seq3, brk3, cnt3, drop3, ret3, retn3, ifs3, set3, asg3, gn3, gnil3, gcons3, gtup3, for3, ilst3, itup3, irng1, irng2, call3, fld3, sfld3, meth3, make3, raise3, frz3, try3, wTry3, inSuite3, outOf3, xfld3, cb3, isx, bml3, isl, app3, gsub3, st3, dic3, prs3, dkeys, newl, finv, view3, lcg3, id, bag_c, bag_a, bag_r, bag_m, bag_n, bag_pa, bag_pr, bag_pm, bag_pn, bag_len, up_same, up_up, at3_0, at3_1, at3_2, toNat_2, Int.toNat_zero, Int.toNat_one, istru_bl, istru_int, istru_non, istru_tup, istru_lst, istru_kls, istru_str, add3_ii, add3_ss, add3_tt, sub3_ii, mul3_ii, fdv3_ii, mod3_ii, pow3_ii, neg3_i, eqn3_ii, eqn3_ss, eqn3_bb, eqn3_tup, eqn3_lst, eqn3_non, cmi3_ii, isn3_bb, isn3_nn, isn3_on, isn3_tn, isn3_in, isn3_sn, isn3_rn, isn3_ln, isn3_bn, ix3_lst, ix3_kls, ix3_tup, ix3_ri, ix3_rs, opt3_some, getf_obj, seqj_lst, seqj_kls, seqj_ref, tupj_tup, len3_lst, len3_kls, len3_tup, len3_str, len3_ref, int3_i, int3_b, abs3_i, str3_i, lisf3_lst, lisf3_kls, lisf3_tup, list3_lst, list3_kls, list3_tup, tuple3_lst, tuple3_kls, tuple3_tup, isi_2, typ_non, typ_bl, typ_int, typ_str, typ_tup, typ_lst, typ_kls, typ_obj, typok_ty, typok_ref, clsv_ty, clsv_ref, eqo3_obj, onlyb_bl, adl3_ll, all3_lst, List.set_cons_zero, List.set_cons_succ, List.getElem?_cons_zero, List.getElem?_cons_succ, List.map_cons, List.map_nil, List.length_cons, List.length_nil, if_true, if_false, reduceIte, reduceCtorEq, Option.map_some, Option.some.injEq, and_true, true_and, List.cons_append, List.nil_append, Nat.reduceAdd, Nat.reduceLeDiff, Nat.reduceEqDiff, exists_eq_left', exists_eq_left, exists_and_left, exists_eq_right, exists_and_right, exists_const, Bool.not_true, Bool.not_false, kt_NoneType_int, kt_NoneType_bool, kt_NoneType_str, kt_NoneType_tuple, kt_NoneType_list, kt_NoneType_dict, kt_bool_int, kt_bool_bool, kt_bool_str, kt_bool_tuple, kt_bool_list, kt_bool_dict, kt_int_int, kt_int_bool, kt_int_str, kt_int_tuple, kt_int_list, kt_int_dict, kt_str_int, kt_str_bool, kt_str_str, kt_str_tuple, kt_str_list, kt_str_dict, kt_tuple_int, kt_tuple_bool, kt_tuple_str, kt_tuple_tuple, kt_tuple_list, kt_tuple_dict, kt_list_int, kt_list_bool, kt_list_str, kt_list_tuple, kt_list_list, kt_list_dict, kt_dict_int, kt_dict_bool, kt_dict_str, kt_dict_tuple, kt_dict_list, kt_dict_dict]
  refine ⟨p1, q1, r1, _, rfl, rfl, ?_⟩
  simp only [var3, con3, op3, un3, tst3, chain3, tru3, vno3, van3, vo3, not3, and3, or3, ite3, nil3, cons3, tup3, lst3, lsf3, nx3, seq3, brk3, cnt3, drop3, ret3, retn3, ifs3, set3, asg3, gn3, gnil3, gcons3, gtup3, for3, ilst3, itup3, irng1, irng2, call3, fld3, sfld3, meth3, make3, raise3, frz3, try3, wTry3, inSuite3, outOf3, xfld3, cb3, isx, bml3, isl, app3, gsub3, st3, dic3, prs3, dkeys, newl, finv, view3, lcg3, id, bag_c, bag_a, bag_r, bag_m, bag_n, bag_pa, bag_pr, bag_pm, bag_pn, bag_len, up_same, up_up, at3_0, at3_1, at3_2, toNat_2, Int.toNat_zero, Int.toNat_one, istru_bl, istru_int, istru_non, istru_tup, istru_lst, istru_kls, istru_str, add3_ii, add3_ss, add3_tt, sub3_ii, mul3_ii, fdv3_ii, mod3_ii, pow3_ii, neg3_i, eqn3_ii, eqn3_ss, eqn3_bb, eqn3_tup, eqn3_lst, eqn3_non, cmi3_ii, isn3_bb, isn3_nn, isn3_on, isn3_tn, isn3_in, isn3_sn, isn3_rn, isn3_ln, isn3_bn, ix3_lst, ix3_kls, ix3_tup, ix3_ri, ix3_rs, opt3_some, getf_obj, seqj_lst, seqj_kls, seqj_ref, tupj_tup, len3_lst, len3_kls, len3_tup, len3_str, len3_ref, int3_i, int3_b, abs3_i, str3_i, lisf3_lst, lisf3_kls, lisf3_tup, list3_lst, list3_kls, list3_tup, tuple3_lst, tuple3_kls, tuple3_tup, isi_2, typ_non, typ_bl, typ_int, typ_str, typ_tup, typ_lst, typ_kls, typ_obj, typok_ty, typok_ref, clsv_ty, clsv_ref, eqo3_obj, onlyb_bl, adl3_ll, all3_lst, List.set_cons_zero, List.set_cons_succ, List.getElem?_cons_zero, List.getElem?_cons_succ, List.map_cons, List.map_nil, List.length_cons, List.length_nil, if_true, if_false, reduceIte, reduceCtorEq, Option.map_some, Option.some.injEq, and_true, true_and, List.cons_append, List.nil_append, Nat.reduceAdd, Nat.reduceLeDiff, Nat.reduceEqDiff, exists_eq_left', exists_eq_left, exists_and_left, exists_eq_right, exists_and_right, exists_const, Bool.not_true, Bool.not_false, kt_NoneType_int, kt_NoneType_bool, kt_NoneType_str, kt_NoneType_tuple, kt_NoneType_list, kt_NoneType_dict, kt_bool_int, kt_bool_bool, kt_bool_str, kt_bool_tuple, kt_bool_list, kt_bool_dict, kt_int_int, kt_int_bool, kt_int_str, kt_int_tuple, kt_int_list, kt_int_dict, kt_str_int, kt_str_bool, kt_str_str, kt_str_tuple, kt_str_list, kt_str_dict, kt_tuple_int, kt_tuple_bool, kt_tuple_str, kt_tuple_tuple, kt_tuple_list, kt_tuple_dict, kt_list_int, kt_list_bool, kt_list_str, kt_list_tuple, kt_list_list, kt_list_dict, kt_dict_int, kt_dict_bool, kt_dict_str, kt_dict_tuple, kt_dict_list, kt_dict_dict]
  refine ⟨p2, q2, r2, _, rfl, rfl, ?_⟩
  simp only [var3, con3, op3, un3, tst3, chain3, tru3, vno3, van3, vo3, not3, and3, or3, ite3, nil3, cons3, tup3, lst3, lsf3, nx3, seq3, brk3, cnt3, drop3, ret3, retn3, ifs3, set3, asg3, gn3, gnil3, gcons3, gtup3, for3, ilst3, itup3, irng1, irng2, call3, fld3, sfld3, meth3, make3, raise3, frz3, try3, wTry3, inSuite3, outOf3, xfld3, cb3, isx, bml3, isl, app3, gsub3, st3, dic3, prs3, dkeys, newl, finv, view3, lcg3, id, bag_c, bag_a, bag_r, bag_m, bag_n, bag_pa, bag_pr, bag_pm, bag_pn, bag_len, up_same, up_up, at3_0, at3_1, at3_2, toNat_2, Int.toNat_zero, Int.toNat_one, istru_bl, istru_int, istru_non, istru_tup, istru_lst, istru_kls, istru_str, add3_ii, add3_ss, add3_tt, sub3_ii, mul3_ii, fdv3_ii, mod3_ii, pow3_ii, neg3_i, eqn3_ii, eqn3_ss, eqn3_bb, eqn3_tup, eqn3_lst, eqn3_non, cmi3_ii, isn3_bb, isn3_nn, isn3_on, isn3_tn, isn3_in, isn3_sn, isn3_rn, isn3_ln, isn3_bn, ix3_lst, ix3_kls, ix3_tup, ix3_ri, ix3_rs, opt3_some, getf_obj, seqj_lst, seqj_kls, seqj_ref, tupj_tup, len3_lst, len3_kls, len3_tup, len3_str, len3_ref, int3_i, int3_b, abs3_i, str3_i, lisf3_lst, lisf3_kls, lisf3_tup, list3_lst, list3_kls, list3_tup, tuple3_lst, tuple3_kls, tuple3_tup, isi_2, typ_non, typ_bl, typ_int, typ_str, typ_tup, typ_lst, typ_kls, typ_obj, typok_ty, typok_ref, clsv_ty, clsv_ref, eqo3_obj, onlyb_bl, adl3_ll, all3_lst, List.set_cons_zero, List.set_cons_succ, List.getElem?_cons_zero, List.getElem?_cons_succ, List.map_cons, List.map_nil, List.length_cons, List.length_nil, if_true, if_false, reduceIte, reduceCtorEq, Option.map_some, Option.some.injEq, and_true, true_and, List.cons_append, List.nil_append, Nat.reduceAdd, Nat.reduceLeDiff, Nat.reduceEqDiff, exists_eq_left', exists_eq_left, exists_and_left, exists_eq_right, exists_and_right, exists_const, Bool.not_true, Bool.not_false, kt_NoneType_int, kt_NoneType_bool, kt_NoneType_str, kt_NoneType_tuple, kt_NoneType_list, kt_NoneType_dict, kt_bool_int, kt_bool_bool, kt_bool_str, kt_bool_tuple, kt_bool_list, kt_bool_dict, kt_int_int, kt_int_bool, kt_int_str, kt_int_tuple, kt_int_list, kt_int_dict, kt_str_int, kt_str_bool, kt_str_str, kt_str_tuple, kt_str_list, kt_str_dict, kt_tuple_int, kt_tuple_bool, kt_tuple_str, kt_tuple_tuple, kt_tuple_list, kt_tuple_dict, kt_list_int, kt_list_bool, kt_list_str, kt_list_tuple, kt_list_list, kt_list_dict, kt_dict_int, kt_dict_bool, kt_dict_str, kt_dict_tuple, kt_dict_list, kt_dict_dict]
  exact h
theorem st_22 (hp1 : Pr p1) (hq1 : Pr q1) (hr1 : Pr r1) (hp2 : Pr p2) (hq2 : Pr q2) (hr2 : Pr r2) {x9 x10 x11 : Option D} (h : N.nx (S2 a b sc p1 q1 r1 p2 q2 r2 i m0 m1 m2 lk x9 x10 x11) G) : rd_law_22 K a W N (S2 a b sc p1 q1 r1 p2 q2 r2 i m0 m1 m2 lk x9 x10 x11) G := by
  unfold rd_law_22
  simp only [var3, con3, op3, un3, tst3, chain3, tru3, vno3, van3, vo3, not3, and3, or3, ite3, nil3, cons3, tup3, lst3, lsf3, nx3, seq3, brk3, cnt3, drop3, ret3, retn3, ifs3, set3, asg3, gn3, gnil3, gcons3, gtup3, for3, ilst3, itup3, irng1, irng2, call3, fld3, sfld3, meth3, make3, raise3, frz3, try3, wTry3, inSuite3, outOf3, xfld3, cb3, isx, bml3, isl, app3, gsub3, st3, dic3, prs3, dkeys, newl, finv, view3, lcg3, id, bag_c, bag_a, bag_r, bag_m, bag_n, bag_pa, bag_pr, bag_pm, bag_pn, bag_len, up_same, up_up, at3_0, at3_1, at3_2, toNat_2, Int.toNat_zero, Int.toNat_one, istru_bl, istru_int, istru_non, istru_tup, istru_lst, istru_kls, istru_str, add3_ii, add3_ss, add3_tt, sub3_ii, mul3_ii, fdv3_ii, mod3_ii, pow3_ii, neg3_i, eqn3_ii, eqn3_ss, eqn3_bb, eqn3_tup, eqn3_lst, eqn3_non, cmi3_ii, isn3_bb, isn3_nn, isn3_on, isn3_tn, isn3_in, isn3_sn, isn3_rn, isn3_ln, isn3_bn, ix3_lst, ix3_kls, ix3_tup, ix3_ri, ix3_rs, opt3_some, getf_obj, seqj_lst, seqj_kls, seqj_ref, tupj_tup, len3_lst, len3_kls, len3_tup, len3_str, len3_ref, int3_i, int3_b, abs3_i, str3_i, lisf3_lst, lisf3_kls, lisf3_tup, list3_lst, list3_kls, list3_tup, tuple3_lst, tuple3_kls, tuple3_tup, isi_2, typ_non, typ_bl, typ_int, typ_str, typ_tup, typ_lst, typ_kls, typ_obj, typok_ty, typok_ref, clsv_ty, clsv_ref, eqo3_obj, onlyb_bl, adl3_ll, all3_lst, List.set_cons_zero, List.set_cons_succ, List.getElem?_cons_zero, List.getElem?_cons_succ, List.map_cons, List.map_nil, List.length_cons, List.length_nil, if_true, if_false, reduceIte, reduceCtorEq, Option.map_some, Option.some.injEq, and_true, true_and, List.cons_append, List.nil_append, Nat.reduceAdd, Nat.reduceLeDiff, Nat.reduceEqDiff, exists_eq_left', exists_eq_left, exists_and_left, exists_eq_right, exists_and_right, exists_const, Bool.not_true, Bool.not_false, kt_NoneType_int, kt_NoneType_bool, kt_NoneType_str, kt_NoneType_tuple, kt_NoneType_list, kt_NoneType_dict, kt_bool_int, kt_bool_bool, kt_bool_str, kt_bool_tuple, kt_bool_list, kt_bool_dict, kt_int_int, kt_int_bool, kt_int_str, kt_int_tuple, kt_int_list, kt_int_dict, kt_str_int, kt_str_bool, kt_str_str, kt_str_tuple, kt_str_list, kt_str_dict, kt_tuple_int, kt_tuple_bool, kt_tuple_str, kt_tuple_tuple, kt_tuple_list, kt_tuple_dict, kt_list_int, kt_list_bool, kt_list_str, kt_list_tuple, kt_list_list, kt_list_dict, kt_dict_int, kt_dict_bool, kt_dict_str, kt_dict_tuple, kt_dict_list, kt_dict_dict]
  refine ⟨p1, q1, r1, m0, m1, m2, _, _, rfl, rfl, rfl, ⟨hp1, hq1, hr1⟩, ?_⟩
  simp only [var3, con3, op3, un3, tst3, chain3, tru3, vno3, van3, vo3, not3, and3, or3, ite3, nil3, cons3, tup3, lst3, lsf3, nx3, seq3, brk3, cnt3, drop3, ret3, retn3, ifs3, set3, asg3, gn3, gnil3, gcons3, gtup3, for3, ilst3, itup3, irng1, irng2, call3, fld3, sfld3, meth3, make3, raise3, frz3, try3, wTry3, inSuite3, outOf3, xfld3, cb3, isx, bml3, isl, app3, gsub3, st3, dic3, prs3, dkeys, newl, finv, view3, lcg3, id, bag_c, bag_a, bag_r, bag_m, bag_n, bag_pa, bag_pr, bag_pm, bag_pn, bag_len, up_same, up_up, at3_0, at3_1, at3_2, toNat_2, Int.toNat_zero, Int.toNat_one, istru_bl, istru_int, istru_non, istru_tup, istru_lst, istru_kls, istru_str, add3_ii, add3_ss, add3_tt, sub3_ii, mul3_ii, fdv3_ii, mod3_ii, pow3_ii, neg3_i, eqn3_ii, eqn3_ss, eqn3_bb, eqn3_tup, eqn3_lst, eqn3_non, cmi3_ii, isn3_bb, isn3_nn, isn3_on, isn3_tn, isn3_in, isn3_sn, isn3_rn, isn3_ln, isn3_bn, ix3_lst, ix3_kls, ix3_tup, ix3_ri, ix3_rs, opt3_some, getf_obj, seqj_lst, seqj_kls, seqj_ref, tupj_tup, len3_lst, len3_kls, len3_tup, len3_str, len3_ref, int3_i, int3_b, abs3_i, str3_i, lisf3_lst, lisf3_kls, lisf3_tup, list3_lst, list3_kls, list3_tup, tuple3_lst, tuple3_kls, tuple3_tup, isi_2, typ_non, typ_bl, typ_int, typ_str, typ_tup, typ_lst, typ_kls, typ_obj, typok_ty, typok_ref, clsv_ty, clsv_ref, eqo3_obj, onlyb_bl, adl3_ll, all3_lst, List.set_cons_zero, List.set_cons_succ, List.getElem?_cons_zero, List.getElem?_cons_succ, List.map_cons, List.map_nil, List.length_cons, List.length_nil, if_true, if_false, reduceIte, reduceCtorEq, Option.map_some, Option.some.injEq, and_true, true_and, List.cons_append, List.nil_append, Nat.reduceAdd, Nat.reduceLeDiff, Nat.reduceEqDiff, exists_eq_left', exists_eq_left, exists_and_left, exists_eq_right, exists_and_right, exists_const, Bool.not_true, Bool.not_false, kt_NoneType_int, kt_NoneType_bool, kt_NoneType_str, kt_NoneType_tuple, kt_NoneType_list, kt_NoneType_dict, kt_bool_int, kt_bool_bool, kt_bool_str, kt_bool_tuple, kt_bool_list, kt_bool_dict, kt_int_int, kt_int_bool, kt_int_str, kt_int_tuple, kt_int_list, kt_int_dict, kt_str_int, kt_str_bool, kt_str_str, kt_str_tuple, kt_str_list, kt_str_dict, kt_tuple_int, kt_tuple_bool, kt_tuple_str, kt_tuple_tuple, kt_tuple_list, kt_tuple_dict, kt_list_int, kt_list_bool, kt_list_str, kt_list_tuple, kt_list_list, kt_list_dict, kt_dict_int, kt_dict_bool, kt_dict_str, kt_dict_tuple, kt_dict_list, kt_dict_dict]
  refine ⟨p2, q2, r2, m0, m1, m2, _, _, rfl, rfl, rfl, ⟨hp2, hq2, hr2⟩, ?_⟩
  simp only [var3, con3, op3, un3, tst3, chain3, tru3, vno3, van3, vo3, not3, and3, or3, ite3, nil3, cons3, tup3, lst3, lsf3, nx3, seq3, brk3, cnt3, drop3, ret3, retn3, ifs3, set3, asg3, gn3, gnil3, gcons3, gtup3, for3, ilst3, itup3, irng1, irng2, call3, fld3, sfld3, meth3, make3, raise3, frz3, try3, wTry3, inSuite3, outOf3, xfld3, cb3, isx, bml3, isl, app3, gsub3, st3, dic3, prs3, dkeys, newl, finv, view3, lcg3, id, bag_c, bag_a, bag_r, bag_m, bag_n, bag_pa, bag_pr, bag_pm, bag_pn, bag_len, up_same, up_up, at3_0, at3_1, at3_2, toNat_2, Int.toNat_zero, Int.toNat_one, istru_bl, istru_int, istru_non, istru_tup, istru_lst, istru_kls, istru_str, add3_ii, add3_ss, add3_tt, sub3_ii, mul3_ii, fdv3_ii, mod3_ii, pow3_ii, neg3_i, eqn3_ii, eqn3_ss, eqn3_bb, eqn3_tup, eqn3_lst, eqn3_non, cmi3_ii, isn3_bb, isn3_nn, isn3_on, isn3_tn, isn3_in, isn3_sn, isn3_rn, isn3_ln, isn3_bn, ix3_lst, ix3_kls, ix3_tup, ix3_ri, ix3_rs, opt3_some, getf_obj, seqj_lst, seqj_kls, seqj_ref, tupj_tup, len3_lst, len3_kls, len3_tup, len3_str, len3_ref, int3_i, int3_b, abs3_i, str3_i, lisf3_lst, lisf3_kls, lisf3_tup, list3_lst, list3_kls, list3_tup, tuple3_lst, tuple3_kls, tuple3_tup, isi_2, typ_non, typ_bl, typ_int, typ_str, typ_tup, typ_lst, typ_kls, typ_obj, typok_ty, typok_ref, clsv_ty, clsv_ref, eqo3_obj, onlyb_bl, adl3_ll, all3_lst, List.set_cons_zero, List.set_cons_succ, List.getElem?_cons_zero, List.getElem?_cons_succ, List.map_cons, List.map_nil, List.length_cons, List.length_nil, if_true, if_false, reduceIte, reduceCtorEq, Option.map_some, Option.some.injEq, and_true, true_and, List.cons_append, List.nil_append, Nat.reduceAdd, Nat.reduceLeDiff, Nat.reduceEqDiff, exists_eq_left', exists_eq_left, exists_and_left, exists_eq_right, exists_and_right, exists_const, Bool.not_true, Bool.not_false, kt_NoneType_int, kt_NoneType_bool, kt_NoneType_str, kt_NoneType_tuple, kt_NoneType_list, kt_NoneType_dict, kt_bool_int, kt_bool_bool, kt_bool_str, kt_bool_tuple, kt_bool_list, kt_bool_dict, kt_int_int, kt_int_bool, kt_int_str, kt_int_tuple, kt_int_list, kt_int_dict, kt_str_int, kt_str_bool, kt_str_str, kt_str_tuple, kt_str_list, kt_str_dict, kt_tuple_int, kt_tuple_bool, kt_tuple_str, kt_tuple_tuple, kt_tuple_list, kt_tuple_dict, kt_list_int, kt_list_bool, kt_list_str, kt_list_tuple, kt_list_list, kt_list_dict, kt_dict_int, kt_dict_bool, kt_dict_str, kt_dict_tuple, kt_dict_list, kt_dict_dict]
  refine ⟨p1, q1, r1, m0, m1, m2, _, _, rfl, rfl, rfl, ⟨hp1, hq1, hr1⟩, ?_⟩
  simp only [var3, con3, op3, un3, tst3, chain3, tru3, vno3, van3, vo3, not3, and3, or3, ite3, nil3, cons3, tup3, lst3, lsf3, nx3, seq3, brk3, cnt3, drop3, ret3, retn3, ifs3, set3, asg3, gn3, gnil3, gcons3, gtup3, for3, ilst3, itup3, irng1, irng2, call3, fld3, sfld3, meth3, make3, raise3, frz3, try3, wTry3, inSuite3, outOf3, xfld3, cb3, isx, bml3, isl, app3, gsub3, st3, dic3, prs3, dkeys, newl, finv, view3, lcg3, id, bag_c, bag_a, bag_r, bag_m, bag_n, bag_pa, bag_pr, bag_pm, bag_pn, bag_len, up_same, up_up, at3_0, at3_1, at3_2, toNat_2, Int.toNat_zero, Int.toNat_one, istru_bl, istru_int, istru_non, istru_tup, istru_lst, istru_kls, istru_str, add3_ii, add3_ss, add3_tt, sub3_ii, mul3_ii, fdv3_ii, mod3_ii, pow3_ii, neg3_i, eqn3_ii, eqn3_ss, eqn3_bb, eqn3_tup, eqn3_lst, eqn3_non, cmi3_ii, isn3_bb, isn3_nn, isn3_on, isn3_tn, isn3_in, isn3_sn, isn3_rn, isn3_ln, isn3_bn, ix3_lst, ix3_kls, ix3_tup, ix3_ri, ix3_rs, opt3_some, getf_obj, seqj_lst, seqj_kls, seqj_ref, tupj_tup, len3_lst, len3_kls, len3_tup, len3_str, len3_ref, int3_i, int3_b, abs3_i, str3_i, lisf3_lst, lisf3_kls, lisf3_tup, list3_lst, list3_kls, list3_tup, tuple3_lst, tuple3_kls, tuple3_tup, isi_2, typ_non, typ_bl, typ_int, typ_str, typ_tup, typ_lst, typ_kls, typ_obj, typok_ty, typok_ref, clsv_ty, clsv_ref, eqo3_obj, onlyb_bl, adl3_ll, all3_lst, List.set_cons_zero, List.set_cons_succ, List.getElem?_cons_zero, List.getElem?_cons_succ, List.map_cons, List.map_nil, List.length_cons, List.length_nil, if_true, if_false, reduceIte, reduceCtorEq, Option.map_some, Option.some.injEq, and_true, true_and, List.cons_append, List.nil_append, Nat.reduceAdd, Nat.reduceLeDiff, Nat.reduceEqDiff, exists_eq_left', exists_eq_left, exists_and_left, exists_eq_right, exists_and_right, exists_const, Bool.not_true, Bool.not_false, kt_NoneType_int, kt_NoneType_bool, kt_NoneType_str, kt_NoneType_tuple, kt_NoneType_list, kt_NoneType_dict, kt_bool_int, kt_bool_bool, kt_bool_str, kt_bool_tuple, kt_bool_list, kt_bool_dict, kt_int_int, kt_int_bool, kt_int_str, kt_int_tuple, kt_int_list, kt_int_dict, kt_str_int, kt_str_bool, kt_str_str, kt_str_tuple, kt_str_list, kt_str_dict, kt_tuple_int, kt_tuple_bool, kt_tuple_str, kt_tuple_tuple, kt_tuple_list, kt_tuple_dict, kt_list_int, kt_list_bool, kt_list_str, kt_list_tuple, kt_list_list, kt_list_dict, kt_dict_int, kt_dict_bool, kt_dict_str, kt_dict_tuple, kt_dict_list, kt_dict_dict]
  exact h
theorem st_23 (hp1 : Pr p1) (hq1 : Pr q1) (hr1 : Pr r1) (hp2 : Pr p2) (hq2 : Pr q2) (hr2 : Pr r2) {x9 x10 x11 : Option D} (h : N.nx (S2 a b sc p1 q1 r1 p2 q2 r2 i m0 m1 m2 lk x9 x10 x11) G) : rd_law_23 K a W N (S2 a b sc p1 q1 r1 p2 q2 r2 i m0 m1 m2 lk x9 x10 x11) G := by
  unfold rd_law_23
  simp only [var3, con3, op3, un3, tst3, chain3, tru3, vno3, van3, vo3, not3, and3, or3, ite3, nil3, cons3, tup3, lst3, lsf3, nx3, seq3, brk3, cnt3, drop3, ret3, retn3, ifs3, set3, asg3, gn3, gnil3, gcons3, gtup3, for3, ilst3, itup3, irng1, irng2, call3, fld3, sfld3, meth3, make3, raise3, frz3, try3, wTry3, inSuite3, outOf3, xfld3, cb3, isx, bml3, isl, app3, gsub3, st3, dic3, prs3, dkeys, newl, finv, view3, lcg3, id, bag_c, bag_a, bag_r, bag_m, bag_n, bag_pa, bag_pr, bag_pm, bag_pn, bag_len, up_same, up_up, at3_0, at3_1, at3_2, toNat_2, Int.toNat_zero, Int.toNat_one, istru_bl, istru_int, istru_non, istru_tup, istru_lst, istru_kls, istru_str, add3_ii, add3_ss, add3_tt, sub3_ii, mul3_ii, fdv3_ii, mod3_ii, pow3_ii, neg3_i, eqn3_ii, eqn3_ss, eqn3_bb, eqn3_tup, eqn3_lst, eqn3_non, cmi3_ii, isn3_bb, isn3_nn, isn3_on, isn3_tn, isn3_in, isn3_sn, isn3_rn, isn3_ln, isn3_bn, ix3_lst, ix3_kls, ix3_tup, ix3_ri, ix3_rs, opt3_some, getf_obj, seqj_lst, seqj_kls, seqj_ref, tupj_tup, len3_lst, len3_kls, len3_tup, len3_str, len3_ref, int3_i, int3_b, abs3_i, str3_i, lisf3_lst, lisf3_kls, lisf3_tup, list3_lst, list3_kls, list3_tup, tuple3_lst, tuple3_kls, tuple3_tup, isi_2, typ_non, typ_bl, typ_int, typ_str, typ_tup, typ_lst, typ_kls, typ_obj, typok_ty, typok_ref, clsv_ty, clsv_ref, eqo3_obj, onlyb_bl, adl3_ll, all3_lst, List.set_cons_zero, List.set_cons_succ, List.getElem?_cons_zero, List.getElem?_cons_succ, List.map_cons, List.map_nil, List.length_cons, List.length_nil, if_true, if_false, reduceIte, reduceCtorEq, Option.map_some, Option.some.injEq, and_true, true_and, List.cons_append, List.nil_append, Nat.reduceAdd, Nat.reduceLeDiff, Nat.reduceEqDiff, exists_eq_left', exists_eq_left, exists_and_left, exists_eq_right, exists_and_right, exists_const, Bool.not_true, Bool.not_false, kt_NoneType_int, kt_NoneType_bool, kt_NoneType_str, kt_NoneType_tuple, kt_NoneType_list, kt_NoneType_dict, kt_bool_int, kt_bool_bool, kt_bool_str, kt_bool_tuple, kt_bool_list, kt_bool_dict, kt_int_int, kt_int_bool, kt_int_str, kt_int_tuple, kt_int_list, kt_int_dict, kt_str_int, kt_str_bool, kt_str_str, kt_str_tuple, kt_str_list, kt_str_dict, kt_tuple_int, kt_tuple_bool, kt_tuple_str, kt_tuple_tuple, kt_tuple_list, kt_tuple_dict, kt_list_int, kt_list_bool, kt_list_str, kt_list_tuple, kt_list_list, kt_list_dict, kt_dict_int, kt_dict_bool, kt_dict_str, kt_dict_tuple, kt_dict_list, kt_dict_dict]
  refine ⟨by decide, ?_⟩
  refine lci_map (fun x => match x with
    | .int k => .int (if decide (k = i) then 1 else 0)
    | x => x) G trivial (by decide) (fun x hx => ?_) ?_
  · obtain ⟨k, _, rfl⟩ := List.mem_map.mp hx
    refine ⟨_, rfl, fun R h => ?_⟩
    simp only [var3, con3, op3, un3, tst3, chain3, tru3, vno3, van3, vo3, not3, and3, or3, ite3, nil3, cons3, tup3, lst3, lsf3, nx3, seq3, brk3, cnt3, drop3, ret3, retn3, ifs3, set3, asg3, gn3, gnil3, gcons3, gtup3, for3, ilst3, itup3, irng1, irng2, call3, fld3, sfld3, meth3, make3, raise3, frz3, try3, wTry3, inSuite3, outOf3, xfld3, cb3, isx, bml3, isl, app3, gsub3, st3, dic3, prs3, dkeys, newl, finv, view3, lcg3, id, bag_c, bag_a, bag_r, bag_m, bag_n, bag_pa, bag_pr, bag_pm, bag_pn, bag_len, up_same, up_up, at3_0, at3_1, at3_2, toNat_2, Int.toNat_zero, Int.toNat_one, istru_bl, istru_int, istru_non, istru_tup, istru_lst, istru_kls, istru_str, add3_ii, add3_ss, add3_tt, sub3_ii, mul3_ii, fdv3_ii, mod3_ii, pow3_ii, neg3_i, eqn3_ii, eqn3_ss, eqn3_bb, eqn3_tup, eqn3_lst, eqn3_non, cmi3_ii, isn3_bb, isn3_nn, isn3_on, isn3_tn, isn3_in, isn3_sn, isn3_rn, isn3_ln, isn3_bn, ix3_lst, ix3_kls, ix3_tup, ix3_ri, ix3_rs, opt3_some, getf_obj, seqj_lst, seqj_kls, seqj_ref, tupj_tup, len3_lst, len3_kls, len3_tup, len3_str, len3_ref, int3_i, int3_b, abs3_i, str3_i, lisf3_lst, lisf3_kls, lisf3_tup, list3_lst, list3_kls, list3_tup, tuple3_lst, tuple3_kls, tuple3_tup, isi_2, typ_non, typ_bl, typ_int, typ_str, typ_tup, typ_lst, typ_kls, typ_obj, typok_ty, typok_ref, clsv_ty, clsv_ref, eqo3_obj, onlyb_bl, adl3_ll, all3_lst, List.set_cons_zero, List.set_cons_succ, List.getElem?_cons_zero, List.getElem?_cons_succ, List.map_cons, List.map_nil, List.length_cons, List.length_nil, if_true, if_false, reduceIte, reduceCtorEq, Option.map_some, Option.some.injEq, and_true, true_and, List.cons_append, List.nil_append, Nat.reduceAdd, Nat.reduceLeDiff, Nat.reduceEqDiff, exists_eq_left', exists_eq_left, exists_and_left, exists_eq_right, exists_and_right, exists_const, Bool.not_true, Bool.not_false, kt_NoneType_int, kt_NoneType_bool, kt_NoneType_str, kt_NoneType_tuple, kt_NoneType_list, kt_NoneType_dict, kt_bool_int, kt_bool_bool, kt_bool_str, kt_bool_tuple, kt_bool_list, kt_bool_dict, kt_int_int, kt_int_bool, kt_int_str, kt_int_tuple, kt_int_list, kt_int_dict, kt_str_int, kt_str_bool, kt_str_str, kt_str_tuple, kt_str_list, kt_str_dict, kt_tuple_int, kt_tuple_bool, kt_tuple_str, kt_tuple_tuple, kt_tuple_list, kt_tuple_dict, kt_list_int, kt_list_bool, kt_list_str, kt_list_tuple, kt_list_list, kt_list_dict, kt_dict_int, kt_dict_bool, kt_dict_str, kt_dict_tuple, kt_dict_list, kt_dict_dict, wipe3]
    exact h
  · refine ⟨p2, q2, r2, _, _, _, _, _, rfl, rfl, rfl, ⟨hp2, hq2, hr2⟩, ?_⟩
    simp only [var3, con3, op3, un3, tst3, chain3, tru3, vno3, van3, vo3, not3, and3, or3, ite3, nil3, cons3, tup3, lst3, lsf3, nx3, seq3, brk3, cnt3, drop3, ret3, retn3, ifs3, set3, asg3, gn3, gnil3, gcons3, gtup3, for3, ilst3, itup3, irng1, irng2, call3, fld3, sfld3, meth3, make3, raise3, frz3, try3, wTry3, inSuite3, outOf3, xfld3, cb3, isx, bml3, isl, app3, gsub3, st3, dic3, prs3, dkeys, newl, finv, view3, lcg3, id, bag_c, bag_a, bag_r, bag_m, bag_n, bag_pa, bag_pr, bag_pm, bag_pn, bag_len, up_same, up_up, at3_0, at3_1, at3_2, toNat_2, Int.toNat_zero, Int.toNat_one, istru_bl, istru_int, istru_non, istru_tup, istru_lst, istru_kls, istru_str, add3_ii, add3_ss, add3_tt, sub3_ii, mul3_ii, fdv3_ii, mod3_ii, pow3_ii, neg3_i, eqn3_ii, eqn3_ss, eqn3_bb, eqn3_tup, eqn3_lst, eqn3_non, cmi3_ii, isn3_bb, isn3_nn, isn3_on, isn3_tn, isn3_in, isn3_sn, isn3_rn, isn3_ln, isn3_bn, ix3_lst, ix3_kls, ix3_tup, ix3_ri, ix3_rs, opt3_some, getf_obj, seqj_lst, seqj_kls, seqj_ref, tupj_tup, len3_lst, len3_kls, len3_tup, len3_str, len3_ref, int3_i, int3_b, abs3_i, str3_i, lisf3_lst, lisf3_kls, lisf3_tup, list3_lst, list3_kls, list3_tup, tuple3_lst, tuple3_kls, tuple3_tup, isi_2, typ_non, typ_bl, typ_int, typ_str, typ_tup, typ_lst, typ_kls, typ_obj, typok_ty, typok_ref, clsv_ty, clsv_ref, eqo3_obj, onlyb_bl, adl3_ll, all3_lst, List.set_cons_zero, List.set_cons_succ, List.getElem?_cons_zero, List.getElem?_cons_succ, List.map_cons, List.map_nil, List.length_cons, List.length_nil, if_true, if_false, reduceIte, reduceCtorEq, Option.map_some, Option.some.injEq, and_true, true_and, List.cons_append, List.nil_append, Nat.reduceAdd, Nat.reduceLeDiff, Nat.reduceEqDiff, exists_eq_left', exists_eq_left, exists_and_left, exists_eq_right, exists_and_right, exists_const, Bool.not_true, Bool.not_false, kt_NoneType_int, kt_NoneType_bool, kt_NoneType_str, kt_NoneType_tuple, kt_NoneType_list, kt_NoneType_dict, kt_bool_int, kt_bool_bool, kt_bool_str, kt_bool_tuple, kt_bool_list, kt_bool_dict, kt_int_int, kt_int_bool, kt_int_str, kt_int_tuple, kt_int_list, kt_int_dict, kt_str_int, kt_str_bool, kt_str_str, kt_str_tuple, kt_str_list, kt_str_dict, kt_tuple_int, kt_tuple_bool, kt_tuple_str, kt_tuple_tuple, kt_tuple_list, kt_tuple_dict, kt_list_int, kt_list_bool, kt_list_str, kt_list_tuple, kt_list_list, kt_list_dict, kt_dict_int, kt_dict_bool, kt_dict_str, kt_dict_tuple, kt_dict_list, kt_dict_dict]
    refine ⟨p1, q1, r1, 0, 0, 0, _, _, rfl, rfl, rfl, ⟨hp1, hq1, hr1⟩, ?_⟩
    simp only [var3, con3, op3, un3, tst3, chain3, tru3, vno3, van3, vo3, not3, and3, or3, ite3, nil3, cons3, tup3, lst3, lsf3, nx3, seq3, brk3, cnt3, drop3, ret3, retn3, ifs3, set3, asg3, gn3, gnil3, gcons3, gtup3, for3, ilst3, itup3, irng1, irng2, call3, fld3, sfld3, meth3, make3, raise3, frz3, try3, wTry3, inSuite3, outOf3, xfld3, cb3, isx, bml3, isl, app3, gsub3, st3, dic3, prs3, dkeys, newl, finv, view3, lcg3, id, bag_c, bag_a, bag_r, bag_m, bag_n, bag_pa, bag_pr, bag_pm, bag_pn, bag_len, up_same, up_up, at3_0, at3_1, at3_2, toNat_2, Int.toNat_zero, Int.toNat_one, istru_bl, istru_int, istru_non, istru_tup, istru_lst, istru_kls, istru_str, add3_ii, add3_ss, add3_tt, sub3_ii, mul3_ii, fdv3_ii, mod3_ii, pow3_ii, neg3_i, eqn3_ii, eqn3_ss, eqn3_bb, eqn3_tup, eqn3_lst, eqn3_non, cmi3_ii, isn3_bb, isn3_nn, isn3_on, isn3_tn, isn3_in, isn3_sn, isn3_rn, isn3_ln, isn3_bn, ix3_lst, ix3_kls, ix3_tup, ix3_ri, ix3_rs, opt3_some, getf_obj, seqj_lst, seqj_kls, seqj_ref, tupj_tup, len3_lst, len3_kls, len3_tup, len3_str, len3_ref, int3_i, int3_b, abs3_i, str3_i, lisf3_lst, lisf3_kls, lisf3_tup, list3_lst, list3_kls, list3_tup, tuple3_lst, tuple3_kls, tuple3_tup, isi_2, typ_non, typ_bl, typ_int, typ_str, typ_tup, typ_lst, typ_kls, typ_obj, typok_ty, typok_ref, clsv_ty, clsv_ref, eqo3_obj, onlyb_bl, adl3_ll, all3_lst, List.set_cons_zero, List.set_cons_succ, List.getElem?_cons_zero, List.getElem?_cons_succ, List.map_cons, List.map_nil, List.length_cons, List.length_nil, if_true, if_false, reduceIte, reduceCtorEq, Option.map_some, Option.some.injEq, and_true, true_and, List.cons_append, List.nil_append, Nat.reduceAdd, Nat.reduceLeDiff, Nat.reduceEqDiff, exists_eq_left', exists_eq_left, exists_and_left, exists_eq_right, exists_and_right, exists_const, Bool.not_true, Bool.not_false, kt_NoneType_int, kt_NoneType_bool, kt_NoneType_str, kt_NoneType_tuple, kt_NoneType_list, kt_NoneType_dict, kt_bool_int, kt_bool_bool, kt_bool_str, kt_bool_tuple, kt_bool_list, kt_bool_dict, kt_int_int, kt_int_bool, kt_int_str, kt_int_tuple, kt_int_list, kt_int_dict, kt_str_int, kt_str_bool, kt_str_str, kt_str_tuple, kt_str_list, kt_str_dict, kt_tuple_int, kt_tuple_bool, kt_tuple_str, kt_tuple_tuple, kt_tuple_list, kt_tuple_dict, kt_list_int, kt_list_bool, kt_list_str, kt_list_tuple, kt_list_list, kt_list_dict, kt_dict_int, kt_dict_bool, kt_dict_str, kt_dict_tuple, kt_dict_list, kt_dict_dict]
    exact h
include T in
theorem eq_ok {p q r p' q' r' : Int} {Q : K3} (h : Q (.bl (decide (p = p' ∧ q = q' ∧ r = r'))) G) : eqo3 K a.c_Prices (sp_Pricesx_eqx K a) (prD a p q r) (prD a p' q' r') G Q :=
  ⟨rfl, _, rfl, ⟨T.ins_Prices, T.nf_Prices_Prices⟩, p, q, r, _, rfl, p', q', r', rfl, h⟩
include T in
theorem eq_int {p q r j : Int} {Q : K3} (h : Q (.bl false) G) : eqo3 K a.c_Prices (sp_Pricesx_eqx K a) (prD a p q r) (.int j) G Q :=
  ⟨rfl, _, rfl, ⟨trivial, T.nf_Prices_int⟩, p, q, r, _, rfl, h⟩
include T in
theorem eq_tup {p q r : Int} {xs : List D} {Q : K3} (h : Q (.bl false) G) : eqo3 K a.c_Prices (sp_Pricesx_eqx K a) (prD a p q r) (.tup xs) G Q :=
  ⟨rfl, _, rfl, ⟨trivial, T.nf_Prices_tuple⟩, p, q, r, _, rfl, h⟩
include T in
theorem eq_str {p q r : Int} {z : Str} {Q : K3} (h : Q (.bl false) G) : eqo3 K a.c_Prices (sp_Pricesx_eqx K a) (prD a p q r) (.str z) G Q :=
  ⟨rfl, _, rfl, ⟨trivial, T.nf_Prices_str⟩, p, q, r, _, rfl, h⟩
theorem dat_fst {p q r p' q' r' : Int} {Q : K3} (h : Q (.bl (decide (p = p' ∧ q = q' ∧ r = r'))) G) : dat3 id (fst3 p q r) (fst3 p' q' r') G Q := by
  refine ⟨.list [.int p, .int q, .int r], .list [.int p', .int q', .int r'], rfl, rfl, ⟨rfl, rfl⟩, ?_⟩
  have e : PyData.eqv (.list [.int p, .int q, .int r]) (.list [.int p', .int q', .int r']) = decide (p = p' ∧ q = q' ∧ r = r') := by
    simp [PyData.eqv, PyData.eqvAll, Bool.decide_and]
    rfl
  rw [e]
  exact h
include T in
theorem st_24 {x9 x10 x11 : Option D} (h : N.nx (S2 a b sc p1 q1 r1 p2 q2 r2 i m0 m1 m2 lk x9 x10 x11) G) : rd_law_24 K a W N (S2 a b sc p1 q1 r1 p2 q2 r2 i m0 m1 m2 lk x9 x10 x11) G := by
  unfold rd_law_24
  simp only [var3, con3, op3, un3, tst3, chain3, tru3, vno3, van3, vo3, not3, and3, or3, ite3, nil3, cons3, tup3, lst3, lsf3, nx3, seq3, brk3, cnt3, drop3, ret3, retn3, ifs3, set3, asg3, gn3, gnil3, gcons3, gtup3, for3, ilst3, itup3, irng1, irng2, call3, fld3, sfld3, meth3, make3, raise3, frz3, try3, wTry3, inSuite3, outOf3, xfld3, cb3, isx, bml3, isl, app3, gsub3, st3, dic3, prs3, dkeys, newl, finv, view3, lcg3, id, bag_c, bag_a, bag_r, bag_m, bag_n, bag_pa, bag_pr, bag_pm, bag_pn, bag_len, up_same, up_up, at3_0, at3_1, at3_2, toNat_2, Int.toNat_zero, Int.toNat_one, istru_bl, istru_int, istru_non, istru_tup, istru_lst, istru_kls, istru_str, add3_ii, add3_ss, add3_tt, sub3_ii, mul3_ii, fdv3_ii, mod3_ii, pow3_ii, neg3_i, eqn3_ii, eqn3_ss, eqn3_bb, eqn3_tup, eqn3_lst, eqn3_non, cmi3_ii, isn3_bb, isn3_nn, isn3_on, isn3_tn, isn3_in, isn3_sn, isn3_rn, isn3_ln, isn3_bn, ix3_lst, ix3_kls, ix3_tup, ix3_ri, ix3_rs, opt3_some, getf_obj, seqj_lst, seqj_kls, seqj_ref, tupj_tup, len3_lst, len3_kls, len3_tup, len3_str, len3_ref, int3_i, int3_b, abs3_i, str3_i, lisf3_lst, lisf3_kls, lisf3_tup, list3_lst, list3_kls, list3_tup, tuple3_lst, tuple3_kls, tuple3_tup, isi_2, typ_non, typ_bl, typ_int, typ_str, typ_tup, typ_lst, typ_kls, typ_obj, typok_ty, typok_ref, clsv_ty, clsv_ref, eqo3_obj, onlyb_bl, adl3_ll, all3_lst, List.set_cons_zero, List.set_cons_succ, List.getElem?_cons_zero, List.getElem?_cons_succ, List.map_cons, List.map_nil, List.length_cons, List.length_nil, if_true, if_false, reduceIte, reduceCtorEq, Option.map_some, Option.some.injEq, and_true, true_and, List.cons_append, List.nil_append, Nat.reduceAdd, Nat.reduceLeDiff, Nat.reduceEqDiff, exists_eq_left', exists_eq_left, exists_and_left, exists_eq_right, exists_and_right, exists_const, Bool.not_true, Bool.not_false, kt_NoneType_int, kt_NoneType_bool, kt_NoneType_str, kt_NoneType_tuple, kt_NoneType_list, kt_NoneType_dict, kt_bool_int, kt_bool_bool, kt_bool_str, kt_bool_tuple, kt_bool_list, kt_bool_dict, kt_int_int, kt_int_bool, kt_int_str, kt_int_tuple, kt_int_list, kt_int_dict, kt_str_int, kt_str_bool, kt_str_str, kt_str_tuple, kt_str_list, kt_str_dict, kt_tuple_int, kt_tuple_bool, kt_tuple_str, kt_tuple_tuple, kt_tuple_list, kt_tuple_dict, kt_list_int, kt_list_bool, kt_list_str, kt_list_tuple, kt_list_list, kt_list_dict, kt_dict_int, kt_dict_bool, kt_dict_str, kt_dict_tuple, kt_dict_list, kt_dict_dict]
  refine eq_ok T ?_
  simp only [var3, con3, op3, un3, tst3, chain3, tru3, vno3, van3, vo3, not3, and3, or3, ite3, nil3, cons3, tup3, lst3, lsf3, nx3, seq3, brk3, cnt3, drop3, ret3, retn3, ifs3, set3, asg3, gn3, gnil3, gcons3, gtup3, for3, ilst3, itup3, irng1, irng2, call3, fld3, sfld3, meth3, make3, raise3, frz3, try3, wTry3, inSuite3, outOf3, xfld3, cb3, isx, bml3, isl, app3, gsub3, st3, dic3, prs3, dkeys, newl, finv, view3, lcg3, id, bag_c, bag_a, bag_r, bag_m, bag_n, bag_pa, bag_pr, bag_pm, bag_pn, bag_len, up_same, up_up, at3_0, at3_1, at3_2, toNat_2, Int.toNat_zero, Int.toNat_one, istru_bl, istru_int, istru_non, istru_tup, istru_lst, istru_kls, istru_str, add3_ii, add3_ss, add3_tt, sub3_ii, mul3_ii, fdv3_ii, mod3_ii, pow3_ii, neg3_i, eqn3_ii, eqn3_ss, eqn3_bb, eqn3_tup, eqn3_lst, eqn3_non, cmi3_ii, isn3_bb, isn3_nn, isn3_on, isn3_tn, isn3_in, isn3_sn, isn3_rn, isn3_ln, isn3_bn, ix3_lst, ix3_kls, ix3_tup, ix3_ri, ix3_rs, opt3_some, getf_obj, seqj_lst, seqj_kls, seqj_ref, tupj_tup, len3_lst, len3_kls, len3_tup, len3_str, len3_ref, int3_i, int3_b, abs3_i, str3_i, lisf3_lst, lisf3_kls, lisf3_tup, list3_lst, list3_kls, list3_tup, tuple3_lst, tuple3_kls, tuple3_tup, isi_2, typ_non, typ_bl, typ_int, typ_str, typ_tup, typ_lst, typ_kls, typ_obj, typok_ty, typok_ref, clsv_ty, clsv_ref, eqo3_obj, onlyb_bl, adl3_ll, all3_lst, List.set_cons_zero, List.set_cons_succ, List.getElem?_cons_zero, List.getElem?_cons_succ, List.map_cons, List.map_nil, List.length_cons, List.length_nil, if_true, if_false, reduceIte, reduceCtorEq, Option.map_some, Option.some.injEq, and_true, true_and, List.cons_append, List.nil_append, Nat.reduceAdd, Nat.reduceLeDiff, Nat.reduceEqDiff, exists_eq_left', exists_eq_left, exists_and_left, exists_eq_right, exists_and_right, exists_const, Bool.not_true, Bool.not_false, kt_NoneType_int, kt_NoneType_bool, kt_NoneType_str, kt_NoneType_tuple, kt_NoneType_list, kt_NoneType_dict, kt_bool_int, kt_bool_bool, kt_bool_str, kt_bool_tuple, kt_bool_list, kt_bool_dict, kt_int_int, kt_int_bool, kt_int_str, kt_int_tuple, kt_int_list, kt_int_dict, kt_str_int, kt_str_bool, kt_str_str, kt_str_tuple, kt_str_list, kt_str_dict, kt_tuple_int, kt_tuple_bool, kt_tuple_str, kt_tuple_tuple, kt_tuple_list, kt_tuple_dict, kt_list_int, kt_list_bool, kt_list_str, kt_list_tuple, kt_list_list, kt_list_dict, kt_dict_int, kt_dict_bool, kt_dict_str, kt_dict_tuple, kt_dict_list, kt_dict_dict]
  refine eq_ok T ?_
  refine dat_fst ?_
  simp only [var3, con3, op3, un3, tst3, chain3, tru3, vno3, van3, vo3, not3, and3, or3, ite3, nil3, cons3, tup3, lst3, lsf3, nx3, seq3, brk3, cnt3, drop3, ret3, retn3, ifs3, set3, asg3, gn3, gnil3, gcons3, gtup3, for3, ilst3, itup3, irng1, irng2, call3, fld3, sfld3, meth3, make3, raise3, frz3, try3, wTry3, inSuite3, outOf3, xfld3, cb3, isx, bml3, isl, app3, gsub3, st3, dic3, prs3, dkeys, newl, finv, view3, lcg3, id, bag_c, bag_a, bag_r, bag_m, bag_n, bag_pa, bag_pr, bag_pm, bag_pn, bag_len, up_same, up_up, at3_0, at3_1, at3_2, toNat_2, Int.toNat_zero, Int.toNat_one, istru_bl, istru_int, istru_non, istru_tup, istru_lst, istru_kls, istru_str, add3_ii, add3_ss, add3_tt, sub3_ii, mul3_ii, fdv3_ii, mod3_ii, pow3_ii, neg3_i, eqn3_ii, eqn3_ss, eqn3_bb, eqn3_tup, eqn3_lst, eqn3_non, cmi3_ii, isn3_bb, isn3_nn, isn3_on, isn3_tn, isn3_in, isn3_sn, isn3_rn, isn3_ln, isn3_bn, ix3_lst, ix3_kls, ix3_tup, ix3_ri, ix3_rs, opt3_some, getf_obj, seqj_lst, seqj_kls, seqj_ref, tupj_tup, len3_lst, len3_kls, len3_tup, len3_str, len3_ref, int3_i, int3_b, abs3_i, str3_i, lisf3_lst, lisf3_kls, lisf3_tup, list3_lst, list3_kls, list3_tup, tuple3_lst, tuple3_kls, tuple3_tup, isi_2, typ_non, typ_bl, typ_int, typ_str, typ_tup, typ_lst, typ_kls, typ_obj, typok_ty, typok_ref, clsv_ty, clsv_ref, eqo3_obj, onlyb_bl, adl3_ll, all3_lst, List.set_cons_zero, List.set_cons_succ, List.getElem?_cons_zero, List.getElem?_cons_succ, List.map_cons, List.map_nil, List.length_cons, List.length_nil, if_true, if_false, reduceIte, reduceCtorEq, Option.map_some, Option.some.injEq, and_true, true_and, List.cons_append, List.nil_append, Nat.reduceAdd, Nat.reduceLeDiff, Nat.reduceEqDiff, exists_eq_left', exists_eq_left, exists_and_left, exists_eq_right, exists_and_right, exists_const, Bool.not_true, Bool.not_false, kt_NoneType_int, kt_NoneType_bool, kt_NoneType_str, kt_NoneType_tuple, kt_NoneType_list, kt_NoneType_dict, kt_bool_int, kt_bool_bool, kt_bool_str, kt_bool_tuple, kt_bool_list, kt_bool_dict, kt_int_int, kt_int_bool, kt_int_str, kt_int_tuple, kt_int_list, kt_int_dict, kt_str_int, kt_str_bool, kt_str_str, kt_str_tuple, kt_str_list, kt_str_dict, kt_tuple_int, kt_tuple_bool, kt_tuple_str, kt_tuple_tuple, kt_tuple_list, kt_tuple_dict, kt_list_int, kt_list_bool, kt_list_str, kt_list_tuple, kt_list_list, kt_list_dict, kt_dict_int, kt_dict_bool, kt_dict_str, kt_dict_tuple, kt_dict_list, kt_dict_dict, eq_self, decide_true]
  exact h
include T in
theorem st_25 (hp1 : Pr p1) (hq1 : Pr q1) (hr1 : Pr r1) {x9 x10 x11 : Option D} (h : N.nx (S2 a b sc p1 q1 r1 p2 q2 r2 i m0 m1 m2 lk x9 x10 x11) G) : rd_law_25 K a W N (S2 a b sc p1 q1 r1 p2 q2 r2 i m0 m1 m2 lk x9 x10 x11) G := by
  unfold rd_law_25
  simp only [var3, con3, op3, un3, tst3, chain3, tru3, vno3, van3, vo3, not3, and3, or3, ite3, nil3, cons3, tup3, lst3, lsf3, nx3, seq3, brk3, cnt3, drop3, ret3, retn3, ifs3, set3, asg3, gn3, gnil3, gcons3, gtup3, for3, ilst3, itup3, irng1, irng2, call3, fld3, sfld3, meth3, make3, raise3, frz3, try3, wTry3, inSuite3, outOf3, xfld3, cb3, isx, bml3, isl, app3, gsub3, st3, dic3, prs3, dkeys, newl, finv, view3, lcg3, id, bag_c, bag_a, bag_r, bag_m, bag_n, bag_pa, bag_pr, bag_pm, bag_pn, bag_len, up_same, up_up, at3_0, at3_1, at3_2, toNat_2, Int.toNat_zero, Int.toNat_one, istru_bl, istru_int, istru_non, istru_tup, istru_lst, istru_kls, istru_str, add3_ii, add3_ss, add3_tt, sub3_ii, mul3_ii, fdv3_ii, mod3_ii, pow3_ii, neg3_i, eqn3_ii, eqn3_ss, eqn3_bb, eqn3_tup, eqn3_lst, eqn3_non, cmi3_ii, isn3_bb, isn3_nn, isn3_on, isn3_tn, isn3_in, isn3_sn, isn3_rn, isn3_ln, isn3_bn, ix3_lst, ix3_kls, ix3_tup, ix3_ri, ix3_rs, opt3_some, getf_obj, seqj_lst, seqj_kls, seqj_ref, tupj_tup, len3_lst, len3_kls, len3_tup, len3_str, len3_ref, int3_i, int3_b, abs3_i, str3_i, lisf3_lst, lisf3_kls, lisf3_tup, list3_lst, list3_kls, list3_tup, tuple3_lst, tuple3_kls, tuple3_tup, isi_2, typ_non, typ_bl, typ_int, typ_str, typ_tup, typ_lst, typ_kls, typ_obj, typok_ty, typok_ref, clsv_ty, clsv_ref, eqo3_obj, onlyb_bl, adl3_ll, all3_lst, List.set_cons_zero, List.set_cons_succ, List.getElem?_cons_zero, List.getElem?_cons_succ, List.map_cons, List.map_nil, List.length_cons, List.length_nil, if_true, if_false, reduceIte, reduceCtorEq, Option.map_some, Option.some.injEq, and_true, true_and, List.cons_append, List.nil_append, Nat.reduceAdd, Nat.reduceLeDiff, Nat.reduceEqDiff, exists_eq_left', exists_eq_left, exists_and_left, exists_eq_right, exists_and_right, exists_const, Bool.not_true, Bool.not_false, kt_NoneType_int, kt_NoneType_bool, kt_NoneType_str, kt_NoneType_tuple, kt_NoneType_list, kt_NoneType_dict, kt_bool_int, kt_bool_bool, kt_bool_str, kt_bool_tuple, kt_bool_list, kt_bool_dict, kt_int_int, kt_int_bool, kt_int_str, kt_int_tuple, kt_int_list, kt_int_dict, kt_str_int, kt_str_bool, kt_str_str, kt_str_tuple, kt_str_list, kt_str_dict, kt_tuple_int, kt_tuple_bool, kt_tuple_str, kt_tuple_tuple, kt_tuple_list, kt_tuple_dict, kt_list_int, kt_list_bool, kt_list_str, kt_list_tuple, kt_list_list, kt_list_dict, kt_dict_int, kt_dict_bool, kt_dict_str, kt_dict_tuple, kt_dict_list, kt_dict_dict]
  refine fun x hx => mk_ok hx hp1 hq1 hr1 ?_
  refine eq_ok T ?_
  simp only [var3, con3, op3, un3, tst3, chain3, tru3, vno3, van3, vo3, not3, and3, or3, ite3, nil3, cons3, tup3, lst3, lsf3, nx3, seq3, brk3, cnt3, drop3, ret3, retn3, ifs3, set3, asg3, gn3, gnil3, gcons3, gtup3, for3, ilst3, itup3, irng1, irng2, call3, fld3, sfld3, meth3, make3, raise3, frz3, try3, wTry3, inSuite3, outOf3, xfld3, cb3, isx, bml3, isl, app3, gsub3, st3, dic3, prs3, dkeys, newl, finv, view3, lcg3, id, bag_c, bag_a, bag_r, bag_m, bag_n, bag_pa, bag_pr, bag_pm, bag_pn, bag_len, up_same, up_up, at3_0, at3_1, at3_2, toNat_2, Int.toNat_zero, Int.toNat_one, istru_bl, istru_int, istru_non, istru_tup, istru_lst, istru_kls, istru_str, add3_ii, add3_ss, add3_tt, sub3_ii, mul3_ii, fdv3_ii, mod3_ii, pow3_ii, neg3_i, eqn3_ii, eqn3_ss, eqn3_bb, eqn3_tup, eqn3_lst, eqn3_non, cmi3_ii, isn3_bb, isn3_nn, isn3_on, isn3_tn, isn3_in, isn3_sn, isn3_rn, isn3_ln, isn3_bn, ix3_lst, ix3_kls, ix3_tup, ix3_ri, ix3_rs, opt3_some, getf_obj, seqj_lst, seqj_kls, seqj_ref, tupj_tup, len3_lst, len3_kls, len3_tup, len3_str, len3_ref, int3_i, int3_b, abs3_i, str3_i, lisf3_lst, lisf3_kls, lisf3_tup, list3_lst, list3_kls, list3_tup, tuple3_lst, tuple3_kls, tuple3_tup, isi_2, typ_non, typ_bl, typ_int, typ_str, typ_tup, typ_lst, typ_kls, typ_obj, typok_ty, typok_ref, clsv_ty, clsv_ref, eqo3_obj, onlyb_bl, adl3_ll, all3_lst, List.set_cons_zero, List.set_cons_succ, List.getElem?_cons_zero, List.getElem?_cons_succ, List.map_cons, List.map_nil, List.length_cons, List.length_nil, if_true, if_false, reduceIte, reduceCtorEq, Option.map_some, Option.some.injEq, and_true, true_and, List.cons_append, List.nil_append, Nat.reduceAdd, Nat.reduceLeDiff, Nat.reduceEqDiff, exists_eq_left', exists_eq_left, exists_and_left, exists_eq_right, exists_and_right, exists_const, Bool.not_true, Bool.not_false, kt_NoneType_int, kt_NoneType_bool, kt_NoneType_str, kt_NoneType_tuple, kt_NoneType_list, kt_NoneType_dict, kt_bool_int, kt_bool_bool, kt_bool_str, kt_bool_tuple, kt_bool_list, kt_bool_dict, kt_int_int, kt_int_bool, kt_int_str, kt_int_tuple, kt_int_list, kt_int_dict, kt_str_int, kt_str_bool, kt_str_str, kt_str_tuple, kt_str_list, kt_str_dict, kt_tuple_int, kt_tuple_bool, kt_tuple_str, kt_tuple_tuple, kt_tuple_list, kt_tuple_dict, kt_list_int, kt_list_bool, kt_list_str, kt_list_tuple, kt_list_list, kt_list_dict, kt_dict_int, kt_dict_bool, kt_dict_str, kt_dict_tuple, kt_dict_list, kt_dict_dict, eq_self, and_self, decide_true]
  exact h
include T in
theorem st_26 {x9 x10 x11 : Option D} (h : N.nx (S2 a b sc p1 q1 r1 p2 q2 r2 i m0 m1 m2 lk x9 x10 x11) G) : rd_law_26 K a W N (S2 a b sc p1 q1 r1 p2 q2 r2 i m0 m1 m2 lk x9 x10 x11) G := by
  unfold rd_law_26
  simp only [var3, con3, op3, un3, tst3, chain3, tru3, vno3, van3, vo3, not3, and3, or3, ite3, nil3, cons3, tup3, lst3, lsf3, nx3, seq3, brk3, cnt3, drop3, ret3, retn3, ifs3, set3, asg3, gn3, gnil3, gcons3, gtup3, for3, ilst3, itup3, irng1, irng2, call3, fld3, sfld3, meth3, make3, raise3, frz3, try3, wTry3, inSuite3, outOf3, xfld3, cb3, isx, bml3, isl, app3, gsub3, st3, dic3, prs3, dkeys, newl, finv, view3, lcg3, id, bag_c, bag_a, bag_r, bag_m, bag_n, bag_pa, bag_pr, bag_pm, bag_pn, bag_len, up_same, up_up, at3_0, at3_1, at3_2, toNat_2, Int.toNat_zero, Int.toNat_one, istru_bl, istru_int, istru_non, istru_tup, istru_lst, istru_kls, istru_str, add3_ii, add3_ss, add3_tt, sub3_ii, mul3_ii, fdv3_ii, mod3_ii, pow3_ii, neg3_i, eqn3_ii, eqn3_ss, eqn3_bb, eqn3_tup, eqn3_lst, eqn3_non, cmi3_ii, isn3_bb, isn3_nn, isn3_on, isn3_tn, isn3_in, isn3_sn, isn3_rn, isn3_ln, isn3_bn, ix3_lst, ix3_kls, ix3_tup, ix3_ri, ix3_rs, opt3_some, getf_obj, seqj_lst, seqj_kls, seqj_ref, tupj_tup, len3_lst, len3_kls, len3_tup, len3_str, len3_ref, int3_i, int3_b, abs3_i, str3_i, lisf3_lst, lisf3_kls, lisf3_tup, list3_lst, list3_kls, list3_tup, tuple3_lst, tuple3_kls, tuple3_tup, isi_2, typ_non, typ_bl, typ_int, typ_str, typ_tup, typ_lst, typ_kls, typ_obj, typok_ty, typok_ref, clsv_ty, clsv_ref, eqo3_obj, onlyb_bl, adl3_ll, all3_lst, List.set_cons_zero, List.set_cons_succ, List.getElem?_cons_zero, List.getElem?_cons_succ, List.map_cons, List.map_nil, List.length_cons, List.length_nil, if_true, if_false, reduceIte, reduceCtorEq, Option.map_some, Option.some.injEq, and_true, true_and, List.cons_append, List.nil_append, Nat.reduceAdd, Nat.reduceLeDiff, Nat.reduceEqDiff, exists_eq_left', exists_eq_left, exists_and_left, exists_eq_right, exists_and_right, exists_const, Bool.not_true, Bool.not_false, kt_NoneType_int, kt_NoneType_bool, kt_NoneType_str, kt_NoneType_tuple, kt_NoneType_list, kt_NoneType_dict, kt_bool_int, kt_bool_bool, kt_bool_str, kt_bool_tuple, kt_bool_list, kt_bool_dict, kt_int_int, kt_int_bool, kt_int_str, kt_int_tuple, kt_int_list, kt_int_dict, kt_str_int, kt_str_bool, kt_str_str, kt_str_tuple, kt_str_list, kt_str_dict, kt_tuple_int, kt_tuple_bool, kt_tuple_str, kt_tuple_tuple, kt_tuple_list, kt_tuple_dict, kt_list_int, kt_list_bool, kt_list_str, kt_list_tuple, kt_list_list, kt_list_dict, kt_dict_int, kt_dict_bool, kt_dict_str, kt_dict_tuple, kt_dict_list, kt_dict_dict]
  refine eq_int T ?_
  simp only [var3, con3, op3, un3, tst3, chain3, tru3, vno3, van3, vo3, not3, and3, or3, ite3, nil3, cons3, tup3, lst3, lsf3, nx3, seq3, brk3, cnt3, drop3, ret3, retn3, ifs3, set3, asg3, gn3, gnil3, gcons3, gtup3, for3, ilst3, itup3, irng1, irng2, call3, fld3, sfld3, meth3, make3, raise3, frz3, try3, wTry3, inSuite3, outOf3, xfld3, cb3, isx, bml3, isl, app3, gsub3, st3, dic3, prs3, dkeys, newl, finv, view3, lcg3, id, bag_c, bag_a, bag_r, bag_m, bag_n, bag_pa, bag_pr, bag_pm, bag_pn, bag_len, up_same, up_up, at3_0, at3_1, at3_2, toNat_2, Int.toNat_zero, Int.toNat_one, istru_bl, istru_int, istru_non, istru_tup, istru_lst, istru_kls, istru_str, add3_ii, add3_ss, add3_tt, sub3_ii, mul3_ii, fdv3_ii, mod3_ii, pow3_ii, neg3_i, eqn3_ii, eqn3_ss, eqn3_bb, eqn3_tup, eqn3_lst, eqn3_non, cmi3_ii, isn3_bb, isn3_nn, isn3_on, isn3_tn, isn3_in, isn3_sn, isn3_rn, isn3_ln, isn3_bn, ix3_lst, ix3_kls, ix3_tup, ix3_ri, ix3_rs, opt3_some, getf_obj, seqj_lst, seqj_kls, seqj_ref, tupj_tup, len3_lst, len3_kls, len3_tup, len3_str, len3_ref, int3_i, int3_b, abs3_i, str3_i, lisf3_lst, lisf3_kls, lisf3_tup, list3_lst, list3_kls, list3_tup, tuple3_lst, tuple3_kls, tuple3_tup, isi_2, typ_non, typ_bl, typ_int, typ_str, typ_tup, typ_lst, typ_kls, typ_obj, typok_ty, typok_ref, clsv_ty, clsv_ref, eqo3_obj, onlyb_bl, adl3_ll, all3_lst, List.set_cons_zero, List.set_cons_succ, List.getElem?_cons_zero, List.getElem?_cons_succ, List.map_cons, List.map_nil, List.length_cons, List.length_nil, if_true, if_false, reduceIte, reduceCtorEq, Option.map_some, Option.some.injEq, and_true, true_and, List.cons_append, List.nil_append, Nat.reduceAdd, Nat.reduceLeDiff, Nat.reduceEqDiff, exists_eq_left', exists_eq_left, exists_and_left, exists_eq_right, exists_and_right, exists_const, Bool.not_true, Bool.not_false, kt_NoneType_int, kt_NoneType_bool, kt_NoneType_str, kt_NoneType_tuple, kt_NoneType_list, kt_NoneType_dict, kt_bool_int, kt_bool_bool, kt_bool_str, kt_bool_tuple, kt_bool_list, kt_bool_dict, kt_int_int, kt_int_bool, kt_int_str, kt_int_tuple, kt_int_list, kt_int_dict, kt_str_int, kt_str_bool, kt_str_str, kt_str_tuple, kt_str_list, kt_str_dict, kt_tuple_int, kt_tuple_bool, kt_tuple_str, kt_tuple_tuple, kt_tuple_list, kt_tuple_dict, kt_list_int, kt_list_bool, kt_list_str, kt_list_tuple, kt_list_list, kt_list_dict, kt_dict_int, kt_dict_bool, kt_dict_str, kt_dict_tuple, kt_dict_list, kt_dict_dict, eq_self, decide_true, Bool.false_eq_true]
  refine eq_tup T ?_
  simp only [var3, con3, op3, un3, tst3, chain3, tru3, vno3, van3, vo3, not3, and3, or3, ite3, nil3, cons3, tup3, lst3, lsf3, nx3, seq3, brk3, cnt3, drop3, ret3, retn3, ifs3, set3, asg3, gn3, gnil3, gcons3, gtup3, for3, ilst3, itup3, irng1, irng2, call3, fld3, sfld3, meth3, make3, raise3, frz3, try3, wTry3, inSuite3, outOf3, xfld3, cb3, isx, bml3, isl, app3, gsub3, st3, dic3, prs3, dkeys, newl, finv, view3, lcg3, id, bag_c, bag_a, bag_r, bag_m, bag_n, bag_pa, bag_pr, bag_pm, bag_pn, bag_len, up_same, up_up, at3_0, at3_1, at3_2, toNat_2, Int.toNat_zero, Int.toNat_one, istru_bl, istru_int, istru_non, istru_tup, istru_lst, istru_kls, istru_str, add3_ii, add3_ss, add3_tt, sub3_ii, mul3_ii, fdv3_ii, mod3_ii, pow3_ii, neg3_i, eqn3_ii, eqn3_ss, eqn3_bb, eqn3_tup, eqn3_lst, eqn3_non, cmi3_ii, isn3_bb, isn3_nn, isn3_on, isn3_tn, isn3_in, isn3_sn, isn3_rn, isn3_ln, isn3_bn, ix3_lst, ix3_kls, ix3_tup, ix3_ri, ix3_rs, opt3_some, getf_obj, seqj_lst, seqj_kls, seqj_ref, tupj_tup, len3_lst, len3_kls, len3_tup, len3_str, len3_ref, int3_i, int3_b, abs3_i, str3_i, lisf3_lst, lisf3_kls, lisf3_tup, list3_lst, list3_kls, list3_tup, tuple3_lst, tuple3_kls, tuple3_tup, isi_2, typ_non, typ_bl, typ_int, typ_str, typ_tup, typ_lst, typ_kls, typ_obj, typok_ty, typok_ref, clsv_ty, clsv_ref, eqo3_obj, onlyb_bl, adl3_ll, all3_lst, List.set_cons_zero, List.set_cons_succ, List.getElem?_cons_zero, List.getElem?_cons_succ, List.map_cons, List.map_nil, List.length_cons, List.length_nil, if_true, if_false, reduceIte, reduceCtorEq, Option.map_some, Option.some.injEq, and_true, true_and, List.cons_append, List.nil_append, Nat.reduceAdd, Nat.reduceLeDiff, Nat.reduceEqDiff, exists_eq_left', exists_eq_left, exists_and_left, exists_eq_right, exists_and_right, exists_const, Bool.not_true, Bool.not_false, kt_NoneType_int, kt_NoneType_bool, kt_NoneType_str, kt_NoneType_tuple, kt_NoneType_list, kt_NoneType_dict, kt_bool_int, kt_bool_bool, kt_bool_str, kt_bool_tuple, kt_bool_list, kt_bool_dict, kt_int_int, kt_int_bool, kt_int_str, kt_int_tuple, kt_int_list, kt_int_dict, kt_str_int, kt_str_bool, kt_str_str, kt_str_tuple, kt_str_list, kt_str_dict, kt_tuple_int, kt_tuple_bool, kt_tuple_str, kt_tuple_tuple, kt_tuple_list, kt_tuple_dict, kt_list_int, kt_list_bool, kt_list_str, kt_list_tuple, kt_list_list, kt_list_dict, kt_dict_int, kt_dict_bool, kt_dict_str, kt_dict_tuple, kt_dict_list, kt_dict_dict, eq_self, decide_true, Bool.false_eq_true]
  refine eq_str T ?_
  simp only [var3, con3, op3, un3, tst3, chain3, tru3, vno3, van3, vo3, not3, and3, or3, ite3, nil3, cons3, tup3, lst3, lsf3, nx3, seq3, brk3, cnt3, drop3, ret3, retn3, ifs3, set3, asg3, gn3, gnil3, gcons3, gtup3, for3, ilst3, itup3, irng1, irng2, call3, fld3, sfld3, meth3, make3, raise3, frz3, try3, wTry3, inSuite3, outOf3, xfld3, cb3, isx, bml3, isl, app3, gsub3, st3, dic3, prs3, dkeys, newl, finv, view3, lcg3, id, bag_c, bag_a, bag_r, bag_m, bag_n, bag_pa, bag_pr, bag_pm, bag_pn, bag_len, up_same, up_up, at3_0, at3_1, at3_2, toNat_2, Int.toNat_zero, Int.toNat_one, istru_bl, istru_int, istru_non, istru_tup, istru_lst, istru_kls, istru_str, add3_ii, add3_ss, add3_tt, sub3_ii, mul3_ii, fdv3_ii, mod3_ii, pow3_ii, neg3_i, eqn3_ii, eqn3_ss, eqn3_bb, eqn3_tup, eqn3_lst, eqn3_non, cmi3_ii, isn3_bb, isn3_nn, isn3_on, isn3_tn, isn3_in, isn3_sn, isn3_rn, isn3_ln, isn3_bn, ix3_lst, ix3_kls, ix3_tup, ix3_ri, ix3_rs, opt3_some, getf_obj, seqj_lst, seqj_kls, seqj_ref, tupj_tup, len3_lst, len3_kls, len3_tup, len3_str, len3_ref, int3_i, int3_b, abs3_i, str3_i, lisf3_lst, lisf3_kls, lisf3_tup, list3_lst, list3_kls, list3_tup, tuple3_lst, tuple3_kls, tuple3_tup, isi_2, typ_non, typ_bl, typ_int, typ_str, typ_tup, typ_lst, typ_kls, typ_obj, typok_ty, typok_ref, clsv_ty, clsv_ref, eqo3_obj, onlyb_bl, adl3_ll, all3_lst, List.set_cons_zero, List.set_cons_succ, List.getElem?_cons_zero, List.getElem?_cons_succ, List.map_cons, List.map_nil, List.length_cons, List.length_nil, if_true, if_false, reduceIte, reduceCtorEq, Option.map_some, Option.some.injEq, and_true, true_and, List.cons_append, List.nil_append, Nat.reduceAdd, Nat.reduceLeDiff, Nat.reduceEqDiff, exists_eq_left', exists_eq_left, exists_and_left, exists_eq_right, exists_and_right, exists_const, Bool.not_true, Bool.not_false, kt_NoneType_int, kt_NoneType_bool, kt_NoneType_str, kt_NoneType_tuple, kt_NoneType_list, kt_NoneType_dict, kt_bool_int, kt_bool_bool, kt_bool_str, kt_bool_tuple, kt_bool_list, kt_bool_dict, kt_int_int, kt_int_bool, kt_int_str, kt_int_tuple, kt_int_list, kt_int_dict, kt_str_int, kt_str_bool, kt_str_str, kt_str_tuple, kt_str_list, kt_str_dict, kt_tuple_int, kt_tuple_bool, kt_tuple_str, kt_tuple_tuple, kt_tuple_list, kt_tuple_dict, kt_list_int, kt_list_bool, kt_list_str, kt_list_tuple, kt_list_list, kt_list_dict, kt_dict_int, kt_dict_bool, kt_dict_str, kt_dict_tuple, kt_dict_list, kt_dict_dict, eq_self, decide_true, Bool.false_eq_true]
  exact h
theorem pr1 : Pr 1 := ⟨by decide, by decide⟩
theorem pr2 : Pr 2 := ⟨by decide, by decide⟩
theorem st_27 (hp1 : Pr p1) {x9 x10 x11 : Option D} (h : N.nx (S2 a b sc p1 q1 r1 p2 q2 r2 i m0 m1 m2 lk x9 x10 x11) G) : rd_law_27 K a W N (S2 a b sc p1 q1 r1 p2 q2 r2 i m0 m1 m2 lk x9 x10 x11) G := by
  unfold rd_law_27
  simp only [var3, con3, op3, un3, tst3, chain3, tru3, vno3, van3, vo3, not3, and3, or3, ite3, nil3, cons3, tup3, lst3, lsf3, nx3, seq3, brk3, cnt3, drop3, ret3, retn3, ifs3, set3, asg3, gn3, gnil3, gcons3, gtup3, for3, ilst3, itup3, irng1, irng2, call3, fld3, sfld3, meth3, make3, raise3, frz3, try3, wTry3, inSuite3, outOf3, xfld3, cb3, isx, bml3, isl, app3, gsub3, st3, dic3, prs3, dkeys, newl, finv, view3, lcg3, id, bag_c, bag_a, bag_r, bag_m, bag_n, bag_pa, bag_pr, bag_pm, bag_pn, bag_len, up_same, up_up, at3_0, at3_1, at3_2, toNat_2, Int.toNat_zero, Int.toNat_one, istru_bl, istru_int, istru_non, istru_tup, istru_lst, istru_kls, istru_str, add3_ii, add3_ss, add3_tt, sub3_ii, mul3_ii, fdv3_ii, mod3_ii, pow3_ii, neg3_i, eqn3_ii, eqn3_ss, eqn3_bb, eqn3_tup, eqn3_lst, eqn3_non, cmi3_ii, isn3_bb, isn3_nn, isn3_on, isn3_tn, isn3_in, isn3_sn, isn3_rn, isn3_ln, isn3_bn, ix3_lst, ix3_kls, ix3_tup, ix3_ri, ix3_rs, opt3_some, getf_obj, seqj_lst, seqj_kls, seqj_ref, tupj_tup, len3_lst, len3_kls, len3_tup, len3_str, len3_ref, int3_i, int3_b, abs3_i, str3_i, lisf3_lst, lisf3_kls, lisf3_tup, list3_lst, list3_kls, list3_tup, tuple3_lst, tuple3_kls, tuple3_tup, isi_2, typ_non, typ_bl, typ_int, typ_str, typ_tup, typ_lst, typ_kls, typ_obj, typok_ty, typok_ref, clsv_ty, clsv_ref, eqo3_obj, onlyb_bl, adl3_ll, all3_lst, List.set_cons_zero, List.set_cons_succ, List.getElem?_cons_zero, List.getElem?_cons_succ, List.map_cons, List.map_nil, List.length_cons, List.length_nil, if_true, if_false, reduceIte, reduceCtorEq, Option.map_some, Option.some.injEq, and_true, true_and, List.cons_append, List.nil_append, Nat.reduceAdd, Nat.reduceLeDiff, Nat.reduceEqDiff, exists_eq_left', exists_eq_left, exists_and_left, exists_eq_right, exists_and_right, exists_const, Bool.not_true, Bool.not_false, kt_NoneType_int, kt_NoneType_bool, kt_NoneType_str, kt_NoneType_tuple, kt_NoneType_list, kt_NoneType_dict, kt_bool_int, kt_bool_bool, kt_bool_str, kt_bool_tuple, kt_bool_list, kt_bool_dict, kt_int_int, kt_int_bool, kt_int_str, kt_int_tuple, kt_int_list, kt_int_dict, kt_str_int, kt_str_bool, kt_str_str, kt_str_tuple, kt_str_list, kt_str_dict, kt_tuple_int, kt_tuple_bool, kt_tuple_str, kt_tuple_tuple, kt_tuple_list, kt_tuple_dict, kt_list_int, kt_list_bool, kt_list_str, kt_list_tuple, kt_list_list, kt_list_dict, kt_dict_int, kt_dict_bool, kt_dict_str, kt_dict_tuple, kt_dict_list, kt_dict_dict]
  refine fun x hx => mk_ok hx pr1 pr1 pr2 ?_
  refine ⟨1, 1, 2, _, rfl, rfl, ?_⟩
  simp only [var3, con3, op3, un3, tst3, chain3, tru3, vno3, van3, vo3, not3, and3, or3, ite3, nil3, cons3, tup3, lst3, lsf3, nx3, seq3, brk3, cnt3, drop3, ret3, retn3, ifs3, set3, asg3, gn3, gnil3, gcons3, gtup3, for3, ilst3, itup3, irng1, irng2, call3, fld3, sfld3, meth3, make3, raise3, frz3, try3, wTry3, inSuite3, outOf3, xfld3, cb3, isx, bml3, isl, app3, gsub3, st3, dic3, prs3, dkeys, newl, finv, view3, lcg3, id, bag_c, bag_a, bag_r, bag_m, bag_n, bag_pa, bag_pr, bag_pm, bag_pn, bag_len, up_same, up_up, at3_0, at3_1, at3_2, toNat_2, Int.toNat_zero, Int.toNat_one, istru_bl, istru_int, istru_non, istru_tup, istru_lst, istru_kls, istru_str, add3_ii, add3_ss, add3_tt, sub3_ii, mul3_ii, fdv3_ii, mod3_ii, pow3_ii, neg3_i, eqn3_ii, eqn3_ss, eqn3_bb, eqn3_tup, eqn3_lst, eqn3_non, cmi3_ii, isn3_bb, isn3_nn, isn3_on, isn3_tn, isn3_in, isn3_sn, isn3_rn, isn3_ln, isn3_bn, ix3_lst, ix3_kls, ix3_tup, ix3_ri, ix3_rs, opt3_some, getf_obj, seqj_lst, seqj_kls, seqj_ref, tupj_tup, len3_lst, len3_kls, len3_tup, len3_str, len3_ref, int3_i, int3_b, abs3_i, str3_i, lisf3_lst, lisf3_kls, lisf3_tup, list3_lst, list3_kls, list3_tup, tuple3_lst, tuple3_kls, tuple3_tup, isi_2, typ_non, typ_bl, typ_int, typ_str, typ_tup, typ_lst, typ_kls, typ_obj, typok_ty, typok_ref, clsv_ty, clsv_ref, eqo3_obj, onlyb_bl, adl3_ll, all3_lst, List.set_cons_zero, List.set_cons_succ, List.getElem?_cons_zero, List.getElem?_cons_succ, List.map_cons, List.map_nil, List.length_cons, List.length_nil, if_true, if_false, reduceIte, reduceCtorEq, Option.map_some, Option.some.injEq, and_true, true_and, List.cons_append, List.nil_append, Nat.reduceAdd, Nat.reduceLeDiff, Nat.reduceEqDiff, exists_eq_left', exists_eq_left, exists_and_left, exists_eq_right, exists_and_right, exists_const, Bool.not_true, Bool.not_false, kt_NoneType_int, kt_NoneType_bool, kt_NoneType_str, kt_NoneType_tuple, kt_NoneType_list, kt_NoneType_dict, kt_bool_int, kt_bool_bool, kt_bool_str, kt_bool_tuple, kt_bool_list, kt_bool_dict, kt_int_int, kt_int_bool, kt_int_str, kt_int_tuple, kt_int_list, kt_int_dict, kt_str_int, kt_str_bool, kt_str_str, kt_str_tuple, kt_str_list, kt_str_dict, kt_tuple_int, kt_tuple_bool, kt_tuple_str, kt_tuple_tuple, kt_tuple_list, kt_tuple_dict, kt_list_int, kt_list_bool, kt_list_str, kt_list_tuple, kt_list_list, kt_list_dict, kt_dict_int, kt_dict_bool, kt_dict_str, kt_dict_tuple, kt_dict_list, kt_dict_dict]
  refine fun x hx => mk_ok hx hp1 pr1 pr2 ?_
  refine ⟨p1, 1, 2, _, rfl, rfl, ?_⟩
  simp only [var3, con3, op3, un3, tst3, chain3, tru3, vno3, van3, vo3, not3, and3, or3, ite3, nil3, cons3, tup3, lst3, lsf3, nx3, seq3, brk3, cnt3, drop3, ret3, retn3, ifs3, set3, asg3, gn3, gnil3, gcons3, gtup3, for3, ilst3, itup3, irng1, irng2, call3, fld3, sfld3, meth3, make3, raise3, frz3, try3, wTry3, inSuite3, outOf3, xfld3, cb3, isx, bml3, isl, app3, gsub3, st3, dic3, prs3, dkeys, newl, finv, view3, lcg3, id, bag_c, bag_a, bag_r, bag_m, bag_n, bag_pa, bag_pr, bag_pm, bag_pn, bag_len, up_same, up_up, at3_0, at3_1, at3_2, toNat_2, Int.toNat_zero, Int.toNat_one, istru_bl, istru_int, istru_non, istru_tup, istru_lst, istru_kls, istru_str, add3_ii, add3_ss, add3_tt, sub3_ii, mul3_ii, fdv3_ii, mod3_ii, pow3_ii, neg3_i, eqn3_ii, eqn3_ss, eqn3_bb, eqn3_tup, eqn3_lst, eqn3_non, cmi3_ii, isn3_bb, isn3_nn, isn3_on, isn3_tn, isn3_in, isn3_sn, isn3_rn, isn3_ln, isn3_bn, ix3_lst, ix3_kls, ix3_tup, ix3_ri, ix3_rs, opt3_some, getf_obj, seqj_lst, seqj_kls, seqj_ref, tupj_tup, len3_lst, len3_kls, len3_tup, len3_str, len3_ref, int3_i, int3_b, abs3_i, str3_i, lisf3_lst, lisf3_kls, lisf3_tup, list3_lst, list3_kls, list3_tup, tuple3_lst, tuple3_kls, tuple3_tup, isi_2, typ_non, typ_bl, typ_int, typ_str, typ_tup, typ_lst, typ_kls, typ_obj, typok_ty, typok_ref, clsv_ty, clsv_ref, eqo3_obj, onlyb_bl, adl3_ll, all3_lst, List.set_cons_zero, List.set_cons_succ, List.getElem?_cons_zero, List.getElem?_cons_succ, List.map_cons, List.map_nil, List.length_cons, List.length_nil, if_true, if_false, reduceIte, reduceCtorEq, Option.map_some, Option.some.injEq, and_true, true_and, List.cons_append, List.nil_append, Nat.reduceAdd, Nat.reduceLeDiff, Nat.reduceEqDiff, exists_eq_left', exists_eq_left, exists_and_left, exists_eq_right, exists_and_right, exists_const, Bool.not_true, Bool.not_false, kt_NoneType_int, kt_NoneType_bool, kt_NoneType_str, kt_NoneType_tuple, kt_NoneType_list, kt_NoneType_dict, kt_bool_int, kt_bool_bool, kt_bool_str, kt_bool_tuple, kt_bool_list, kt_bool_dict, kt_int_int, kt_int_bool, kt_int_str, kt_int_tuple, kt_int_list, kt_int_dict, kt_str_int, kt_str_bool, kt_str_str, kt_str_tuple, kt_str_list, kt_str_dict, kt_tuple_int, kt_tuple_bool, kt_tuple_str, kt_tuple_tuple, kt_tuple_list, kt_tuple_dict, kt_list_int, kt_list_bool, kt_list_str, kt_list_tuple, kt_list_list, kt_list_dict, kt_dict_int, kt_dict_bool, kt_dict_str, kt_dict_tuple, kt_dict_list, kt_dict_dict]
  exact h
theorem st_28 (hp1 : Pr p1) (hq2 : Pr q2) {x9 x10 x11 : Option D} (h : N.nx (S2 a b sc p1 q1 r1 p2 q2 r2 i m0 m1 m2 lk x9 x10 x11) G) : rd_law_28 K a W N (S2 a b sc p1 q1 r1 p2 q2 r2 i m0 m1 m2 lk x9 x10 x11) G := by
  unfold rd_law_28
  simp only [var3, con3, op3, un3, tst3, chain3, tru3, vno3, van3, vo3, not3, and3, or3, ite3, nil3, cons3, tup3, lst3, lsf3, nx3, seq3, brk3, cnt3, drop3, ret3, retn3, ifs3, set3, asg3, gn3, gnil3, gcons3, gtup3, for3, ilst3, itup3, irng1, irng2, call3, fld3, sfld3, meth3, make3, raise3, frz3, try3, wTry3, inSuite3, outOf3, xfld3, cb3, isx, bml3, isl, app3, gsub3, st3, dic3, prs3, dkeys, newl, finv, view3, lcg3, id, bag_c, bag_a, bag_r, bag_m, bag_n, bag_pa, bag_pr, bag_pm, bag_pn, bag_len, up_same, up_up, at3_0, at3_1, at3_2, toNat_2, Int.toNat_zero, Int.toNat_one, istru_bl, istru_int, istru_non, istru_tup, istru_lst, istru_kls, istru_str, add3_ii, add3_ss, add3_tt, sub3_ii, mul3_ii, fdv3_ii, mod3_ii, pow3_ii, neg3_i, eqn3_ii, eqn3_ss, eqn3_bb, eqn3_tup, eqn3_lst, eqn3_non, cmi3_ii, isn3_bb, isn3_nn, isn3_on, isn3_tn, isn3_in, isn3_sn, isn3_rn, isn3_ln, isn3_bn, ix3_lst, ix3_kls, ix3_tup, ix3_ri, ix3_rs, opt3_some, getf_obj, seqj_lst, seqj_kls, seqj_ref, tupj_tup, len3_lst, len3_kls, len3_tup, len3_str, len3_ref, int3_i, int3_b, abs3_i, str3_i, lisf3_lst, lisf3_kls, lisf3_tup, list3_lst, list3_kls, list3_tup, tuple3_lst, tuple3_kls, tuple3_tup, isi_2, typ_non, typ_bl, typ_int, typ_str, typ_tup, typ_lst, typ_kls, typ_obj, typok_ty, typok_ref, clsv_ty, clsv_ref, eqo3_obj, onlyb_bl, adl3_ll, all3_lst, List.set_cons_zero, List.set_cons_succ, List.getElem?_cons_zero, List.getElem?_cons_succ, List.map_cons, List.map_nil, List.length_cons, List.length_nil, if_true, if_false, reduceIte, reduceCtorEq, Option.map_some, Option.some.injEq, and_true, true_and, List.cons_append, List.nil_append, Nat.reduceAdd, Nat.reduceLeDiff, Nat.reduceEqDiff, exists_eq_left', exists_eq_left, exists_and_left, exists_eq_right, exists_and_right, exists_const, Bool.not_true, Bool.not_false, kt_NoneType_int, kt_NoneType_bool, kt_NoneType_str, kt_NoneType_tuple, kt_NoneType_list, kt_NoneType_dict, kt_bool_int, kt_bool_bool, kt_bool_str, kt_bool_tuple, kt_bool_list, kt_bool_dict, kt_int_int, kt_int_bool, kt_int_str, kt_int_tuple, kt_int_list, kt_int_dict, kt_str_int, kt_str_bool, kt_str_str, kt_str_tuple, kt_str_list, kt_str_dict, kt_tuple_int, kt_tuple_bool, kt_tuple_str, kt_tuple_tuple, kt_tuple_list, kt_tuple_dict, kt_list_int, kt_list_bool, kt_list_str, kt_list_tuple, kt_list_list, kt_list_dict, kt_dict_int, kt_dict_bool, kt_dict_str, kt_dict_tuple, kt_dict_list, kt_dict_dict]
  refine fun x hx => mk_ok hx hp1 hq2 pr2 ?_
  refine ⟨p1, q2, 2, _, rfl, rfl, ?_⟩
  simp only [var3, con3, op3, un3, tst3, chain3, tru3, vno3, van3, vo3, not3, and3, or3, ite3, nil3, cons3, tup3, lst3, lsf3, nx3, seq3, brk3, cnt3, drop3, ret3, retn3, ifs3, set3, asg3, gn3, gnil3, gcons3, gtup3, for3, ilst3, itup3, irng1, irng2, call3, fld3, sfld3, meth3, make3, raise3, frz3, try3, wTry3, inSuite3, outOf3, xfld3, cb3, isx, bml3, isl, app3, gsub3, st3, dic3, prs3, dkeys, newl, finv, view3, lcg3, id, bag_c, bag_a, bag_r, bag_m, bag_n, bag_pa, bag_pr, bag_pm, bag_pn, bag_len, up_same, up_up, at3_0, at3_1, at3_2, toNat_2, Int.toNat_zero, Int.toNat_one, istru_bl, istru_int, istru_non, istru_tup, istru_lst, istru_kls, istru_str, add3_ii, add3_ss, add3_tt, sub3_ii, mul3_ii, fdv3_ii, mod3_ii, pow3_ii, neg3_i, eqn3_ii, eqn3_ss, eqn3_bb, eqn3_tup, eqn3_lst, eqn3_non, cmi3_ii, isn3_bb, isn3_nn, isn3_on, isn3_tn, isn3_in, isn3_sn, isn3_rn, isn3_ln, isn3_bn, ix3_lst, ix3_kls, ix3_tup, ix3_ri, ix3_rs, opt3_some, getf_obj, seqj_lst, seqj_kls, seqj_ref, tupj_tup, len3_lst, len3_kls, len3_tup, len3_str, len3_ref, int3_i, int3_b, abs3_i, str3_i, lisf3_lst, lisf3_kls, lisf3_tup, list3_lst, list3_kls, list3_tup, tuple3_lst, tuple3_kls, tuple3_tup, isi_2, typ_non, typ_bl, typ_int, typ_str, typ_tup, typ_lst, typ_kls, typ_obj, typok_ty, typok_ref, clsv_ty, clsv_ref, eqo3_obj, onlyb_bl, adl3_ll, all3_lst, List.set_cons_zero, List.set_cons_succ, List.getElem?_cons_zero, List.getElem?_cons_succ, List.map_cons, List.map_nil, List.length_cons, List.length_nil, if_true, if_false, reduceIte, reduceCtorEq, Option.map_some, Option.some.injEq, and_true, true_and, List.cons_append, List.nil_append, Nat.reduceAdd, Nat.reduceLeDiff, Nat.reduceEqDiff, exists_eq_left', exists_eq_left, exists_and_left, exists_eq_right, exists_and_right, exists_const, Bool.not_true, Bool.not_false, kt_NoneType_int, kt_NoneType_bool, kt_NoneType_str, kt_NoneType_tuple, kt_NoneType_list, kt_NoneType_dict, kt_bool_int, kt_bool_bool, kt_bool_str, kt_bool_tuple, kt_bool_list, kt_bool_dict, kt_int_int, kt_int_bool, kt_int_str, kt_int_tuple, kt_int_list, kt_int_dict, kt_str_int, kt_str_bool, kt_str_str, kt_str_tuple, kt_str_list, kt_str_dict, kt_tuple_int, kt_tuple_bool, kt_tuple_str, kt_tuple_tuple, kt_tuple_list, kt_tuple_dict, kt_list_int, kt_list_bool, kt_list_str, kt_list_tuple, kt_list_list, kt_list_dict, kt_dict_int, kt_dict_bool, kt_dict_str, kt_dict_tuple, kt_dict_list, kt_dict_dict]
  exact h
include T in
theorem st_29 (hq2 : Pr q2) {x9 x10 x11 : Option D} (h : N.nx (S2 a b sc p1 q1 r1 p2 q2 r2 i m0 m1 m2 lk x9 x10 x11) G) : rd_law_29 K a W N (S2 a b sc p1 q1 r1 p2 q2 r2 i m0 m1 m2 lk x9 x10 x11) G := by
  unfold rd_law_29
  simp only [var3, con3, op3, un3, tst3, chain3, tru3, vno3, van3, vo3, not3, and3, or3, ite3, nil3, cons3, tup3, lst3, lsf3, nx3, seq3, brk3, cnt3, drop3, ret3, retn3, ifs3, set3, asg3, gn3, gnil3, gcons3, gtup3, for3, ilst3, itup3, irng1, irng2, call3, fld3, sfld3, meth3, make3, raise3, frz3, try3, wTry3, inSuite3, outOf3, xfld3, cb3, isx, bml3, isl, app3, gsub3, st3, dic3, prs3, dkeys, newl, finv, view3, lcg3, id, bag_c, bag_a, bag_r, bag_m, bag_n, bag_pa, bag_pr, bag_pm, bag_pn, bag_len, up_same, up_up, at3_0, at3_1, at3_2, toNat_2, Int.toNat_zero, Int.toNat_one, istru_bl, istru_int, istru_non, istru_tup, istru_lst, istru_kls, istru_str, add3_ii, add3_ss, add3_tt, sub3_ii, mul3_ii, fdv3_ii, mod3_ii, pow3_ii, neg3_i, eqn3_ii, eqn3_ss, eqn3_bb, eqn3_tup, eqn3_lst, eqn3_non, cmi3_ii, isn3_bb, isn3_nn, isn3_on, isn3_tn, isn3_in, isn3_sn, isn3_rn, isn3_ln, isn3_bn, ix3_lst, ix3_kls, ix3_tup, ix3_ri, ix3_rs, opt3_some, getf_obj, seqj_lst, seqj_kls, seqj_ref, tupj_tup, len3_lst, len3_kls, len3_tup, len3_str, len3_ref, int3_i, int3_b, abs3_i, str3_i, lisf3_lst, lisf3_kls, lisf3_tup, list3_lst, list3_kls, list3_tup, tuple3_lst, tuple3_kls, tuple3_tup, isi_2, typ_non, typ_bl, typ_int, typ_str, typ_tup, typ_lst, typ_kls, typ_obj, typok_ty, typok_ref, clsv_ty, clsv_ref, eqo3_obj, onlyb_bl, adl3_ll, all3_lst, List.set_cons_zero, List.set_cons_succ, List.getElem?_cons_zero, List.getElem?_cons_succ, List.map_cons, List.map_nil, List.length_cons, List.length_nil, if_true, if_false, reduceIte, reduceCtorEq, Option.map_some, Option.some.injEq, and_true, true_and, List.cons_append, List.nil_append, Nat.reduceAdd, Nat.reduceLeDiff, Nat.reduceEqDiff, exists_eq_left', exists_eq_left, exists_and_left, exists_eq_right, exists_and_right, exists_const, Bool.not_true, Bool.not_false, kt_NoneType_int, kt_NoneType_bool, kt_NoneType_str, kt_NoneType_tuple, kt_NoneType_list, kt_NoneType_dict, kt_bool_int, kt_bool_bool, kt_bool_str, kt_bool_tuple, kt_bool_list, kt_bool_dict, kt_int_int, kt_int_bool, kt_int_str, kt_int_tuple, kt_int_list, kt_int_dict, kt_str_int, kt_str_bool, kt_str_str, kt_str_tuple, kt_str_list, kt_str_dict, kt_tuple_int, kt_tuple_bool, kt_tuple_str, kt_tuple_tuple, kt_tuple_list, kt_tuple_dict, kt_list_int, kt_list_bool, kt_list_str, kt_list_tuple, kt_list_list, kt_list_dict, kt_dict_int, kt_dict_bool, kt_dict_str, kt_dict_tuple, kt_dict_list, kt_dict_dict]
  refine fun x hx => mk_ok hx pr1 hq2 pr2 ?_
  refine ⟨1, q2, 2, _, rfl, rfl, ?_⟩
  simp only [var3, con3, op3, un3, tst3, chain3, tru3, vno3, van3, vo3, not3, and3, or3, ite3, nil3, cons3, tup3, lst3, lsf3, nx3, seq3, brk3, cnt3, drop3, ret3, retn3, ifs3, set3, asg3, gn3, gnil3, gcons3, gtup3, for3, ilst3, itup3, irng1, irng2, call3, fld3, sfld3, meth3, make3, raise3, frz3, try3, wTry3, inSuite3, outOf3, xfld3, cb3, isx, bml3, isl, app3, gsub3, st3, dic3, prs3, dkeys, newl, finv, view3, lcg3, id, bag_c, bag_a, bag_r, bag_m, bag_n, bag_pa, bag_pr, bag_pm, bag_pn, bag_len, up_same, up_up, at3_0, at3_1, at3_2, toNat_2, Int.toNat_zero, Int.toNat_one, istru_bl, istru_int, istru_non, istru_tup, istru_lst, istru_kls, istru_str, add3_ii, add3_ss, add3_tt, sub3_ii, mul3_ii, fdv3_ii, mod3_ii, pow3_ii, neg3_i, eqn3_ii, eqn3_ss, eqn3_bb, eqn3_tup, eqn3_lst, eqn3_non, cmi3_ii, isn3_bb, isn3_nn, isn3_on, isn3_tn, isn3_in, isn3_sn, isn3_rn, isn3_ln, isn3_bn, ix3_lst, ix3_kls, ix3_tup, ix3_ri, ix3_rs, opt3_some, getf_obj, seqj_lst, seqj_kls, seqj_ref, tupj_tup, len3_lst, len3_kls, len3_tup, len3_str, len3_ref, int3_i, int3_b, abs3_i, str3_i, lisf3_lst, lisf3_kls, lisf3_tup, list3_lst, list3_kls, list3_tup, tuple3_lst, tuple3_kls, tuple3_tup, isi_2, typ_non, typ_bl, typ_int, typ_str, typ_tup, typ_lst, typ_kls, typ_obj, typok_ty, typok_ref, clsv_ty, clsv_ref, eqo3_obj, onlyb_bl, adl3_ll, all3_lst, List.set_cons_zero, List.set_cons_succ, List.getElem?_cons_zero, List.getElem?_cons_succ, List.map_cons, List.map_nil, List.length_cons, List.length_nil, if_true, if_false, reduceIte, reduceCtorEq, Option.map_some, Option.some.injEq, and_true, true_and, List.cons_append, List.nil_append, Nat.reduceAdd, Nat.reduceLeDiff, Nat.reduceEqDiff, exists_eq_left', exists_eq_left, exists_and_left, exists_eq_right, exists_and_right, exists_const, Bool.not_true, Bool.not_false, kt_NoneType_int, kt_NoneType_bool, kt_NoneType_str, kt_NoneType_tuple, kt_NoneType_list, kt_NoneType_dict, kt_bool_int, kt_bool_bool, kt_bool_str, kt_bool_tuple, kt_bool_list, kt_bool_dict, kt_int_int, kt_int_bool, kt_int_str, kt_int_tuple, kt_int_list, kt_int_dict, kt_str_int, kt_str_bool, kt_str_str, kt_str_tuple, kt_str_list, kt_str_dict, kt_tuple_int, kt_tuple_bool, kt_tuple_str, kt_tuple_tuple, kt_tuple_list, kt_tuple_dict, kt_list_int, kt_list_bool, kt_list_str, kt_list_tuple, kt_list_list, kt_list_dict, kt_dict_int, kt_dict_bool, kt_dict_str, kt_dict_tuple, kt_dict_list, kt_dict_dict]
  refine fun x hx => mk_ok hx pr1 pr1 pr2 ?_
  refine fun x hx => mk_ok hx pr1 pr1 pr2 ?_
  refine eq_ok T ?_
  simp only [var3, con3, op3, un3, tst3, chain3, tru3, vno3, van3, vo3, not3, and3, or3, ite3, nil3, cons3, tup3, lst3, lsf3, nx3, seq3, brk3, cnt3, drop3, ret3, retn3, ifs3, set3, asg3, gn3, gnil3, gcons3, gtup3, for3, ilst3, itup3, irng1, irng2, call3, fld3, sfld3, meth3, make3, raise3, frz3, try3, wTry3, inSuite3, outOf3, xfld3, cb3, isx, bml3, isl, app3, gsub3, st3, dic3, prs3, dkeys, newl, finv, view3, lcg3, id, bag_c, bag_a, bag_r, bag_m, bag_n, bag_pa, bag_pr, bag_pm, bag_pn, bag_len, up_same, up_up, at3_0, at3_1, at3_2, toNat_2, Int.toNat_zero, Int.toNat_one, istru_bl, istru_int, istru_non, istru_tup, istru_lst, istru_kls, istru_str, add3_ii, add3_ss, add3_tt, sub3_ii, mul3_ii, fdv3_ii, mod3_ii, pow3_ii, neg3_i, eqn3_ii, eqn3_ss, eqn3_bb, eqn3_tup, eqn3_lst, eqn3_non, cmi3_ii, isn3_bb, isn3_nn, isn3_on, isn3_tn, isn3_in, isn3_sn, isn3_rn, isn3_ln, isn3_bn, ix3_lst, ix3_kls, ix3_tup, ix3_ri, ix3_rs, opt3_some, getf_obj, seqj_lst, seqj_kls, seqj_ref, tupj_tup, len3_lst, len3_kls, len3_tup, len3_str, len3_ref, int3_i, int3_b, abs3_i, str3_i, lisf3_lst, lisf3_kls, lisf3_tup, list3_lst, list3_kls, list3_tup, tuple3_lst, tuple3_kls, tuple3_tup, isi_2, typ_non, typ_bl, typ_int, typ_str, typ_tup, typ_lst, typ_kls, typ_obj, typok_ty, typok_ref, clsv_ty, clsv_ref, eqo3_obj, onlyb_bl, adl3_ll, all3_lst, List.set_cons_zero, List.set_cons_succ, List.getElem?_cons_zero, List.getElem?_cons_succ, List.map_cons, List.map_nil, List.length_cons, List.length_nil, if_true, if_false, reduceIte, reduceCtorEq, Option.map_some, Option.some.injEq, and_true, true_and, List.cons_append, List.nil_append, Nat.reduceAdd, Nat.reduceLeDiff, Nat.reduceEqDiff, exists_eq_left', exists_eq_left, exists_and_left, exists_eq_right, exists_and_right, exists_const, Bool.not_true, Bool.not_false, kt_NoneType_int, kt_NoneType_bool, kt_NoneType_str, kt_NoneType_tuple, kt_NoneType_list, kt_NoneType_dict, kt_bool_int, kt_bool_bool, kt_bool_str, kt_bool_tuple, kt_bool_list, kt_bool_dict, kt_int_int, kt_int_bool, kt_int_str, kt_int_tuple, kt_int_list, kt_int_dict, kt_str_int, kt_str_bool, kt_str_str, kt_str_tuple, kt_str_list, kt_str_dict, kt_tuple_int, kt_tuple_bool, kt_tuple_str, kt_tuple_tuple, kt_tuple_list, kt_tuple_dict, kt_list_int, kt_list_bool, kt_list_str, kt_list_tuple, kt_list_list, kt_list_dict, kt_dict_int, kt_dict_bool, kt_dict_str, kt_dict_tuple, kt_dict_list, kt_dict_dict, eq_self, and_self, decide_true]
  exact h
theorem st_30 {x9 x10 x11 : Option D} (h : ∀ p, G p = none → N.nx (S2 a b sc p1 q1 r1 p2 q2 r2 i m0 m1 m2 lk (some (.ref p)) x10 x11) (up G p (.lst [.int p1, .int q1, .int r1]))) : rd_law_30 K a W N (S2 a b sc p1 q1 r1 p2 q2 r2 i m0 m1 m2 lk x9 x10 x11) G := by
  unfold rd_law_30
  simp only [var3, con3, op3, un3, tst3, chain3, tru3, vno3, van3, vo3, not3, and3, or3, ite3, nil3, cons3, tup3, lst3, lsf3, nx3, seq3, brk3, cnt3, drop3, ret3, retn3, ifs3, set3, asg3, gn3, gnil3, gcons3, gtup3, for3, ilst3, itup3, irng1, irng2, call3, fld3, sfld3, meth3, make3, raise3, frz3, try3, wTry3, inSuite3, outOf3, xfld3, cb3, isx, bml3, isl, app3, gsub3, st3, dic3, prs3, dkeys, newl, finv, view3, lcg3, id, bag_c, bag_a, bag_r, bag_m, bag_n, bag_pa, bag_pr, bag_pm, bag_pn, bag_len, up_same, up_up, at3_0, at3_1, at3_2, toNat_2, Int.toNat_zero, Int.toNat_one, istru_bl, istru_int, istru_non, istru_tup, istru_lst, istru_kls, istru_str, add3_ii, add3_ss, add3_tt, sub3_ii, mul3_ii, fdv3_ii, mod3_ii, pow3_ii, neg3_i, eqn3_ii, eqn3_ss, eqn3_bb, eqn3_tup, eqn3_lst, eqn3_non, cmi3_ii, isn3_bb, isn3_nn, isn3_on, isn3_tn, isn3_in, isn3_sn, isn3_rn, isn3_ln, isn3_bn, ix3_lst, ix3_kls, ix3_tup, ix3_ri, ix3_rs, opt3_some, getf_obj, seqj_lst, seqj_kls, seqj_ref, tupj_tup, len3_lst, len3_kls, len3_tup, len3_str, len3_ref, int3_i, int3_b, abs3_i, str3_i, lisf3_lst, lisf3_kls, lisf3_tup, list3_lst, list3_kls, list3_tup, tuple3_lst, tuple3_kls, tuple3_tup, isi_2, typ_non, typ_bl, typ_int, typ_str, typ_tup, typ_lst, typ_kls, typ_obj, typok_ty, typok_ref, clsv_ty, clsv_ref, eqo3_obj, onlyb_bl, adl3_ll, all3_lst, List.set_cons_zero, List.set_cons_succ, List.getElem?_cons_zero, List.getElem?_cons_succ, List.map_cons, List.map_nil, List.length_cons, List.length_nil, if_true, if_false, reduceIte, reduceCtorEq, Option.map_some, Option.some.injEq, and_true, true_and, List.cons_append, List.nil_append, Nat.reduceAdd, Nat.reduceLeDiff, Nat.reduceEqDiff, exists_eq_left', exists_eq_left, exists_and_left, exists_eq_right, exists_and_right, exists_const, Bool.not_true, Bool.not_false, kt_NoneType_int, kt_NoneType_bool, kt_NoneType_str, kt_NoneType_tuple, kt_NoneType_list, kt_NoneType_dict, kt_bool_int, kt_bool_bool, kt_bool_str, kt_bool_tuple, kt_bool_list, kt_bool_dict, kt_int_int, kt_int_bool, kt_int_str, kt_int_tuple, kt_int_list, kt_int_dict, kt_str_int, kt_str_bool, kt_str_str, kt_str_tuple, kt_str_list, kt_str_dict, kt_tuple_int, kt_tuple_bool, kt_tuple_str, kt_tuple_tuple, kt_tuple_list, kt_tuple_dict, kt_list_int, kt_list_bool, kt_list_str, kt_list_tuple, kt_list_list, kt_list_dict, kt_dict_int, kt_dict_bool, kt_dict_str, kt_dict_tuple, kt_dict_list, kt_dict_dict]
  exact h
/-- the bag, the list that is spoilt -/
def Two (b p : Addr) (xs : List D) (G : H3) : Prop := Bag b G ∧ G p = some (.lst xs) ∧ b ≠ p
theorem Two.to {b p : Addr} {xs : List D} {G G' : H3} (h : Two b p xs G) (t : BagTo b G G') : Two b p xs G' := ⟨t.bag, by rw [t.same p (Ne.symm h.2.2)]; exact h.2.1, h.2.2⟩
theorem st_31 {xs : List D} {p : Addr} {x10 x11 : Option D} (hG : Two b p xs G) (h : ∀ ks G', AllP (fun x k => x = .int i → k = true) [.int 0, .int 1, .int 2] ks → Two b p xs G' → N.nx (S2 a b sc p1 q1 r1 p2 q2 r2 i m0 m1 m2 lk (some (.ref p)) (some (.lst (sieve [.int 0, .int 1, .int 2] ks))) x11) G') :
    rd_law_31 K a W N (S2 a b sc p1 q1 r1 p2 q2 r2 i m0 m1 m2 lk (some (.ref p)) x10 x11) G := by
  unfold rd_law_31
  simp only [var3, con3, op3, un3, tst3, chain3, tru3, vno3, van3, vo3, not3, and3, or3, ite3, nil3, cons3, tup3, lst3, lsf3, nx3, seq3, brk3, cnt3, drop3, ret3, retn3, ifs3, set3, asg3, gn3, gnil3, gcons3, gtup3, for3, ilst3, itup3, irng1, irng2, call3, fld3, sfld3, meth3, make3, raise3, frz3, try3, wTry3, inSuite3, outOf3, xfld3, cb3, isx, bml3, isl, app3, gsub3, st3, dic3, prs3, dkeys, newl, finv, view3, lcg3, id, bag_c, bag_a, bag_r, bag_m, bag_n, bag_pa, bag_pr, bag_pm, bag_pn, bag_len, up_same, up_up, at3_0, at3_1, at3_2, toNat_2, Int.toNat_zero, Int.toNat_one, istru_bl, istru_int, istru_non, istru_tup, istru_lst, istru_kls, istru_str, add3_ii, add3_ss, add3_tt, sub3_ii, mul3_ii, fdv3_ii, mod3_ii, pow3_ii, neg3_i, eqn3_ii, eqn3_ss, eqn3_bb, eqn3_tup, eqn3_lst, eqn3_non, cmi3_ii, isn3_bb, isn3_nn, isn3_on, isn3_tn, isn3_in, isn3_sn, isn3_rn, isn3_ln, isn3_bn, ix3_lst, ix3_kls, ix3_tup, ix3_ri, ix3_rs, opt3_some, getf_obj, seqj_lst, seqj_kls, seqj_ref, tupj_tup, len3_lst, len3_kls, len3_tup, len3_str, len3_ref, int3_i, int3_b, abs3_i, str3_i, lisf3_lst, lisf3_kls, lisf3_tup, list3_lst, list3_kls, list3_tup, tuple3_lst, tuple3_kls, tuple3_tup, isi_2, typ_non, typ_bl, typ_int, typ_str, typ_tup, typ_lst, typ_kls, typ_obj, typok_ty, typok_ref, clsv_ty, clsv_ref, eqo3_obj, onlyb_bl, adl3_ll, all3_lst, List.set_cons_zero, List.set_cons_succ, List.getElem?_cons_zero, List.getElem?_cons_succ, List.map_cons, List.map_nil, List.length_cons, List.length_nil, if_true, if_false, reduceIte, reduceCtorEq, Option.map_some, Option.some.injEq, and_true, true_and, List.cons_append, List.nil_append, Nat.reduceAdd, Nat.reduceLeDiff, Nat.reduceEqDiff, exists_eq_left', exists_eq_left, exists_and_left, exists_eq_right, exists_and_right, exists_const, Bool.not_true, Bool.not_false, kt_NoneType_int, kt_NoneType_bool, kt_NoneType_str, kt_NoneType_tuple, kt_NoneType_list, kt_NoneType_dict, kt_bool_int, kt_bool_bool, kt_bool_str, kt_bool_tuple, kt_bool_list, kt_bool_dict, kt_int_int, kt_int_bool, kt_int_str, kt_int_tuple, kt_int_list, kt_int_dict, kt_str_int, kt_str_bool, kt_str_str, kt_str_tuple, kt_str_list, kt_str_dict, kt_tuple_int, kt_tuple_bool, kt_tuple_str, kt_tuple_tuple, kt_tuple_list, kt_tuple_dict, kt_list_int, kt_list_bool, kt_list_str, kt_list_tuple, kt_list_list, kt_list_dict, kt_dict_int, kt_dict_bool, kt_dict_str, kt_dict_tuple, kt_dict_list, kt_dict_dict]
  refine ⟨by decide, ?_⟩
  refine lci_filter (Inv := Two b p xs) (P := fun x k => x = .int i → k = true) (fun _ _ => trivial) (by decide) hG (fun x hx => ?_) h
  obtain ⟨k, _, rfl⟩ := List.mem_map.mp hx
  refine ⟨_, rfl, fun G hI R hR => ?_, fun G R h => ?_⟩
  · simp only [var3, con3, op3, un3, tst3, chain3, tru3, vno3, van3, vo3, not3, and3, or3, ite3, nil3, cons3, tup3, lst3, lsf3, nx3, seq3, brk3, cnt3, drop3, ret3, retn3, ifs3, set3, asg3, gn3, gnil3, gcons3, gtup3, for3, ilst3, itup3, irng1, irng2, call3, fld3, sfld3, meth3, make3, raise3, frz3, try3, wTry3, inSuite3, outOf3, xfld3, cb3, isx, bml3, isl, app3, gsub3, st3, dic3, prs3, dkeys, newl, finv, view3, lcg3, id, bag_c, bag_a, bag_r, bag_m, bag_n, bag_pa, bag_pr, bag_pm, bag_pn, bag_len, up_same, up_up, at3_0, at3_1, at3_2, toNat_2, Int.toNat_zero, Int.toNat_one, istru_bl, istru_int, istru_non, istru_tup, istru_lst, istru_kls, istru_str, add3_ii, add3_ss, add3_tt, sub3_ii, mul3_ii, fdv3_ii, mod3_ii, pow3_ii, neg3_i, eqn3_ii, eqn3_ss, eqn3_bb, eqn3_tup, eqn3_lst, eqn3_non, cmi3_ii, isn3_bb, isn3_nn, isn3_on, isn3_tn, isn3_in, isn3_sn, isn3_rn, isn3_ln, isn3_bn, ix3_lst, ix3_kls, ix3_tup, ix3_ri, ix3_rs, opt3_some, getf_obj, seqj_lst, seqj_kls, seqj_ref, tupj_tup, len3_lst, len3_kls, len3_tup, len3_str, len3_ref, int3_i, int3_b, abs3_i, str3_i, lisf3_lst, lisf3_kls, lisf3_tup, list3_lst, list3_kls, list3_tup, tuple3_lst, tuple3_kls, tuple3_tup, isi_2, typ_non, typ_bl, typ_int, typ_str, typ_tup, typ_lst, typ_kls, typ_obj, typok_ty, typok_ref, clsv_ty, clsv_ref, eqo3_obj, onlyb_bl, adl3_ll, all3_lst, List.set_cons_zero, List.set_cons_succ, List.getElem?_cons_zero, List.getElem?_cons_succ, List.map_cons, List.map_nil, List.length_cons, List.length_nil, if_true, if_false, reduceIte, reduceCtorEq, Option.map_some, Option.some.injEq, and_true, true_and, List.cons_append, List.nil_append, Nat.reduceAdd, Nat.reduceLeDiff, Nat.reduceEqDiff, exists_eq_left', exists_eq_left, exists_and_left, exists_eq_right, exists_and_right, exists_const, Bool.not_true, Bool.not_false, kt_NoneType_int, kt_NoneType_bool, kt_NoneType_str, kt_NoneType_tuple, kt_NoneType_list, kt_NoneType_dict, kt_bool_int, kt_bool_bool, kt_bool_str, kt_bool_tuple, kt_bool_list, kt_bool_dict, kt_int_int, kt_int_bool, kt_int_str, kt_int_tuple, kt_int_list, kt_int_dict, kt_str_int, kt_str_bool, kt_str_str, kt_str_tuple, kt_str_list, kt_str_dict, kt_tuple_int, kt_tuple_bool, kt_tuple_str, kt_tuple_tuple, kt_tuple_list, kt_tuple_dict, kt_list_int, kt_list_bool, kt_list_str, kt_list_tuple, kt_list_list, kt_list_dict, kt_dict_int, kt_dict_bool, kt_dict_str, kt_dict_tuple, kt_dict_list, kt_dict_dict, wipe3]
    by_cases c : (0 + (k : Int)) = i
    · simp only [c, decide_true, if_true]
      exact hR _ _ (fun _ => rfl) hI
    · simp only [c, decide_false, if_false, Bool.false_eq_true]
      refine ⟨b, 3, rfl, hI.1, ⟨by decide, by decide⟩, fun r G1 h1 => ?_⟩
      simp only [var3, con3, op3, un3, tst3, chain3, tru3, vno3, van3, vo3, not3, and3, or3, ite3, nil3, cons3, tup3, lst3, lsf3, nx3, seq3, brk3, cnt3, drop3, ret3, retn3, ifs3, set3, asg3, gn3, gnil3, gcons3, gtup3, for3, ilst3, itup3, irng1, irng2, call3, fld3, sfld3, meth3, make3, raise3, frz3, try3, wTry3, inSuite3, outOf3, xfld3, cb3, isx, bml3, isl, app3, gsub3, st3, dic3, prs3, dkeys, newl, finv, view3, lcg3, id, bag_c, bag_a, bag_r, bag_m, bag_n, bag_pa, bag_pr, bag_pm, bag_pn, bag_len, up_same, up_up, at3_0, at3_1, at3_2, toNat_2, Int.toNat_zero, Int.toNat_one, istru_bl, istru_int, istru_non, istru_tup, istru_lst, istru_kls, istru_str, add3_ii, add3_ss, add3_tt, sub3_ii, mul3_ii, fdv3_ii, mod3_ii, pow3_ii, neg3_i, eqn3_ii, eqn3_ss, eqn3_bb, eqn3_tup, eqn3_lst, eqn3_non, cmi3_ii, isn3_bb, isn3_nn, isn3_on, isn3_tn, isn3_in, isn3_sn, isn3_rn, isn3_ln, isn3_bn, ix3_lst, ix3_kls, ix3_tup, ix3_ri, ix3_rs, opt3_some, getf_obj, seqj_lst, seqj_kls, seqj_ref, tupj_tup, len3_lst, len3_kls, len3_tup, len3_str, len3_ref, int3_i, int3_b, abs3_i, str3_i, lisf3_lst, lisf3_kls, lisf3_tup, list3_lst, list3_kls, list3_tup, tuple3_lst, tuple3_kls, tuple3_tup, isi_2, typ_non, typ_bl, typ_int, typ_str, typ_tup, typ_lst, typ_kls, typ_obj, typok_ty, typok_ref, clsv_ty, clsv_ref, eqo3_obj, onlyb_bl, adl3_ll, all3_lst, List.set_cons_zero, List.set_cons_succ, List.getElem?_cons_zero, List.getElem?_cons_succ, List.map_cons, List.map_nil, List.length_cons, List.length_nil, if_true, if_false, reduceIte, reduceCtorEq, Option.map_some, Option.some.injEq, and_true, true_and, List.cons_append, List.nil_append, Nat.reduceAdd, Nat.reduceLeDiff, Nat.reduceEqDiff, exists_eq_left', exists_eq_left, exists_and_left, exists_eq_right, exists_and_right, exists_const, Bool.not_true, Bool.not_false, kt_NoneType_int, kt_NoneType_bool, kt_NoneType_str, kt_NoneType_tuple, kt_NoneType_list, kt_NoneType_dict, kt_bool_int, kt_bool_bool, kt_bool_str, kt_bool_tuple, kt_bool_list, kt_bool_dict, kt_int_int, kt_int_bool, kt_int_str, kt_int_tuple, kt_int_list, kt_int_dict, kt_str_int, kt_str_bool, kt_str_str, kt_str_tuple, kt_str_list, kt_str_dict, kt_tuple_int, kt_tuple_bool, kt_tuple_str, kt_tuple_tuple, kt_tuple_list, kt_tuple_dict, kt_list_int, kt_list_bool, kt_list_str, kt_list_tuple, kt_list_list, kt_list_dict, kt_dict_int, kt_dict_bool, kt_dict_str, kt_dict_tuple, kt_dict_list, kt_dict_dict]
      refine hR _ _ (fun e => ?_) (hI.to h1)
      cases e
      exact absurd rfl c
  · simp only [var3, con3, op3, un3, tst3, chain3, tru3, vno3, van3, vo3, not3, and3, or3, ite3, nil3, cons3, tup3, lst3, lsf3, nx3, seq3, brk3, cnt3, drop3, ret3, retn3, ifs3, set3, asg3, gn3, gnil3, gcons3, gtup3, for3, ilst3, itup3, irng1, irng2, call3, fld3, sfld3, meth3, make3, raise3, frz3, try3, wTry3, inSuite3, outOf3, xfld3, cb3, isx, bml3, isl, app3, gsub3, st3, dic3, prs3, dkeys, newl, finv, view3, lcg3, id, bag_c, bag_a, bag_r, bag_m, bag_n, bag_pa, bag_pr, bag_pm, bag_pn, bag_len, up_same, up_up, at3_0, at3_1, at3_2, toNat_2, Int.toNat_zero, Int.toNat_one, istru_bl, istru_int, istru_non, istru_tup, istru_lst, istru_kls, istru_str, add3_ii, add3_ss, add3_tt, sub3_ii, mul3_ii, fdv3_ii, mod3_ii, pow3_ii, neg3_i, eqn3_ii, eqn3_ss, eqn3_bb, eqn3_tup, eqn3_lst, eqn3_non, cmi3_ii, isn3_bb, isn3_nn, isn3_on, isn3_tn, isn3_in, isn3_sn, isn3_rn, isn3_ln, isn3_bn, ix3_lst, ix3_kls, ix3_tup, ix3_ri, ix3_rs, opt3_some, getf_obj, seqj_lst, seqj_kls, seqj_ref, tupj_tup, len3_lst, len3_kls, len3_tup, len3_str, len3_ref, int3_i, int3_b, abs3_i, str3_i, lisf3_lst, lisf3_kls, lisf3_tup, list3_lst, list3_kls, list3_tup, tuple3_lst, tuple3_kls, tuple3_tup, isi_2, typ_non, typ_bl, typ_int, typ_str, typ_tup, typ_lst, typ_kls, typ_obj, typok_ty, typok_ref, clsv_ty, clsv_ref, eqo3_obj, onlyb_bl, adl3_ll, all3_lst, List.set_cons_zero, List.set_cons_succ, List.getElem?_cons_zero, List.getElem?_cons_succ, List.map_cons, List.map_nil, List.length_cons, List.length_nil, if_true, if_false, reduceIte, reduceCtorEq, Option.map_some, Option.some.injEq, and_true, true_and, List.cons_append, List.nil_append, Nat.reduceAdd, Nat.reduceLeDiff, Nat.reduceEqDiff, exists_eq_left', exists_eq_left, exists_and_left, exists_eq_right, exists_and_right, exists_const, Bool.not_true, Bool.not_false, kt_NoneType_int, kt_NoneType_bool, kt_NoneType_str, kt_NoneType_tuple, kt_NoneType_list, kt_NoneType_dict, kt_bool_int, kt_bool_bool, kt_bool_str, kt_bool_tuple, kt_bool_list, kt_bool_dict, kt_int_int, kt_int_bool, kt_int_str, kt_int_tuple, kt_int_list, kt_int_dict, kt_str_int, kt_str_bool, kt_str_str, kt_str_tuple, kt_str_list, kt_str_dict, kt_tuple_int, kt_tuple_bool, kt_tuple_str, kt_tuple_tuple, kt_tuple_list, kt_tuple_dict, kt_list_int, kt_list_bool, kt_list_str, kt_list_tuple, kt_list_list, kt_list_dict, kt_dict_int, kt_dict_bool, kt_dict_str, kt_dict_tuple, kt_dict_list, kt_dict_dict, wipe3]
    exact h
/-- one entry is spoilt -/
theorem st_11 {xs : List D} {p : Addr} {k : Int} {x10 x11 : Option D} (hk : 0 ≤ k ∧ k < xs.length) (hG : Two b p xs G) (h : ∀ d G', prOk d = some false → Two b p (xs.set k.toNat d) G' → N.nx (S2 a b sc p1 q1 r1 p2 q2 r2 i m0 m1 m2 (some (.int k)) (some (.ref p)) x10 x11) G') :
    rd_law_11 K a W N (S2 a b sc p1 q1 r1 p2 q2 r2 i m0 m1 m2 (some (.int k)) (some (.ref p)) x10 x11) G := by
  unfold rd_law_11
  simp only [var3, con3, op3, un3, tst3, chain3, tru3, vno3, van3, vo3, not3, and3, or3, ite3, nil3, cons3, tup3, lst3, lsf3, nx3, seq3, brk3, cnt3, drop3, ret3, retn3, ifs3, set3, asg3, gn3, gnil3, gcons3, gtup3, for3, ilst3, itup3, irng1, irng2, call3, fld3, sfld3, meth3, make3, raise3, frz3, try3, wTry3, inSuite3, outOf3, xfld3, cb3, isx, bml3, isl, app3, gsub3, st3, dic3, prs3, dkeys, newl, finv, view3, lcg3, id, bag_c, bag_a, bag_r, bag_m, bag_n, bag_pa, bag_pr, bag_pm, bag_pn, bag_len, up_same, up_up, at3_0, at3_1, at3_2, toNat_2, Int.toNat_zero, Int.toNat_one, istru_bl, istru_int, istru_non, istru_tup, istru_lst, istru_kls, istru_str, add3_ii, add3_ss, add3_tt, sub3_ii, mul3_ii, fdv3_ii, mod3_ii, pow3_ii, neg3_i, eqn3_ii, eqn3_ss, eqn3_bb, eqn3_tup, eqn3_lst, eqn3_non, cmi3_ii, isn3_bb, isn3_nn, isn3_on, isn3_tn, isn3_in, isn3_sn, isn3_rn, isn3_ln, isn3_bn, ix3_lst, ix3_kls, ix3_tup, ix3_ri, ix3_rs, opt3_some, getf_obj, seqj_lst, seqj_kls, seqj_ref, tupj_tup, len3_lst, len3_kls, len3_tup, len3_str, len3_ref, int3_i, int3_b, abs3_i, str3_i, lisf3_lst, lisf3_kls, lisf3_tup, list3_lst, list3_kls, list3_tup, tuple3_lst, tuple3_kls, tuple3_tup, isi_2, typ_non, typ_bl, typ_int, typ_str, typ_tup, typ_lst, typ_kls, typ_obj, typok_ty, typok_ref, clsv_ty, clsv_ref, eqo3_obj, onlyb_bl, adl3_ll, all3_lst, List.set_cons_zero, List.set_cons_succ, List.getElem?_cons_zero, List.getElem?_cons_succ, List.map_cons, List.map_nil, List.length_cons, List.length_nil, if_true, if_false, reduceIte, reduceCtorEq, Option.map_some, Option.some.injEq, and_true, true_and, List.cons_append, List.nil_append, Nat.reduceAdd, Nat.reduceLeDiff, Nat.reduceEqDiff, exists_eq_left', exists_eq_left, exists_and_left, exists_eq_right, exists_and_right, exists_const, Bool.not_true, Bool.not_false, kt_NoneType_int, kt_NoneType_bool, kt_NoneType_str, kt_NoneType_tuple, kt_NoneType_list, kt_NoneType_dict, kt_bool_int, kt_bool_bool, kt_bool_str, kt_bool_tuple, kt_bool_list, kt_bool_dict, kt_int_int, kt_int_bool, kt_int_str, kt_int_tuple, kt_int_list, kt_int_dict, kt_str_int, kt_str_bool, kt_str_str, kt_str_tuple, kt_str_list, kt_str_dict, kt_tuple_int, kt_tuple_bool, kt_tuple_str, kt_tuple_tuple, kt_tuple_list, kt_tuple_dict, kt_list_int, kt_list_bool, kt_list_str, kt_list_tuple, kt_list_list, kt_list_dict, kt_dict_int, kt_dict_bool, kt_dict_str, kt_dict_tuple, kt_dict_list, kt_dict_dict]
  refine ⟨b, rfl, hG.1, fun d G1 hd h1 => ?_⟩
  have h2 := hG.to h1
  simp only [var3, con3, op3, un3, tst3, chain3, tru3, vno3, van3, vo3, not3, and3, or3, ite3, nil3, cons3, tup3, lst3, lsf3, nx3, seq3, brk3, cnt3, drop3, ret3, retn3, ifs3, set3, asg3, gn3, gnil3, gcons3, gtup3, for3, ilst3, itup3, irng1, irng2, call3, fld3, sfld3, meth3, make3, raise3, frz3, try3, wTry3, inSuite3, outOf3, xfld3, cb3, isx, bml3, isl, app3, gsub3, st3, dic3, prs3, dkeys, newl, finv, view3, lcg3, id, bag_c, bag_a, bag_r, bag_m, bag_n, bag_pa, bag_pr, bag_pm, bag_pn, bag_len, up_same, up_up, at3_0, at3_1, at3_2, toNat_2, Int.toNat_zero, Int.toNat_one, istru_bl, istru_int, istru_non, istru_tup, istru_lst, istru_kls, istru_str, add3_ii, add3_ss, add3_tt, sub3_ii, mul3_ii, fdv3_ii, mod3_ii, pow3_ii, neg3_i, eqn3_ii, eqn3_ss, eqn3_bb, eqn3_tup, eqn3_lst, eqn3_non, cmi3_ii, isn3_bb, isn3_nn, isn3_on, isn3_tn, isn3_in, isn3_sn, isn3_rn, isn3_ln, isn3_bn, ix3_lst, ix3_kls, ix3_tup, ix3_ri, ix3_rs, opt3_some, getf_obj, seqj_lst, seqj_kls, seqj_ref, tupj_tup, len3_lst, len3_kls, len3_tup, len3_str, len3_ref, int3_i, int3_b, abs3_i, str3_i, lisf3_lst, lisf3_kls, lisf3_tup, list3_lst, list3_kls, list3_tup, tuple3_lst, tuple3_kls, tuple3_tup, isi_2, typ_non, typ_bl, typ_int, typ_str, typ_tup, typ_lst, typ_kls, typ_obj, typok_ty, typok_ref, clsv_ty, clsv_ref, eqo3_obj, onlyb_bl, adl3_ll, all3_lst, List.set_cons_zero, List.set_cons_succ, List.getElem?_cons_zero, List.getElem?_cons_succ, List.map_cons, List.map_nil, List.length_cons, List.length_nil, if_true, if_false, reduceIte, reduceCtorEq, Option.map_some, Option.some.injEq, and_true, true_and, List.cons_append, List.nil_append, Nat.reduceAdd, Nat.reduceLeDiff, Nat.reduceEqDiff, exists_eq_left', exists_eq_left, exists_and_left, exists_eq_right, exists_and_right, exists_const, Bool.not_true, Bool.not_false, kt_NoneType_int, kt_NoneType_bool, kt_NoneType_str, kt_NoneType_tuple, kt_NoneType_list, kt_NoneType_dict, kt_bool_int, kt_bool_bool, kt_bool_str, kt_bool_tuple, kt_bool_list, kt_bool_dict, kt_int_int, kt_int_bool, kt_int_str, kt_int_tuple, kt_int_list, kt_int_dict, kt_str_int, kt_str_bool, kt_str_str, kt_str_tuple, kt_str_list, kt_str_dict, kt_tuple_int, kt_tuple_bool, kt_tuple_str, kt_tuple_tuple, kt_tuple_list, kt_tuple_dict, kt_list_int, kt_list_bool, kt_list_str, kt_list_tuple, kt_list_list, kt_list_dict, kt_dict_int, kt_dict_bool, kt_dict_str, kt_dict_tuple, kt_dict_list, kt_dict_dict, h2.2.1]
  exact ⟨hk, h d _ hd ⟨h2.1.up h2.2.2, up_same, h2.2.2⟩⟩
/-- what is due: the first of what is spoilt -/
theorem st_35 {G : H3} {x3 x4 x5 x6 x7 x8 x9 x10 x11 : Option D} (stop : ∀ G', N.rt (.bl true) G') (hp1 : Pr p1) (hq1 : Pr q1) (hr1 : Pr r1) : rd_law_35 K a W N [some sc, some (.ref b), some (fst3 p1 q1 r1), x3, x4, x5, x6, x7, x8, x9, x10, x11] G := by
  have e : ∀ (Q : K3), Q (.bl true) G → eqn3 id (dueD true true true) (.tup [.str "none", .str "", .bl true]) G Q := fun Q h => by
    show dat3 id (dueD true true true) (.tup [.str "none", .str "", .bl true]) G Q
    refine ⟨.tuple [.str "none", .str "", .bool true], .tuple [.str "none", .str "", .bool true], rfl, rfl, ⟨by decide +kernel, by decide +kernel⟩, ?_⟩
    rw [PySem.SeqAt.eqv_refl _ (by decide +kernel)]
    exact h
  unfold rd_law_35
  simp only [var3, con3, op3, un3, tst3, chain3, tru3, vno3, van3, vo3, not3, and3, or3, ite3, nil3, cons3, tup3, lst3, lsf3, nx3, seq3, brk3, cnt3, drop3, ret3, retn3, ifs3, set3, asg3, gn3, gnil3, gcons3, gtup3, for3, ilst3, itup3, irng1, irng2, call3, fld3, sfld3, meth3, make3, raise3, frz3, try3, wTry3, inSuite3, outOf3, xfld3, cb3, isx, bml3, isl, app3, gsub3, st3, dic3, prs3, dkeys, newl, finv, view3, lcg3, id, bag_c, bag_a, bag_r, bag_m, bag_n, bag_pa, bag_pr, bag_pm, bag_pn, bag_len, up_same, up_up, at3_0, at3_1, at3_2, toNat_2, Int.toNat_zero, Int.toNat_one, istru_bl, istru_int, istru_non, istru_tup, istru_lst, istru_kls, istru_str, add3_ii, add3_ss, add3_tt, sub3_ii, mul3_ii, fdv3_ii, mod3_ii, pow3_ii, neg3_i, eqn3_ii, eqn3_ss, eqn3_bb, eqn3_tup, eqn3_lst, eqn3_non, cmi3_ii, isn3_bb, isn3_nn, isn3_on, isn3_tn, isn3_in, isn3_sn, isn3_rn, isn3_ln, isn3_bn, ix3_lst, ix3_kls, ix3_tup, ix3_ri, ix3_rs, opt3_some, getf_obj, seqj_lst, seqj_kls, seqj_ref, tupj_tup, len3_lst, len3_kls, len3_tup, len3_str, len3_ref, int3_i, int3_b, abs3_i, str3_i, lisf3_lst, lisf3_kls, lisf3_tup, list3_lst, list3_kls, list3_tup, tuple3_lst, tuple3_kls, tuple3_tup, isi_2, typ_non, typ_bl, typ_int, typ_str, typ_tup, typ_lst, typ_kls, typ_obj, typok_ty, typok_ref, clsv_ty, clsv_ref, eqo3_obj, onlyb_bl, adl3_ll, all3_lst, List.set_cons_zero, List.set_cons_succ, List.getElem?_cons_zero, List.getElem?_cons_succ, List.map_cons, List.map_nil, List.length_cons, List.length_nil, if_true, if_false, reduceIte, reduceCtorEq, Option.map_some, Option.some.injEq, and_true, true_and, List.cons_append, List.nil_append, Nat.reduceAdd, Nat.reduceLeDiff, Nat.reduceEqDiff, exists_eq_left', exists_eq_left, exists_and_left, exists_eq_right, exists_and_right, exists_const, Bool.not_true, Bool.not_false, kt_NoneType_int, kt_NoneType_bool, kt_NoneType_str, kt_NoneType_tuple, kt_NoneType_list, kt_NoneType_dict, kt_bool_int, kt_bool_bool, kt_bool_str, kt_bool_tuple, kt_bool_list, kt_bool_dict, kt_int_int, kt_int_bool, kt_int_str, kt_int_tuple, kt_int_list, kt_int_dict, kt_str_int, kt_str_bool, kt_str_str, kt_str_tuple, kt_str_list, kt_str_dict, kt_tuple_int, kt_tuple_bool, kt_tuple_str, kt_tuple_tuple, kt_tuple_list, kt_tuple_dict, kt_list_int, kt_list_bool, kt_list_str, kt_list_tuple, kt_list_list, kt_list_dict, kt_dict_int, kt_dict_bool, kt_dict_str, kt_dict_tuple, kt_dict_list, kt_dict_dict]
  refine ⟨_, _, _, _, true, true, true, rfl, rfl, hp1.ok, hq1.ok, hr1.ok, ?_⟩
  refine e _ ?_
  simp only [var3, con3, op3, un3, tst3, chain3, tru3, vno3, van3, vo3, not3, and3, or3, ite3, nil3, cons3, tup3, lst3, lsf3, nx3, seq3, brk3, cnt3, drop3, ret3, retn3, ifs3, set3, asg3, gn3, gnil3, gcons3, gtup3, for3, ilst3, itup3, irng1, irng2, call3, fld3, sfld3, meth3, make3, raise3, frz3, try3, wTry3, inSuite3, outOf3, xfld3, cb3, isx, bml3, isl, app3, gsub3, st3, dic3, prs3, dkeys, newl, finv, view3, lcg3, id, bag_c, bag_a, bag_r, bag_m, bag_n, bag_pa, bag_pr, bag_pm, bag_pn, bag_len, up_same, up_up, at3_0, at3_1, at3_2, toNat_2, Int.toNat_zero, Int.toNat_one, istru_bl, istru_int, istru_non, istru_tup, istru_lst, istru_kls, istru_str, add3_ii, add3_ss, add3_tt, sub3_ii, mul3_ii, fdv3_ii, mod3_ii, pow3_ii, neg3_i, eqn3_ii, eqn3_ss, eqn3_bb, eqn3_tup, eqn3_lst, eqn3_non, cmi3_ii, isn3_bb, isn3_nn, isn3_on, isn3_tn, isn3_in, isn3_sn, isn3_rn, isn3_ln, isn3_bn, ix3_lst, ix3_kls, ix3_tup, ix3_ri, ix3_rs, opt3_some, getf_obj, seqj_lst, seqj_kls, seqj_ref, tupj_tup, len3_lst, len3_kls, len3_tup, len3_str, len3_ref, int3_i, int3_b, abs3_i, str3_i, lisf3_lst, lisf3_kls, lisf3_tup, list3_lst, list3_kls, list3_tup, tuple3_lst, tuple3_kls, tuple3_tup, isi_2, typ_non, typ_bl, typ_int, typ_str, typ_tup, typ_lst, typ_kls, typ_obj, typok_ty, typok_ref, clsv_ty, clsv_ref, eqo3_obj, onlyb_bl, adl3_ll, all3_lst, List.set_cons_zero, List.set_cons_succ, List.getElem?_cons_zero, List.getElem?_cons_succ, List.map_cons, List.map_nil, List.length_cons, List.length_nil, if_true, if_false, reduceIte, reduceCtorEq, Option.map_some, Option.some.injEq, and_true, true_and, List.cons_append, List.nil_append, Nat.reduceAdd, Nat.reduceLeDiff, Nat.reduceEqDiff, exists_eq_left', exists_eq_left, exists_and_left, exists_eq_right, exists_and_right, exists_const, Bool.not_true, Bool.not_false, kt_NoneType_int, kt_NoneType_bool, kt_NoneType_str, kt_NoneType_tuple, kt_NoneType_list, kt_NoneType_dict, kt_bool_int, kt_bool_bool, kt_bool_str, kt_bool_tuple, kt_bool_list, kt_bool_dict, kt_int_int, kt_int_bool, kt_int_str, kt_int_tuple, kt_int_list, kt_int_dict, kt_str_int, kt_str_bool, kt_str_str, kt_str_tuple, kt_str_list, kt_str_dict, kt_tuple_int, kt_tuple_bool, kt_tuple_str, kt_tuple_tuple, kt_tuple_list, kt_tuple_dict, kt_list_int, kt_list_bool, kt_list_str, kt_list_tuple, kt_list_list, kt_list_dict, kt_dict_int, kt_dict_bool, kt_dict_str, kt_dict_tuple, kt_dict_list, kt_dict_dict]
  refine ⟨_, _, _, _, true, true, true, rfl, rfl, rfl, rfl, rfl, ?_⟩
  exact e _ (stop _)
theorem st_33 {x3 x4 x5 x6 x7 x8 x11 : Option D} {p : Addr} {k : Int} {z : Str} {r : List D} {o0 o1 o2 : D} {w0 w1 w2 : Bool} (stop : ∀ G', N.rt (.bl true) G') (hp1 : Pr p1) (hq1 : Pr q1) (hr1 : Pr r1) (hG : Two b p [o0, o1, o2] G)
    (h0 : prOk o0 = some w0) (h1 : prOk o1 = some w1) (h2 : prOk o2 = some w2) (ha : (w0 && w1 && w2) = false) (hz : at3 [.str "restate", .str "reweigh", .str "exchange"] k = some (.str z)) (hd : dueD w0 w1 w2 = .tup [.str "BadPrices", .str z, .bl true]) (hz2 : z = "restate" ∨ z = "reweigh" ∨ z = "exchange") :
    tl_law_33 K a W N [some sc, some (.ref b), some (fst3 p1 q1 r1), x3, x4, x5, x6, x7, x8, some (.ref p), some (.lst (.int k :: r)), x11] G := by
  have hl : lsv (.ref p) G = some [o0, o1, o2] := by simp only [lsv, hG.2.1]
  unfold tl_law_33 rd_law_33
  simp only [var3, con3, op3, un3, tst3, chain3, tru3, vno3, van3, vo3, not3, and3, or3, ite3, nil3, cons3, tup3, lst3, lsf3, nx3, seq3, brk3, cnt3, drop3, ret3, retn3, ifs3, set3, asg3, gn3, gnil3, gcons3, gtup3, for3, ilst3, itup3, irng1, irng2, call3, fld3, sfld3, meth3, make3, raise3, frz3, try3, wTry3, inSuite3, outOf3, xfld3, cb3, isx, bml3, isl, app3, gsub3, st3, dic3, prs3, dkeys, newl, finv, view3, lcg3, id, bag_c, bag_a, bag_r, bag_m, bag_n, bag_pa, bag_pr, bag_pm, bag_pn, bag_len, up_same, up_up, at3_0, at3_1, at3_2, toNat_2, Int.toNat_zero, Int.toNat_one, istru_bl, istru_int, istru_non, istru_tup, istru_lst, istru_kls, istru_str, add3_ii, add3_ss, add3_tt, sub3_ii, mul3_ii, fdv3_ii, mod3_ii, pow3_ii, neg3_i, eqn3_ii, eqn3_ss, eqn3_bb, eqn3_tup, eqn3_lst, eqn3_non, cmi3_ii, isn3_bb, isn3_nn, isn3_on, isn3_tn, isn3_in, isn3_sn, isn3_rn, isn3_ln, isn3_bn, ix3_lst, ix3_kls, ix3_tup, ix3_ri, ix3_rs, opt3_some, getf_obj, seqj_lst, seqj_kls, seqj_ref, tupj_tup, len3_lst, len3_kls, len3_tup, len3_str, len3_ref, int3_i, int3_b, abs3_i, str3_i, lisf3_lst, lisf3_kls, lisf3_tup, list3_lst, list3_kls, list3_tup, tuple3_lst, tuple3_kls, tuple3_tup, isi_2, typ_non, typ_bl, typ_int, typ_str, typ_tup, typ_lst, typ_kls, typ_obj, typok_ty, typok_ref, clsv_ty, clsv_ref, eqo3_obj, onlyb_bl, adl3_ll, all3_lst, List.set_cons_zero, List.set_cons_succ, List.getElem?_cons_zero, List.getElem?_cons_succ, List.map_cons, List.map_nil, List.length_cons, List.length_nil, if_true, if_false, reduceIte, reduceCtorEq, Option.map_some, Option.some.injEq, and_true, true_and, List.cons_append, List.nil_append, Nat.reduceAdd, Nat.reduceLeDiff, Nat.reduceEqDiff, exists_eq_left', exists_eq_left, exists_and_left, exists_eq_right, exists_and_right, exists_const, Bool.not_true, Bool.not_false, kt_NoneType_int, kt_NoneType_bool, kt_NoneType_str, kt_NoneType_tuple, kt_NoneType_list, kt_NoneType_dict, kt_bool_int, kt_bool_bool, kt_bool_str, kt_bool_tuple, kt_bool_list, kt_bool_dict, kt_int_int, kt_int_bool, kt_int_str, kt_int_tuple, kt_int_list, kt_int_dict, kt_str_int, kt_str_bool, kt_str_str, kt_str_tuple, kt_str_list, kt_str_dict, kt_tuple_int, kt_tuple_bool, kt_tuple_str, kt_tuple_tuple, kt_tuple_list, kt_tuple_dict, kt_list_int, kt_list_bool, kt_list_str, kt_list_tuple, kt_list_list, kt_list_dict, kt_dict_int, kt_dict_bool, kt_dict_str, kt_dict_tuple, kt_dict_list, kt_dict_dict, hz]
  unfold tl_law_34 rd_law_34
  simp only [var3, con3, op3, un3, tst3, chain3, tru3, vno3, van3, vo3, not3, and3, or3, ite3, nil3, cons3, tup3, lst3, lsf3, nx3, seq3, brk3, cnt3, drop3, ret3, retn3, ifs3, set3, asg3, gn3, gnil3, gcons3, gtup3, for3, ilst3, itup3, irng1, irng2, call3, fld3, sfld3, meth3, make3, raise3, frz3, try3, wTry3, inSuite3, outOf3, xfld3, cb3, isx, bml3, isl, app3, gsub3, st3, dic3, prs3, dkeys, newl, finv, view3, lcg3, id, bag_c, bag_a, bag_r, bag_m, bag_n, bag_pa, bag_pr, bag_pm, bag_pn, bag_len, up_same, up_up, at3_0, at3_1, at3_2, toNat_2, Int.toNat_zero, Int.toNat_one, istru_bl, istru_int, istru_non, istru_tup, istru_lst, istru_kls, istru_str, add3_ii, add3_ss, add3_tt, sub3_ii, mul3_ii, fdv3_ii, mod3_ii, pow3_ii, neg3_i, eqn3_ii, eqn3_ss, eqn3_bb, eqn3_tup, eqn3_lst, eqn3_non, cmi3_ii, isn3_bb, isn3_nn, isn3_on, isn3_tn, isn3_in, isn3_sn, isn3_rn, isn3_ln, isn3_bn, ix3_lst, ix3_kls, ix3_tup, ix3_ri, ix3_rs, opt3_some, getf_obj, seqj_lst, seqj_kls, seqj_ref, tupj_tup, len3_lst, len3_kls, len3_tup, len3_str, len3_ref, int3_i, int3_b, abs3_i, str3_i, lisf3_lst, lisf3_kls, lisf3_tup, list3_lst, list3_kls, list3_tup, tuple3_lst, tuple3_kls, tuple3_tup, isi_2, typ_non, typ_bl, typ_int, typ_str, typ_tup, typ_lst, typ_kls, typ_obj, typok_ty, typok_ref, clsv_ty, clsv_ref, eqo3_obj, onlyb_bl, adl3_ll, all3_lst, List.set_cons_zero, List.set_cons_succ, List.getElem?_cons_zero, List.getElem?_cons_succ, List.map_cons, List.map_nil, List.length_cons, List.length_nil, if_true, if_false, reduceIte, reduceCtorEq, Option.map_some, Option.some.injEq, and_true, true_and, List.cons_append, List.nil_append, Nat.reduceAdd, Nat.reduceLeDiff, Nat.reduceEqDiff, exists_eq_left', exists_eq_left, exists_and_left, exists_eq_right, exists_and_right, exists_const, Bool.not_true, Bool.not_false, kt_NoneType_int, kt_NoneType_bool, kt_NoneType_str, kt_NoneType_tuple, kt_NoneType_list, kt_NoneType_dict, kt_bool_int, kt_bool_bool, kt_bool_str, kt_bool_tuple, kt_bool_list, kt_bool_dict, kt_int_int, kt_int_bool, kt_int_str, kt_int_tuple, kt_int_list, kt_int_dict, kt_str_int, kt_str_bool, kt_str_str, kt_str_tuple, kt_str_list, kt_str_dict, kt_tuple_int, kt_tuple_bool, kt_tuple_str, kt_tuple_tuple, kt_tuple_list, kt_tuple_dict, kt_list_int, kt_list_bool, kt_list_str, kt_list_tuple, kt_list_list, kt_list_dict, kt_dict_int, kt_dict_bool, kt_dict_str, kt_dict_tuple, kt_dict_list, kt_dict_dict]
  refine ⟨.ref p, o0, o1, o2, w0, w1, w2, rfl, hl, h0, h1, h2, ?_⟩
  rw [hd]
  simp only [var3, con3, op3, un3, tst3, chain3, tru3, vno3, van3, vo3, not3, and3, or3, ite3, nil3, cons3, tup3, lst3, lsf3, nx3, seq3, brk3, cnt3, drop3, ret3, retn3, ifs3, set3, asg3, gn3, gnil3, gcons3, gtup3, for3, ilst3, itup3, irng1, irng2, call3, fld3, sfld3, meth3, make3, raise3, frz3, try3, wTry3, inSuite3, outOf3, xfld3, cb3, isx, bml3, isl, app3, gsub3, st3, dic3, prs3, dkeys, newl, finv, view3, lcg3, id, bag_c, bag_a, bag_r, bag_m, bag_n, bag_pa, bag_pr, bag_pm, bag_pn, bag_len, up_same, up_up, at3_0, at3_1, at3_2, toNat_2, Int.toNat_zero, Int.toNat_one, istru_bl, istru_int, istru_non, istru_tup, istru_lst, istru_kls, istru_str, add3_ii, add3_ss, add3_tt, sub3_ii, mul3_ii, fdv3_ii, mod3_ii, pow3_ii, neg3_i, eqn3_ii, eqn3_ss, eqn3_bb, eqn3_tup, eqn3_lst, eqn3_non, cmi3_ii, isn3_bb, isn3_nn, isn3_on, isn3_tn, isn3_in, isn3_sn, isn3_rn, isn3_ln, isn3_bn, ix3_lst, ix3_kls, ix3_tup, ix3_ri, ix3_rs, opt3_some, getf_obj, seqj_lst, seqj_kls, seqj_ref, tupj_tup, len3_lst, len3_kls, len3_tup, len3_str, len3_ref, int3_i, int3_b, abs3_i, str3_i, lisf3_lst, lisf3_kls, lisf3_tup, list3_lst, list3_kls, list3_tup, tuple3_lst, tuple3_kls, tuple3_tup, isi_2, typ_non, typ_bl, typ_int, typ_str, typ_tup, typ_lst, typ_kls, typ_obj, typok_ty, typok_ref, clsv_ty, clsv_ref, eqo3_obj, onlyb_bl, adl3_ll, all3_lst, List.set_cons_zero, List.set_cons_succ, List.getElem?_cons_zero, List.getElem?_cons_succ, List.map_cons, List.map_nil, List.length_cons, List.length_nil, if_true, if_false, reduceIte, reduceCtorEq, Option.map_some, Option.some.injEq, and_true, true_and, List.cons_append, List.nil_append, Nat.reduceAdd, Nat.reduceLeDiff, Nat.reduceEqDiff, exists_eq_left', exists_eq_left, exists_and_left, exists_eq_right, exists_and_right, exists_const, Bool.not_true, Bool.not_false, kt_NoneType_int, kt_NoneType_bool, kt_NoneType_str, kt_NoneType_tuple, kt_NoneType_list, kt_NoneType_dict, kt_bool_int, kt_bool_bool, kt_bool_str, kt_bool_tuple, kt_bool_list, kt_bool_dict, kt_int_int, kt_int_bool, kt_int_str, kt_int_tuple, kt_int_list, kt_int_dict, kt_str_int, kt_str_bool, kt_str_str, kt_str_tuple, kt_str_list, kt_str_dict, kt_tuple_int, kt_tuple_bool, kt_tuple_str, kt_tuple_tuple, kt_tuple_list, kt_tuple_dict, kt_list_int, kt_list_bool, kt_list_str, kt_list_tuple, kt_list_list, kt_list_dict, kt_dict_int, kt_dict_bool, kt_dict_str, kt_dict_tuple, kt_dict_list, kt_dict_dict]
  have hs : SeqAt.shaped (.tuple [.str "BadPrices", .str z, .bool true]) = true ∧ PyData.canLay0 (.tuple [.str "BadPrices", .str z, .bool true]) = true := by
    rcases hz2 with rfl | rfl | rfl <;> decide +kernel
  refine ⟨.tuple [.str "BadPrices", .str z, .bool true], .tuple [.str "BadPrices", .str z, .bool true], rfl, rfl, ⟨hs.1, hs.1⟩, ?_⟩
  rw [PySem.SeqAt.eqv_refl _ hs.2]
  simp only [var3, con3, op3, un3, tst3, chain3, tru3, vno3, van3, vo3, not3, and3, or3, ite3, nil3, cons3, tup3, lst3, lsf3, nx3, seq3, brk3, cnt3, drop3, ret3, retn3, ifs3, set3, asg3, gn3, gnil3, gcons3, gtup3, for3, ilst3, itup3, irng1, irng2, call3, fld3, sfld3, meth3, make3, raise3, frz3, try3, wTry3, inSuite3, outOf3, xfld3, cb3, isx, bml3, isl, app3, gsub3, st3, dic3, prs3, dkeys, newl, finv, view3, lcg3, id, bag_c, bag_a, bag_r, bag_m, bag_n, bag_pa, bag_pr, bag_pm, bag_pn, bag_len, up_same, up_up, at3_0, at3_1, at3_2, toNat_2, Int.toNat_zero, Int.toNat_one, istru_bl, istru_int, istru_non, istru_tup, istru_lst, istru_kls, istru_str, add3_ii, add3_ss, add3_tt, sub3_ii, mul3_ii, fdv3_ii, mod3_ii, pow3_ii, neg3_i, eqn3_ii, eqn3_ss, eqn3_bb, eqn3_tup, eqn3_lst, eqn3_non, cmi3_ii, isn3_bb, isn3_nn, isn3_on, isn3_tn, isn3_in, isn3_sn, isn3_rn, isn3_ln, isn3_bn, ix3_lst, ix3_kls, ix3_tup, ix3_ri, ix3_rs, opt3_some, getf_obj, seqj_lst, seqj_kls, seqj_ref, tupj_tup, len3_lst, len3_kls, len3_tup, len3_str, len3_ref, int3_i, int3_b, abs3_i, str3_i, lisf3_lst, lisf3_kls, lisf3_tup, list3_lst, list3_kls, list3_tup, tuple3_lst, tuple3_kls, tuple3_tup, isi_2, typ_non, typ_bl, typ_int, typ_str, typ_tup, typ_lst, typ_kls, typ_obj, typok_ty, typok_ref, clsv_ty, clsv_ref, eqo3_obj, onlyb_bl, adl3_ll, all3_lst, List.set_cons_zero, List.set_cons_succ, List.getElem?_cons_zero, List.getElem?_cons_succ, List.map_cons, List.map_nil, List.length_cons, List.length_nil, if_true, if_false, reduceIte, reduceCtorEq, Option.map_some, Option.some.injEq, and_true, true_and, List.cons_append, List.nil_append, Nat.reduceAdd, Nat.reduceLeDiff, Nat.reduceEqDiff, exists_eq_left', exists_eq_left, exists_and_left, exists_eq_right, exists_and_right, exists_const, Bool.not_true, Bool.not_false, kt_NoneType_int, kt_NoneType_bool, kt_NoneType_str, kt_NoneType_tuple, kt_NoneType_list, kt_NoneType_dict, kt_bool_int, kt_bool_bool, kt_bool_str, kt_bool_tuple, kt_bool_list, kt_bool_dict, kt_int_int, kt_int_bool, kt_int_str, kt_int_tuple, kt_int_list, kt_int_dict, kt_str_int, kt_str_bool, kt_str_str, kt_str_tuple, kt_str_list, kt_str_dict, kt_tuple_int, kt_tuple_bool, kt_tuple_str, kt_tuple_tuple, kt_tuple_list, kt_tuple_dict, kt_list_int, kt_list_bool, kt_list_str, kt_list_tuple, kt_list_list, kt_list_dict, kt_dict_int, kt_dict_bool, kt_dict_str, kt_dict_tuple, kt_dict_list, kt_dict_dict, Bool.false_eq_true]
  refine ⟨.ref p, o0, o1, o2, w0, w1, w2, rfl, hl, h0, h1, h2, ?_⟩
  rw [ha]
  simp only [var3, con3, op3, un3, tst3, chain3, tru3, vno3, van3, vo3, not3, and3, or3, ite3, nil3, cons3, tup3, lst3, lsf3, nx3, seq3, brk3, cnt3, drop3, ret3, retn3, ifs3, set3, asg3, gn3, gnil3, gcons3, gtup3, for3, ilst3, itup3, irng1, irng2, call3, fld3, sfld3, meth3, make3, raise3, frz3, try3, wTry3, inSuite3, outOf3, xfld3, cb3, isx, bml3, isl, app3, gsub3, st3, dic3, prs3, dkeys, newl, finv, view3, lcg3, id, bag_c, bag_a, bag_r, bag_m, bag_n, bag_pa, bag_pr, bag_pm, bag_pn, bag_len, up_same, up_up, at3_0, at3_1, at3_2, toNat_2, Int.toNat_zero, Int.toNat_one, istru_bl, istru_int, istru_non, istru_tup, istru_lst, istru_kls, istru_str, add3_ii, add3_ss, add3_tt, sub3_ii, mul3_ii, fdv3_ii, mod3_ii, pow3_ii, neg3_i, eqn3_ii, eqn3_ss, eqn3_bb, eqn3_tup, eqn3_lst, eqn3_non, cmi3_ii, isn3_bb, isn3_nn, isn3_on, isn3_tn, isn3_in, isn3_sn, isn3_rn, isn3_ln, isn3_bn, ix3_lst, ix3_kls, ix3_tup, ix3_ri, ix3_rs, opt3_some, getf_obj, seqj_lst, seqj_kls, seqj_ref, tupj_tup, len3_lst, len3_kls, len3_tup, len3_str, len3_ref, int3_i, int3_b, abs3_i, str3_i, lisf3_lst, lisf3_kls, lisf3_tup, list3_lst, list3_kls, list3_tup, tuple3_lst, tuple3_kls, tuple3_tup, isi_2, typ_non, typ_bl, typ_int, typ_str, typ_tup, typ_lst, typ_kls, typ_obj, typok_ty, typok_ref, clsv_ty, clsv_ref, eqo3_obj, onlyb_bl, adl3_ll, all3_lst, List.set_cons_zero, List.set_cons_succ, List.getElem?_cons_zero, List.getElem?_cons_succ, List.map_cons, List.map_nil, List.length_cons, List.length_nil, if_true, if_false, reduceIte, reduceCtorEq, Option.map_some, Option.some.injEq, and_true, true_and, List.cons_append, List.nil_append, Nat.reduceAdd, Nat.reduceLeDiff, Nat.reduceEqDiff, exists_eq_left', exists_eq_left, exists_and_left, exists_eq_right, exists_and_right, exists_const, Bool.not_true, Bool.not_false, kt_NoneType_int, kt_NoneType_bool, kt_NoneType_str, kt_NoneType_tuple, kt_NoneType_list, kt_NoneType_dict, kt_bool_int, kt_bool_bool, kt_bool_str, kt_bool_tuple, kt_bool_list, kt_bool_dict, kt_int_int, kt_int_bool, kt_int_str, kt_int_tuple, kt_int_list, kt_int_dict, kt_str_int, kt_str_bool, kt_str_str, kt_str_tuple, kt_str_list, kt_str_dict, kt_tuple_int, kt_tuple_bool, kt_tuple_str, kt_tuple_tuple, kt_tuple_list, kt_tuple_dict, kt_list_int, kt_list_bool, kt_list_str, kt_list_tuple, kt_list_list, kt_list_dict, kt_dict_int, kt_dict_bool, kt_dict_str, kt_dict_tuple, kt_dict_list, kt_dict_dict, Bool.false_eq_true]
  exact st_35 stop hp1 hq1 hr1
end

end K52

namespace K52
open PySem PySem.Spec PyProof.Rows L2 T3

section
variable {P : Program} {w : World} {K : PySem.W.Frag} {mg : Str → Option Value} {base : Heap} {a : Ad} {d : Fd} (T : Txt K mg a d) {W : W3} {N : N3} {b : Addr} {G : H3} {p1 q1 r1 p2 q2 r2 i m0 m1 m2 : Int} {sc : D} {lk : Option D}
theorem st_32 {x11 : Option D} {p : Addr} {ks : List Bool} (stop : ∀ G', N.rt (.bl true) G') (hp1 : Pr p1) (hq1 : Pr q1) (hr1 : Pr r1) (hG : Two b p [.int p1, .int q1, .int r1] G) (hi : i = 0 ∨ i = 1 ∨ i = 2) (hk : AllP (fun x k => x = .int i → k = true) [.int 0, .int 1, .int 2] ks) :
    tl_law_32 K a W N (S2 a b sc p1 q1 r1 p2 q2 r2 i m0 m1 m2 lk (some (.ref p)) (some (.lst (sieve [.int 0, .int 1, .int 2] ks))) x11) G := by
  cases hk with
  | cons h0 hk => cases hk with
    | cons h1 hk => cases hk with
      | cons h2 hk =>
        cases hk
        rename_i k0 k1 k2
        cases k0 <;> cases k1 <;> cases k2
        · rcases hi with rfl | rfl | rfl
          · cases h0 rfl
          · cases h1 rfl
          · cases h2 rfl
        all_goals
          simp only [sieve, if_true, if_false, Bool.false_eq_true]
          unfold tl_law_32 rd_law_32
          simp only [var3, con3, op3, un3, tst3, chain3, tru3, vno3, van3, vo3, not3, and3, or3, ite3, nil3, cons3, tup3, lst3, lsf3, nx3, seq3, brk3, cnt3, drop3, ret3, retn3, ifs3, set3, asg3, gn3, gnil3, gcons3, gtup3, for3, ilst3, itup3, irng1, irng2, call3, fld3, sfld3, meth3, make3, raise3, frz3, try3, wTry3, inSuite3, outOf3, xfld3, cb3, isx, bml3, isl, app3, gsub3, st3, dic3, prs3, dkeys, newl, finv, view3, lcg3, id, bag_c, bag_a, bag_r, bag_m, bag_n, bag_pa, bag_pr, bag_pm, bag_pn, bag_len, up_same, up_up, at3_0, at3_1, at3_2, toNat_2, Int.toNat_zero, Int.toNat_one, istru_bl, istru_int, istru_non, istru_tup, istru_lst, istru_kls, istru_str, add3_ii, add3_ss, add3_tt, sub3_ii, mul3_ii, fdv3_ii, mod3_ii, pow3_ii, neg3_i, eqn3_ii, eqn3_ss, eqn3_bb, eqn3_tup, eqn3_lst, eqn3_non, cmi3_ii, isn3_bb, isn3_nn, isn3_on, isn3_tn, isn3_in, isn3_sn, isn3_rn, isn3_ln, isn3_bn, ix3_lst, ix3_kls, ix3_tup, ix3_ri, ix3_rs, opt3_some, getf_obj, seqj_lst, seqj_kls, seqj_ref, tupj_tup, len3_lst, len3_kls, len3_tup, len3_str, len3_ref, int3_i, int3_b, abs3_i, str3_i, lisf3_lst, lisf3_kls, lisf3_tup, list3_lst, list3_kls, list3_tup, tuple3_lst, tuple3_kls, tuple3_tup, isi_2, typ_non, typ_bl, typ_int, typ_str, typ_tup, typ_lst, typ_kls, typ_obj, typok_ty, typok_ref, clsv_ty, clsv_ref, eqo3_obj, onlyb_bl, adl3_ll, all3_lst, List.set_cons_zero, List.set_cons_succ, List.getElem?_cons_zero, List.getElem?_cons_succ, List.map_cons, List.map_nil, List.length_cons, List.length_nil, if_true, if_false, reduceIte, reduceCtorEq, Option.map_some, Option.some.injEq, and_true, true_and, List.cons_append, List.nil_append, Nat.reduceAdd, Nat.reduceLeDiff, Nat.reduceEqDiff, exists_eq_left', exists_eq_left, exists_and_left, exists_eq_right, exists_and_right, exists_const, Bool.not_true, Bool.not_false, kt_NoneType_int, kt_NoneType_bool, kt_NoneType_str, kt_NoneType_tuple, kt_NoneType_list, kt_NoneType_dict, kt_bool_int, kt_bool_bool, kt_bool_str, kt_bool_tuple, kt_bool_list, kt_bool_dict, kt_int_int, kt_int_bool, kt_int_str, kt_int_tuple, kt_int_list, kt_int_dict, kt_str_int, kt_str_bool, kt_str_str, kt_str_tuple, kt_str_list, kt_str_dict, kt_tuple_int, kt_tuple_bool, kt_tuple_str, kt_tuple_tuple, kt_tuple_list, kt_tuple_dict, kt_list_int, kt_list_bool, kt_list_str, kt_list_tuple, kt_list_list, kt_list_dict, kt_dict_int, kt_dict_bool, kt_dict_str, kt_dict_tuple, kt_dict_list, kt_dict_dict, iter3]
        · exact st_11 (K := K) (W := W) (k := 2) (by simp) hG fun d2 G2 hd2 hG => st_33 (K := K) (W := W) (z := "exchange") stop hp1 hq1 hr1 hG hp1.ok hq1.ok hd2 rfl rfl rfl (by simp)
        · exact st_11 (K := K) (W := W) (k := 1) (by simp) hG fun d1 G1 hd1 hG => st_33 (K := K) (W := W) (z := "reweigh") stop hp1 hq1 hr1 hG hp1.ok hd1 hr1.ok rfl rfl rfl (by simp)
        · exact st_11 (K := K) (W := W) (k := 1) (by simp) hG fun d1 G1 hd1 hG => st_11 (K := K) (W := W) (k := 2) (by simp) hG fun d2 G2 hd2 hG => st_33 (K := K) (W := W) (z := "reweigh") stop hp1 hq1 hr1 hG hp1.ok hd1 hd2 rfl rfl rfl (by simp)
        · exact st_11 (K := K) (W := W) (k := 0) (by simp) hG fun d0 G0 hd0 hG => st_33 (K := K) (W := W) (z := "restate") stop hp1 hq1 hr1 hG hd0 hq1.ok hr1.ok rfl rfl rfl (by simp)
        · exact st_11 (K := K) (W := W) (k := 0) (by simp) hG fun d0 G0 hd0 hG => st_11 (K := K) (W := W) (k := 2) (by simp) hG fun d2 G2 hd2 hG => st_33 (K := K) (W := W) (z := "restate") stop hp1 hq1 hr1 hG hd0 hq1.ok hd2 rfl rfl rfl (by simp)
        · exact st_11 (K := K) (W := W) (k := 0) (by simp) hG fun d0 G0 hd0 hG => st_11 (K := K) (W := W) (k := 1) (by simp) hG fun d1 G1 hd1 hG => st_33 (K := K) (W := W) (z := "restate") stop hp1 hq1 hr1 hG hd0 hd1 hr1.ok rfl rfl rfl (by simp)
        · exact st_11 (K := K) (W := W) (k := 0) (by simp) hG fun d0 G0 hd0 hG => st_11 (K := K) (W := W) (k := 1) (by simp) hG fun d1 G1 hd1 hG => st_11 (K := K) (W := W) (k := 2) (by simp) hG fun d2 G2 hd2 hG => st_33 (K := K) (W := W) (z := "restate") stop hp1 hq1 hr1 hG hd0 hd1 hd2 rfl rfl rfl (by simp)
end

end K52

namespace K52
open PySem PySem.Spec PyProof.Rows L2 T3

section
variable {P : Program} {w : World} {K : PySem.W.Frag} {mg : Str → Option Value} {base : Heap} {a : Ad} {d : Fd} (T : Txt K mg a d) {W : W3} {N : N3} {b : Addr} {G : H3} {p1 q1 r1 p2 q2 r2 i m0 m1 m2 : Int} {sc : D} {lk : Option D}
include T in
/-- all that is asked, once all is drawn -/
theorem law_19 {x6 : Option D} (stop : ∀ G', N.rt (.bl true) G') (hB : Bag b G) (hi : i = 0 ∨ i = 1 ∨ i = 2) (hp1 : Pr p1) (hq1 : Pr q1) (hr1 : Pr r1) (hp2 : Pr p2) (hq2 : Pr q2) (hr2 : Pr r2) : tl_law_19 K a W N [some sc, some (.ref b), some (fst3 p1 q1 r1), some (fst3 p2 q2 r2), some (.int i), some (fst3 m0 m1 m2), x6, none, none, none, none, none] G :=
  go_law_19 <| st_19 hp1 hq1 hr1 (go_law_20 <| st_20 hp2 hq2 hr2 (go_law_21 <| st_21 (go_law_22 <| st_22 hp1 hq1 hr1 hp2 hq2 hr2 (go_law_23 <| st_23 hp1 hq1 hr1 hp2 hq2 hr2 (go_law_24 <| st_24 T (go_law_25 <| st_25 T hp1 hq1 hr1 (go_law_26 <| st_26 T (go_law_27 <| st_27 hp1 (go_law_28 <| st_28 hp1 hq2 (go_law_29 <| st_29 T hq2 (go_law_30 <| st_30 fun p hp => go_law_31 <| st_31 ⟨hB.up (hB.ne hp), up_same, hB.ne hp⟩ fun ks G' hk h2 =>
    st_32 stop hp1 hq1 hr1 h2 hi hk)))))))))))
end

end K52

namespace K52
open PySem PySem.Spec PyProof.Rows L2 T3

theorem ok_law {P : Program} {w : World} {K : PySem.W.Frag} {mg : Str → Option Value} {base : Heap} {a : Ad} {d : Fd} (T : Txt K mg a d) : Fk P w K mg base 6 a.f_law d.f_law ["_law_script"] (sp_law K a) :=
  dv_law T (by rintro _ _ _ _ ⟨_, rfl, _⟩; rfl) fun ds G Q E h => by
    obtain ⟨cs, rfl, hl, hq⟩ := h
    show tl_law_13 K a _ (ends3 Q) [some (.kls (cs.map .int)), none, none, none, none, none, none, none, none, none, none, none] G
    have stop : ∀ G', (ends3 Q).rt (.bl true) G' := fun G' => rt_same (hq G')
    generalize ends3 Q = N at stop ⊢
    clear hq Q
    unfold tl_law_13 rd_law_13
    simp only [var3, con3, op3, un3, tst3, chain3, tru3, vno3, van3, vo3, not3, and3, or3, ite3, nil3, cons3, tup3, lst3, lsf3, nx3, seq3, brk3, cnt3, drop3, ret3, retn3, ifs3, set3, asg3, gn3, gnil3, gcons3, gtup3, for3, ilst3, itup3, irng1, irng2, call3, fld3, sfld3, meth3, make3, raise3, frz3, try3, wTry3, inSuite3, outOf3, xfld3, cb3, isx, bml3, isl, app3, gsub3, st3, dic3, prs3, dkeys, newl, finv, view3, lcg3, id, bag_c, bag_a, bag_r, bag_m, bag_n, bag_pa, bag_pr, bag_pm, bag_pn, bag_len, up_same, up_up, at3_0, at3_1, at3_2, toNat_2, Int.toNat_zero, Int.toNat_one, istru_bl, istru_int, istru_non, istru_tup, istru_lst, istru_kls, istru_str, add3_ii, add3_ss, add3_tt, sub3_ii, mul3_ii, fdv3_ii, mod3_ii, pow3_ii, neg3_i, eqn3_ii, eqn3_ss, eqn3_bb, eqn3_tup, eqn3_lst, eqn3_non, cmi3_ii, isn3_bb, isn3_nn, isn3_on, isn3_tn, isn3_in, isn3_sn, isn3_rn, isn3_ln, isn3_bn, ix3_lst, ix3_kls, ix3_tup, ix3_ri, ix3_rs, opt3_some, getf_obj, seqj_lst, seqj_kls, seqj_ref, tupj_tup, len3_lst, len3_kls, len3_tup, len3_str, len3_ref, int3_i, int3_b, abs3_i, str3_i, lisf3_lst, lisf3_kls, lisf3_tup, list3_lst, list3_kls, list3_tup, tuple3_lst, tuple3_kls, tuple3_tup, isi_2, typ_non, typ_bl, typ_int, typ_str, typ_tup, typ_lst, typ_kls, typ_obj, typok_ty, typok_ref, clsv_ty, clsv_ref, eqo3_obj, onlyb_bl, adl3_ll, all3_lst, List.set_cons_zero, List.set_cons_succ, List.getElem?_cons_zero, List.getElem?_cons_succ, List.map_cons, List.map_nil, List.length_cons, List.length_nil, if_true, if_false, reduceIte, reduceCtorEq, Option.map_some, Option.some.injEq, and_true, true_and, List.cons_append, List.nil_append, Nat.reduceAdd, Nat.reduceLeDiff, Nat.reduceEqDiff, exists_eq_left', exists_eq_left, exists_and_left, exists_eq_right, exists_and_right, exists_const, Bool.not_true, Bool.not_false, kt_NoneType_int, kt_NoneType_bool, kt_NoneType_str, kt_NoneType_tuple, kt_NoneType_list, kt_NoneType_dict, kt_bool_int, kt_bool_bool, kt_bool_str, kt_bool_tuple, kt_bool_list, kt_bool_dict, kt_int_int, kt_int_bool, kt_int_str, kt_int_tuple, kt_int_list, kt_int_dict, kt_str_int, kt_str_bool, kt_str_str, kt_str_tuple, kt_str_list, kt_str_dict, kt_tuple_int, kt_tuple_bool, kt_tuple_str, kt_tuple_tuple, kt_tuple_list, kt_tuple_dict, kt_list_int, kt_list_bool, kt_list_str, kt_list_tuple, kt_list_list, kt_list_dict, kt_dict_int, kt_dict_bool, kt_dict_str, kt_dict_tuple, kt_dict_list, kt_dict_dict]
    refine ⟨cs, rfl, hl, fun b G1 hb h1 => ?_⟩
    have hB := h1.bag
    clear h1 hb
    unfold tl_law_14 rd_law_14
    simp only [var3, con3, op3, un3, tst3, chain3, tru3, vno3, van3, vo3, not3, and3, or3, ite3, nil3, cons3, tup3, lst3, lsf3, nx3, seq3, brk3, cnt3, drop3, ret3, retn3, ifs3, set3, asg3, gn3, gnil3, gcons3, gtup3, for3, ilst3, itup3, irng1, irng2, call3, fld3, sfld3, meth3, make3, raise3, frz3, try3, wTry3, inSuite3, outOf3, xfld3, cb3, isx, bml3, isl, app3, gsub3, st3, dic3, prs3, dkeys, newl, finv, view3, lcg3, id, bag_c, bag_a, bag_r, bag_m, bag_n, bag_pa, bag_pr, bag_pm, bag_pn, bag_len, up_same, up_up, at3_0, at3_1, at3_2, toNat_2, Int.toNat_zero, Int.toNat_one, istru_bl, istru_int, istru_non, istru_tup, istru_lst, istru_kls, istru_str, add3_ii, add3_ss, add3_tt, sub3_ii, mul3_ii, fdv3_ii, mod3_ii, pow3_ii, neg3_i, eqn3_ii, eqn3_ss, eqn3_bb, eqn3_tup, eqn3_lst, eqn3_non, cmi3_ii, isn3_bb, isn3_nn, isn3_on, isn3_tn, isn3_in, isn3_sn, isn3_rn, isn3_ln, isn3_bn, ix3_lst, ix3_kls, ix3_tup, ix3_ri, ix3_rs, opt3_some, getf_obj, seqj_lst, seqj_kls, seqj_ref, tupj_tup, len3_lst, len3_kls, len3_tup, len3_str, len3_ref, int3_i, int3_b, abs3_i, str3_i, lisf3_lst, lisf3_kls, lisf3_tup, list3_lst, list3_kls, list3_tup, tuple3_lst, tuple3_kls, tuple3_tup, isi_2, typ_non, typ_bl, typ_int, typ_str, typ_tup, typ_lst, typ_kls, typ_obj, typok_ty, typok_ref, clsv_ty, clsv_ref, eqo3_obj, onlyb_bl, adl3_ll, all3_lst, List.set_cons_zero, List.set_cons_succ, List.getElem?_cons_zero, List.getElem?_cons_succ, List.map_cons, List.map_nil, List.length_cons, List.length_nil, if_true, if_false, reduceIte, reduceCtorEq, Option.map_some, Option.some.injEq, and_true, true_and, List.cons_append, List.nil_append, Nat.reduceAdd, Nat.reduceLeDiff, Nat.reduceEqDiff, exists_eq_left', exists_eq_left, exists_and_left, exists_eq_right, exists_and_right, exists_const, Bool.not_true, Bool.not_false, kt_NoneType_int, kt_NoneType_bool, kt_NoneType_str, kt_NoneType_tuple, kt_NoneType_list, kt_NoneType_dict, kt_bool_int, kt_bool_bool, kt_bool_str, kt_bool_tuple, kt_bool_list, kt_bool_dict, kt_int_int, kt_int_bool, kt_int_str, kt_int_tuple, kt_int_list, kt_int_dict, kt_str_int, kt_str_bool, kt_str_str, kt_str_tuple, kt_str_list, kt_str_dict, kt_tuple_int, kt_tuple_bool, kt_tuple_str, kt_tuple_tuple, kt_tuple_list, kt_tuple_dict, kt_list_int, kt_list_bool, kt_list_str, kt_list_tuple, kt_list_list, kt_list_dict, kt_dict_int, kt_dict_bool, kt_dict_str, kt_dict_tuple, kt_dict_list, kt_dict_dict]
    refine ⟨b, rfl, hB, fun p1 q1 r1 G2 hp1 hq1 hr1 h2 => ?_⟩
    have hB := h2.bag
    clear h2
    unfold tl_law_15 rd_law_15
    simp only [var3, con3, op3, un3, tst3, chain3, tru3, vno3, van3, vo3, not3, and3, or3, ite3, nil3, cons3, tup3, lst3, lsf3, nx3, seq3, brk3, cnt3, drop3, ret3, retn3, ifs3, set3, asg3, gn3, gnil3, gcons3, gtup3, for3, ilst3, itup3, irng1, irng2, call3, fld3, sfld3, meth3, make3, raise3, frz3, try3, wTry3, inSuite3, outOf3, xfld3, cb3, isx, bml3, isl, app3, gsub3, st3, dic3, prs3, dkeys, newl, finv, view3, lcg3, id, bag_c, bag_a, bag_r, bag_m, bag_n, bag_pa, bag_pr, bag_pm, bag_pn, bag_len, up_same, up_up, at3_0, at3_1, at3_2, toNat_2, Int.toNat_zero, Int.toNat_one, istru_bl, istru_int, istru_non, istru_tup, istru_lst, istru_kls, istru_str, add3_ii, add3_ss, add3_tt, sub3_ii, mul3_ii, fdv3_ii, mod3_ii, pow3_ii, neg3_i, eqn3_ii, eqn3_ss, eqn3_bb, eqn3_tup, eqn3_lst, eqn3_non, cmi3_ii, isn3_bb, isn3_nn, isn3_on, isn3_tn, isn3_in, isn3_sn, isn3_rn, isn3_ln, isn3_bn, ix3_lst, ix3_kls, ix3_tup, ix3_ri, ix3_rs, opt3_some, getf_obj, seqj_lst, seqj_kls, seqj_ref, tupj_tup, len3_lst, len3_kls, len3_tup, len3_str, len3_ref, int3_i, int3_b, abs3_i, str3_i, lisf3_lst, lisf3_kls, lisf3_tup, list3_lst, list3_kls, list3_tup, tuple3_lst, tuple3_kls, tuple3_tup, isi_2, typ_non, typ_bl, typ_int, typ_str, typ_tup, typ_lst, typ_kls, typ_obj, typok_ty, typok_ref, clsv_ty, clsv_ref, eqo3_obj, onlyb_bl, adl3_ll, all3_lst, List.set_cons_zero, List.set_cons_succ, List.getElem?_cons_zero, List.getElem?_cons_succ, List.map_cons, List.map_nil, List.length_cons, List.length_nil, if_true, if_false, reduceIte, reduceCtorEq, Option.map_some, Option.some.injEq, and_true, true_and, List.cons_append, List.nil_append, Nat.reduceAdd, Nat.reduceLeDiff, Nat.reduceEqDiff, exists_eq_left', exists_eq_left, exists_and_left, exists_eq_right, exists_and_right, exists_const, Bool.not_true, Bool.not_false, kt_NoneType_int, kt_NoneType_bool, kt_NoneType_str, kt_NoneType_tuple, kt_NoneType_list, kt_NoneType_dict, kt_bool_int, kt_bool_bool, kt_bool_str, kt_bool_tuple, kt_bool_list, kt_bool_dict, kt_int_int, kt_int_bool, kt_int_str, kt_int_tuple, kt_int_list, kt_int_dict, kt_str_int, kt_str_bool, kt_str_str, kt_str_tuple, kt_str_list, kt_str_dict, kt_tuple_int, kt_tuple_bool, kt_tuple_str, kt_tuple_tuple, kt_tuple_list, kt_tuple_dict, kt_list_int, kt_list_bool, kt_list_str, kt_list_tuple, kt_list_list, kt_list_dict, kt_dict_int, kt_dict_bool, kt_dict_str, kt_dict_tuple, kt_dict_list, kt_dict_dict]
    refine ⟨b, rfl, hB, fun p2 q2 r2 G3 hp2 hq2 hr2 h3 => ?_⟩
    have hB := h3.bag
    clear h3
    unfold tl_law_16 rd_law_16
    simp only [var3, con3, op3, un3, tst3, chain3, tru3, vno3, van3, vo3, not3, and3, or3, ite3, nil3, cons3, tup3, lst3, lsf3, nx3, seq3, brk3, cnt3, drop3, ret3, retn3, ifs3, set3, asg3, gn3, gnil3, gcons3, gtup3, for3, ilst3, itup3, irng1, irng2, call3, fld3, sfld3, meth3, make3, raise3, frz3, try3, wTry3, inSuite3, outOf3, xfld3, cb3, isx, bml3, isl, app3, gsub3, st3, dic3, prs3, dkeys, newl, finv, view3, lcg3, id, bag_c, bag_a, bag_r, bag_m, bag_n, bag_pa, bag_pr, bag_pm, bag_pn, bag_len, up_same, up_up, at3_0, at3_1, at3_2, toNat_2, Int.toNat_zero, Int.toNat_one, istru_bl, istru_int, istru_non, istru_tup, istru_lst, istru_kls, istru_str, add3_ii, add3_ss, add3_tt, sub3_ii, mul3_ii, fdv3_ii, mod3_ii, pow3_ii, neg3_i, eqn3_ii, eqn3_ss, eqn3_bb, eqn3_tup, eqn3_lst, eqn3_non, cmi3_ii, isn3_bb, isn3_nn, isn3_on, isn3_tn, isn3_in, isn3_sn, isn3_rn, isn3_ln, isn3_bn, ix3_lst, ix3_kls, ix3_tup, ix3_ri, ix3_rs, opt3_some, getf_obj, seqj_lst, seqj_kls, seqj_ref, tupj_tup, len3_lst, len3_kls, len3_tup, len3_str, len3_ref, int3_i, int3_b, abs3_i, str3_i, lisf3_lst, lisf3_kls, lisf3_tup, list3_lst, list3_kls, list3_tup, tuple3_lst, tuple3_kls, tuple3_tup, isi_2, typ_non, typ_bl, typ_int, typ_str, typ_tup, typ_lst, typ_kls, typ_obj, typok_ty, typok_ref, clsv_ty, clsv_ref, eqo3_obj, onlyb_bl, adl3_ll, all3_lst, List.set_cons_zero, List.set_cons_succ, List.getElem?_cons_zero, List.getElem?_cons_succ, List.map_cons, List.map_nil, List.length_cons, List.length_nil, if_true, if_false, reduceIte, reduceCtorEq, Option.map_some, Option.some.injEq, and_true, true_and, List.cons_append, List.nil_append, Nat.reduceAdd, Nat.reduceLeDiff, Nat.reduceEqDiff, exists_eq_left', exists_eq_left, exists_and_left, exists_eq_right, exists_and_right, exists_const, Bool.not_true, Bool.not_false, kt_NoneType_int, kt_NoneType_bool, kt_NoneType_str, kt_NoneType_tuple, kt_NoneType_list, kt_NoneType_dict, kt_bool_int, kt_bool_bool, kt_bool_str, kt_bool_tuple, kt_bool_list, kt_bool_dict, kt_int_int, kt_int_bool, kt_int_str, kt_int_tuple, kt_int_list, kt_int_dict, kt_str_int, kt_str_bool, kt_str_str, kt_str_tuple, kt_str_list, kt_str_dict, kt_tuple_int, kt_tuple_bool, kt_tuple_str, kt_tuple_tuple, kt_tuple_list, kt_tuple_dict, kt_list_int, kt_list_bool, kt_list_str, kt_list_tuple, kt_list_list, kt_list_dict, kt_dict_int, kt_dict_bool, kt_dict_str, kt_dict_tuple, kt_dict_list, kt_dict_dict]
    refine ⟨b, 3, rfl, hB, ⟨by decide, by decide⟩, fun i G4 hat h4 => ?_⟩
    have hB := h4.bag
    have hi : i = 0 ∨ i = 1 ∨ i = 2 := by omega
    clear h4
    have second : ∀ (p2 q2 r2 : Int) (G5 : H3), Pr p2 → Pr q2 → Pr r2 → Bag b G5 → tl_law_18 K a (ex3 E) N [some (.kls (cs.map .int)), some (.ref b), some (fst3 p1 q1 r1), some (fst3 p2 q2 r2), some (.int i), none, none, none, none, none, none, none] G5 := fun p2 q2 r2 G5 hp2 hq2 hr2 hB => by
      unfold tl_law_18 rd_law_18
      simp only [var3, con3, op3, un3, tst3, chain3, tru3, vno3, van3, vo3, not3, and3, or3, ite3, nil3, cons3, tup3, lst3, lsf3, nx3, seq3, brk3, cnt3, drop3, ret3, retn3, ifs3, set3, asg3, gn3, gnil3, gcons3, gtup3, for3, ilst3, itup3, irng1, irng2, call3, fld3, sfld3, meth3, make3, raise3, frz3, try3, wTry3, inSuite3, outOf3, xfld3, cb3, isx, bml3, isl, app3, gsub3, st3, dic3, prs3, dkeys, newl, finv, view3, lcg3, id, bag_c, bag_a, bag_r, bag_m, bag_n, bag_pa, bag_pr, bag_pm, bag_pn, bag_len, up_same, up_up, at3_0, at3_1, at3_2, toNat_2, Int.toNat_zero, Int.toNat_one, istru_bl, istru_int, istru_non, istru_tup, istru_lst, istru_kls, istru_str, add3_ii, add3_ss, add3_tt, sub3_ii, mul3_ii, fdv3_ii, mod3_ii, pow3_ii, neg3_i, eqn3_ii, eqn3_ss, eqn3_bb, eqn3_tup, eqn3_lst, eqn3_non, cmi3_ii, isn3_bb, isn3_nn, isn3_on, isn3_tn, isn3_in, isn3_sn, isn3_rn, isn3_ln, isn3_bn, ix3_lst, ix3_kls, ix3_tup, ix3_ri, ix3_rs, opt3_some, getf_obj, seqj_lst, seqj_kls, seqj_ref, tupj_tup, len3_lst, len3_kls, len3_tup, len3_str, len3_ref, int3_i, int3_b, abs3_i, str3_i, lisf3_lst, lisf3_kls, lisf3_tup, list3_lst, list3_kls, list3_tup, tuple3_lst, tuple3_kls, tuple3_tup, isi_2, typ_non, typ_bl, typ_int, typ_str, typ_tup, typ_lst, typ_kls, typ_obj, typok_ty, typok_ref, clsv_ty, clsv_ref, eqo3_obj, onlyb_bl, adl3_ll, all3_lst, List.set_cons_zero, List.set_cons_succ, List.getElem?_cons_zero, List.getElem?_cons_succ, List.map_cons, List.map_nil, List.length_cons, List.length_nil, if_true, if_false, reduceIte, reduceCtorEq, Option.map_some, Option.some.injEq, and_true, true_and, List.cons_append, List.nil_append, Nat.reduceAdd, Nat.reduceLeDiff, Nat.reduceEqDiff, exists_eq_left', exists_eq_left, exists_and_left, exists_eq_right, exists_and_right, exists_const, Bool.not_true, Bool.not_false, kt_NoneType_int, kt_NoneType_bool, kt_NoneType_str, kt_NoneType_tuple, kt_NoneType_list, kt_NoneType_dict, kt_bool_int, kt_bool_bool, kt_bool_str, kt_bool_tuple, kt_bool_list, kt_bool_dict, kt_int_int, kt_int_bool, kt_int_str, kt_int_tuple, kt_int_list, kt_int_dict, kt_str_int, kt_str_bool, kt_str_str, kt_str_tuple, kt_str_list, kt_str_dict, kt_tuple_int, kt_tuple_bool, kt_tuple_str, kt_tuple_tuple, kt_tuple_list, kt_tuple_dict, kt_list_int, kt_list_bool, kt_list_str, kt_list_tuple, kt_list_list, kt_list_dict, kt_dict_int, kt_dict_bool, kt_dict_str, kt_dict_tuple, kt_dict_list, kt_dict_dict]
      refine ⟨by decide, lci_inv (Inv := fun ds acc G1 => Bag b G1 ∧ ∃ ns : List Int, acc = ns.map .int ∧ ns.length = ds.length ∧ ns.length < 10000) (ds := []) (fun ds acc G1 h => ⟨trivial, by obtain ⟨_, ns, rfl, _, h⟩ := h; simpa using h⟩) rfl (fun ds x rest acc G1 ex hI => ?_) ⟨hB, [], rfl, rfl, by decide⟩ fun acc G1 hI => ?_⟩
      · obtain ⟨hto, ns, rfl, hl, hl2⟩ := hI
        refine ⟨_, rfl, fun Ry Rn hy _ => ?_⟩
        have hx : (ds ++ x :: rest).length = 3 := by rw [ex]; rfl
        rw [List.length_append, List.length_cons] at hx
        simp only [var3, con3, op3, un3, tst3, chain3, tru3, vno3, van3, vo3, not3, and3, or3, ite3, nil3, cons3, tup3, lst3, lsf3, nx3, seq3, brk3, cnt3, drop3, ret3, retn3, ifs3, set3, asg3, gn3, gnil3, gcons3, gtup3, for3, ilst3, itup3, irng1, irng2, call3, fld3, sfld3, meth3, make3, raise3, frz3, try3, wTry3, inSuite3, outOf3, xfld3, cb3, isx, bml3, isl, app3, gsub3, st3, dic3, prs3, dkeys, newl, finv, view3, lcg3, id, bag_c, bag_a, bag_r, bag_m, bag_n, bag_pa, bag_pr, bag_pm, bag_pn, bag_len, up_same, up_up, at3_0, at3_1, at3_2, toNat_2, Int.toNat_zero, Int.toNat_one, istru_bl, istru_int, istru_non, istru_tup, istru_lst, istru_kls, istru_str, add3_ii, add3_ss, add3_tt, sub3_ii, mul3_ii, fdv3_ii, mod3_ii, pow3_ii, neg3_i, eqn3_ii, eqn3_ss, eqn3_bb, eqn3_tup, eqn3_lst, eqn3_non, cmi3_ii, isn3_bb, isn3_nn, isn3_on, isn3_tn, isn3_in, isn3_sn, isn3_rn, isn3_ln, isn3_bn, ix3_lst, ix3_kls, ix3_tup, ix3_ri, ix3_rs, opt3_some, getf_obj, seqj_lst, seqj_kls, seqj_ref, tupj_tup, len3_lst, len3_kls, len3_tup, len3_str, len3_ref, int3_i, int3_b, abs3_i, str3_i, lisf3_lst, lisf3_kls, lisf3_tup, list3_lst, list3_kls, list3_tup, tuple3_lst, tuple3_kls, tuple3_tup, isi_2, typ_non, typ_bl, typ_int, typ_str, typ_tup, typ_lst, typ_kls, typ_obj, typok_ty, typok_ref, clsv_ty, clsv_ref, eqo3_obj, onlyb_bl, adl3_ll, all3_lst, List.set_cons_zero, List.set_cons_succ, List.getElem?_cons_zero, List.getElem?_cons_succ, List.map_cons, List.map_nil, List.length_cons, List.length_nil, if_true, if_false, reduceIte, reduceCtorEq, Option.map_some, Option.some.injEq, and_true, true_and, List.cons_append, List.nil_append, Nat.reduceAdd, Nat.reduceLeDiff, Nat.reduceEqDiff, exists_eq_left', exists_eq_left, exists_and_left, exists_eq_right, exists_and_right, exists_const, Bool.not_true, Bool.not_false, kt_NoneType_int, kt_NoneType_bool, kt_NoneType_str, kt_NoneType_tuple, kt_NoneType_list, kt_NoneType_dict, kt_bool_int, kt_bool_bool, kt_bool_str, kt_bool_tuple, kt_bool_list, kt_bool_dict, kt_int_int, kt_int_bool, kt_int_str, kt_int_tuple, kt_int_list, kt_int_dict, kt_str_int, kt_str_bool, kt_str_str, kt_str_tuple, kt_str_list, kt_str_dict, kt_tuple_int, kt_tuple_bool, kt_tuple_str, kt_tuple_tuple, kt_tuple_list, kt_tuple_dict, kt_list_int, kt_list_bool, kt_list_str, kt_list_tuple, kt_list_list, kt_list_dict, kt_dict_int, kt_dict_bool, kt_dict_str, kt_dict_tuple, kt_dict_list, kt_dict_dict, wipe3, yes3]
        exact ⟨b, rfl, hto, fun n G2 h2 => hy _ _ ⟨h2.bag, ns ++ [n], by simp, by simp [hl], by simp; omega⟩⟩
      · obtain ⟨hto, ns, rfl, hl, _⟩ := hI
        have hl3 : ns.length = 3 := by rw [hl]; rfl
        match ns, hl3 with
        | [m0, m1, m2], _ => exact law_19 T stop hto hi hp1 hq1 hr1 hp2 hq2 hr2
    unfold tl_law_17 rd_law_17
    simp only [var3, con3, op3, un3, tst3, chain3, tru3, vno3, van3, vo3, not3, and3, or3, ite3, nil3, cons3, tup3, lst3, lsf3, nx3, seq3, brk3, cnt3, drop3, ret3, retn3, ifs3, set3, asg3, gn3, gnil3, gcons3, gtup3, for3, ilst3, itup3, irng1, irng2, call3, fld3, sfld3, meth3, make3, raise3, frz3, try3, wTry3, inSuite3, outOf3, xfld3, cb3, isx, bml3, isl, app3, gsub3, st3, dic3, prs3, dkeys, newl, finv, view3, lcg3, id, bag_c, bag_a, bag_r, bag_m, bag_n, bag_pa, bag_pr, bag_pm, bag_pn, bag_len, up_same, up_up, at3_0, at3_1, at3_2, toNat_2, Int.toNat_zero, Int.toNat_one, istru_bl, istru_int, istru_non, istru_tup, istru_lst, istru_kls, istru_str, add3_ii, add3_ss, add3_tt, sub3_ii, mul3_ii, fdv3_ii, mod3_ii, pow3_ii, neg3_i, eqn3_ii, eqn3_ss, eqn3_bb, eqn3_tup, eqn3_lst, eqn3_non, cmi3_ii, isn3_bb, isn3_nn, isn3_on, isn3_tn, isn3_in, isn3_sn, isn3_rn, isn3_ln, isn3_bn, ix3_lst, ix3_kls, ix3_tup, ix3_ri, ix3_rs, opt3_some, getf_obj, seqj_lst, seqj_kls, seqj_ref, tupj_tup, len3_lst, len3_kls, len3_tup, len3_str, len3_ref, int3_i, int3_b, abs3_i, str3_i, lisf3_lst, lisf3_kls, lisf3_tup, list3_lst, list3_kls, list3_tup, tuple3_lst, tuple3_kls, tuple3_tup, isi_2, typ_non, typ_bl, typ_int, typ_str, typ_tup, typ_lst, typ_kls, typ_obj, typok_ty, typok_ref, clsv_ty, clsv_ref, eqo3_obj, onlyb_bl, adl3_ll, all3_lst, List.set_cons_zero, List.set_cons_succ, List.getElem?_cons_zero, List.getElem?_cons_succ, List.map_cons, List.map_nil, List.length_cons, List.length_nil, if_true, if_false, reduceIte, reduceCtorEq, Option.map_some, Option.some.injEq, and_true, true_and, List.cons_append, List.nil_append, Nat.reduceAdd, Nat.reduceLeDiff, Nat.reduceEqDiff, exists_eq_left', exists_eq_left, exists_and_left, exists_eq_right, exists_and_right, exists_const, Bool.not_true, Bool.not_false, kt_NoneType_int, kt_NoneType_bool, kt_NoneType_str, kt_NoneType_tuple, kt_NoneType_list, kt_NoneType_dict, kt_bool_int, kt_bool_bool, kt_bool_str, kt_bool_tuple, kt_bool_list, kt_bool_dict, kt_int_int, kt_int_bool, kt_int_str, kt_int_tuple, kt_int_list, kt_int_dict, kt_str_int, kt_str_bool, kt_str_str, kt_str_tuple, kt_str_list, kt_str_dict, kt_tuple_int, kt_tuple_bool, kt_tuple_str, kt_tuple_tuple, kt_tuple_list, kt_tuple_dict, kt_list_int, kt_list_bool, kt_list_str, kt_list_tuple, kt_list_list, kt_list_dict, kt_dict_int, kt_dict_bool, kt_dict_str, kt_dict_tuple, kt_dict_list, kt_dict_dict]
    refine ⟨b, 2, rfl, hB, ⟨by decide, by decide⟩, fun k G5 h5 => ?_⟩
    have hB := h5.bag
    clear h5
    simp only [var3, con3, op3, un3, tst3, chain3, tru3, vno3, van3, vo3, not3, and3, or3, ite3, nil3, cons3, tup3, lst3, lsf3, nx3, seq3, brk3, cnt3, drop3, ret3, retn3, ifs3, set3, asg3, gn3, gnil3, gcons3, gtup3, for3, ilst3, itup3, irng1, irng2, call3, fld3, sfld3, meth3, make3, raise3, frz3, try3, wTry3, inSuite3, outOf3, xfld3, cb3, isx, bml3, isl, app3, gsub3, st3, dic3, prs3, dkeys, newl, finv, view3, lcg3, id, bag_c, bag_a, bag_r, bag_m, bag_n, bag_pa, bag_pr, bag_pm, bag_pn, bag_len, up_same, up_up, at3_0, at3_1, at3_2, toNat_2, Int.toNat_zero, Int.toNat_one, istru_bl, istru_int, istru_non, istru_tup, istru_lst, istru_kls, istru_str, add3_ii, add3_ss, add3_tt, sub3_ii, mul3_ii, fdv3_ii, mod3_ii, pow3_ii, neg3_i, eqn3_ii, eqn3_ss, eqn3_bb, eqn3_tup, eqn3_lst, eqn3_non, cmi3_ii, isn3_bb, isn3_nn, isn3_on, isn3_tn, isn3_in, isn3_sn, isn3_rn, isn3_ln, isn3_bn, ix3_lst, ix3_kls, ix3_tup, ix3_ri, ix3_rs, opt3_some, getf_obj, seqj_lst, seqj_kls, seqj_ref, tupj_tup, len3_lst, len3_kls, len3_tup, len3_str, len3_ref, int3_i, int3_b, abs3_i, str3_i, lisf3_lst, lisf3_kls, lisf3_tup, list3_lst, list3_kls, list3_tup, tuple3_lst, tuple3_kls, tuple3_tup, isi_2, typ_non, typ_bl, typ_int, typ_str, typ_tup, typ_lst, typ_kls, typ_obj, typok_ty, typok_ref, clsv_ty, clsv_ref, eqo3_obj, onlyb_bl, adl3_ll, all3_lst, List.set_cons_zero, List.set_cons_succ, List.getElem?_cons_zero, List.getElem?_cons_succ, List.map_cons, List.map_nil, List.length_cons, List.length_nil, if_true, if_false, reduceIte, reduceCtorEq, Option.map_some, Option.some.injEq, and_true, true_and, List.cons_append, List.nil_append, Nat.reduceAdd, Nat.reduceLeDiff, Nat.reduceEqDiff, exists_eq_left', exists_eq_left, exists_and_left, exists_eq_right, exists_and_right, exists_const, Bool.not_true, Bool.not_false, kt_NoneType_int, kt_NoneType_bool, kt_NoneType_str, kt_NoneType_tuple, kt_NoneType_list, kt_NoneType_dict, kt_bool_int, kt_bool_bool, kt_bool_str, kt_bool_tuple, kt_bool_list, kt_bool_dict, kt_int_int, kt_int_bool, kt_int_str, kt_int_tuple, kt_int_list, kt_int_dict, kt_str_int, kt_str_bool, kt_str_str, kt_str_tuple, kt_str_list, kt_str_dict, kt_tuple_int, kt_tuple_bool, kt_tuple_str, kt_tuple_tuple, kt_tuple_list, kt_tuple_dict, kt_list_int, kt_list_bool, kt_list_str, kt_list_tuple, kt_list_list, kt_list_dict, kt_dict_int, kt_dict_bool, kt_dict_str, kt_dict_tuple, kt_dict_list, kt_dict_dict]
    cases k with
    | false =>
      simp only [if_false, Bool.false_eq_true]
      exact ⟨_, _, SV.refl _ _, second _ _ _ _ hp2 hq2 hr2 hB⟩
    | true =>
      simp only [if_true]
      unfold rd_law_0
      simp only [var3, con3, op3, un3, tst3, chain3, tru3, vno3, van3, vo3, not3, and3, or3, ite3, nil3, cons3, tup3, lst3, lsf3, nx3, seq3, brk3, cnt3, drop3, ret3, retn3, ifs3, set3, asg3, gn3, gnil3, gcons3, gtup3, for3, ilst3, itup3, irng1, irng2, call3, fld3, sfld3, meth3, make3, raise3, frz3, try3, wTry3, inSuite3, outOf3, xfld3, cb3, isx, bml3, isl, app3, gsub3, st3, dic3, prs3, dkeys, newl, finv, view3, lcg3, id, bag_c, bag_a, bag_r, bag_m, bag_n, bag_pa, bag_pr, bag_pm, bag_pn, bag_len, up_same, up_up, at3_0, at3_1, at3_2, toNat_2, Int.toNat_zero, Int.toNat_one, istru_bl, istru_int, istru_non, istru_tup, istru_lst, istru_kls, istru_str, add3_ii, add3_ss, add3_tt, sub3_ii, mul3_ii, fdv3_ii, mod3_ii, pow3_ii, neg3_i, eqn3_ii, eqn3_ss, eqn3_bb, eqn3_tup, eqn3_lst, eqn3_non, cmi3_ii, isn3_bb, isn3_nn, isn3_on, isn3_tn, isn3_in, isn3_sn, isn3_rn, isn3_ln, isn3_bn, ix3_lst, ix3_kls, ix3_tup, ix3_ri, ix3_rs, opt3_some, getf_obj, seqj_lst, seqj_kls, seqj_ref, tupj_tup, len3_lst, len3_kls, len3_tup, len3_str, len3_ref, int3_i, int3_b, abs3_i, str3_i, lisf3_lst, lisf3_kls, lisf3_tup, list3_lst, list3_kls, list3_tup, tuple3_lst, tuple3_kls, tuple3_tup, isi_2, typ_non, typ_bl, typ_int, typ_str, typ_tup, typ_lst, typ_kls, typ_obj, typok_ty, typok_ref, clsv_ty, clsv_ref, eqo3_obj, onlyb_bl, adl3_ll, all3_lst, List.set_cons_zero, List.set_cons_succ, List.getElem?_cons_zero, List.getElem?_cons_succ, List.map_cons, List.map_nil, List.length_cons, List.length_nil, if_true, if_false, reduceIte, reduceCtorEq, Option.map_some, Option.some.injEq, and_true, true_and, List.cons_append, List.nil_append, Nat.reduceAdd, Nat.reduceLeDiff, Nat.reduceEqDiff, exists_eq_left', exists_eq_left, exists_and_left, exists_eq_right, exists_and_right, exists_const, Bool.not_true, Bool.not_false, kt_NoneType_int, kt_NoneType_bool, kt_NoneType_str, kt_NoneType_tuple, kt_NoneType_list, kt_NoneType_dict, kt_bool_int, kt_bool_bool, kt_bool_str, kt_bool_tuple, kt_bool_list, kt_bool_dict, kt_int_int, kt_int_bool, kt_int_str, kt_int_tuple, kt_int_list, kt_int_dict, kt_str_int, kt_str_bool, kt_str_str, kt_str_tuple, kt_str_list, kt_str_dict, kt_tuple_int, kt_tuple_bool, kt_tuple_str, kt_tuple_tuple, kt_tuple_list, kt_tuple_dict, kt_list_int, kt_list_bool, kt_list_str, kt_list_tuple, kt_list_list, kt_list_dict, kt_dict_int, kt_dict_bool, kt_dict_str, kt_dict_tuple, kt_dict_list, kt_dict_dict]
      intro p hp
      have ne := hB.ne hp
      unfold rd_law_1
      rcases hi with rfl | rfl | rfl <;>
      · simp only [var3, con3, op3, un3, tst3, chain3, tru3, vno3, van3, vo3, not3, and3, or3, ite3, nil3, cons3, tup3, lst3, lsf3, nx3, seq3, brk3, cnt3, drop3, ret3, retn3, ifs3, set3, asg3, gn3, gnil3, gcons3, gtup3, for3, ilst3, itup3, irng1, irng2, call3, fld3, sfld3, meth3, make3, raise3, frz3, try3, wTry3, inSuite3, outOf3, xfld3, cb3, isx, bml3, isl, app3, gsub3, st3, dic3, prs3, dkeys, newl, finv, view3, lcg3, id, bag_c, bag_a, bag_r, bag_m, bag_n, bag_pa, bag_pr, bag_pm, bag_pn, bag_len, up_same, up_up, at3_0, at3_1, at3_2, toNat_2, Int.toNat_zero, Int.toNat_one, istru_bl, istru_int, istru_non, istru_tup, istru_lst, istru_kls, istru_str, add3_ii, add3_ss, add3_tt, sub3_ii, mul3_ii, fdv3_ii, mod3_ii, pow3_ii, neg3_i, eqn3_ii, eqn3_ss, eqn3_bb, eqn3_tup, eqn3_lst, eqn3_non, cmi3_ii, isn3_bb, isn3_nn, isn3_on, isn3_tn, isn3_in, isn3_sn, isn3_rn, isn3_ln, isn3_bn, ix3_lst, ix3_kls, ix3_tup, ix3_ri, ix3_rs, opt3_some, getf_obj, seqj_lst, seqj_kls, seqj_ref, tupj_tup, len3_lst, len3_kls, len3_tup, len3_str, len3_ref, int3_i, int3_b, abs3_i, str3_i, lisf3_lst, lisf3_kls, lisf3_tup, list3_lst, list3_kls, list3_tup, tuple3_lst, tuple3_kls, tuple3_tup, isi_2, typ_non, typ_bl, typ_int, typ_str, typ_tup, typ_lst, typ_kls, typ_obj, typok_ty, typok_ref, clsv_ty, clsv_ref, eqo3_obj, onlyb_bl, adl3_ll, all3_lst, List.set_cons_zero, List.set_cons_succ, List.getElem?_cons_zero, List.getElem?_cons_succ, List.map_cons, List.map_nil, List.length_cons, List.length_nil, if_true, if_false, reduceIte, reduceCtorEq, Option.map_some, Option.some.injEq, and_true, true_and, List.cons_append, List.nil_append, Nat.reduceAdd, Nat.reduceLeDiff, Nat.reduceEqDiff, exists_eq_left', exists_eq_left, exists_and_left, exists_eq_right, exists_and_right, exists_const, Bool.not_true, Bool.not_false, kt_NoneType_int, kt_NoneType_bool, kt_NoneType_str, kt_NoneType_tuple, kt_NoneType_list, kt_NoneType_dict, kt_bool_int, kt_bool_bool, kt_bool_str, kt_bool_tuple, kt_bool_list, kt_bool_dict, kt_int_int, kt_int_bool, kt_int_str, kt_int_tuple, kt_int_list, kt_int_dict, kt_str_int, kt_str_bool, kt_str_str, kt_str_tuple, kt_str_list, kt_str_dict, kt_tuple_int, kt_tuple_bool, kt_tuple_str, kt_tuple_tuple, kt_tuple_list, kt_tuple_dict, kt_list_int, kt_list_bool, kt_list_str, kt_list_tuple, kt_list_list, kt_list_dict, kt_dict_int, kt_dict_bool, kt_dict_str, kt_dict_tuple, kt_dict_list, kt_dict_dict]
        refine ⟨b, 1000, rfl, hB.up ne, ⟨by decide, by decide⟩, fun r G6 hr h6 => ?_⟩
        have h6p := h6.at_ ne
        simp only [var3, con3, op3, un3, tst3, chain3, tru3, vno3, van3, vo3, not3, and3, or3, ite3, nil3, cons3, tup3, lst3, lsf3, nx3, seq3, brk3, cnt3, drop3, ret3, retn3, ifs3, set3, asg3, gn3, gnil3, gcons3, gtup3, for3, ilst3, itup3, irng1, irng2, call3, fld3, sfld3, meth3, make3, raise3, frz3, try3, wTry3, inSuite3, outOf3, xfld3, cb3, isx, bml3, isl, app3, gsub3, st3, dic3, prs3, dkeys, newl, finv, view3, lcg3, id, bag_c, bag_a, bag_r, bag_m, bag_n, bag_pa, bag_pr, bag_pm, bag_pn, bag_len, up_same, up_up, at3_0, at3_1, at3_2, toNat_2, Int.toNat_zero, Int.toNat_one, istru_bl, istru_int, istru_non, istru_tup, istru_lst, istru_kls, istru_str, add3_ii, add3_ss, add3_tt, sub3_ii, mul3_ii, fdv3_ii, mod3_ii, pow3_ii, neg3_i, eqn3_ii, eqn3_ss, eqn3_bb, eqn3_tup, eqn3_lst, eqn3_non, cmi3_ii, isn3_bb, isn3_nn, isn3_on, isn3_tn, isn3_in, isn3_sn, isn3_rn, isn3_ln, isn3_bn, ix3_lst, ix3_kls, ix3_tup, ix3_ri, ix3_rs, opt3_some, getf_obj, seqj_lst, seqj_kls, seqj_ref, tupj_tup, len3_lst, len3_kls, len3_tup, len3_str, len3_ref, int3_i, int3_b, abs3_i, str3_i, lisf3_lst, lisf3_kls, lisf3_tup, list3_lst, list3_kls, list3_tup, tuple3_lst, tuple3_kls, tuple3_tup, isi_2, typ_non, typ_bl, typ_int, typ_str, typ_tup, typ_lst, typ_kls, typ_obj, typok_ty, typok_ref, clsv_ty, clsv_ref, eqo3_obj, onlyb_bl, adl3_ll, all3_lst, List.set_cons_zero, List.set_cons_succ, List.getElem?_cons_zero, List.getElem?_cons_succ, List.map_cons, List.map_nil, List.length_cons, List.length_nil, if_true, if_false, reduceIte, reduceCtorEq, Option.map_some, Option.some.injEq, and_true, true_and, List.cons_append, List.nil_append, Nat.reduceAdd, Nat.reduceLeDiff, Nat.reduceEqDiff, exists_eq_left', exists_eq_left, exists_and_left, exists_eq_right, exists_and_right, exists_const, Bool.not_true, Bool.not_false, kt_NoneType_int, kt_NoneType_bool, kt_NoneType_str, kt_NoneType_tuple, kt_NoneType_list, kt_NoneType_dict, kt_bool_int, kt_bool_bool, kt_bool_str, kt_bool_tuple, kt_bool_list, kt_bool_dict, kt_int_int, kt_int_bool, kt_int_str, kt_int_tuple, kt_int_list, kt_int_dict, kt_str_int, kt_str_bool, kt_str_str, kt_str_tuple, kt_str_list, kt_str_dict, kt_tuple_int, kt_tuple_bool, kt_tuple_str, kt_tuple_tuple, kt_tuple_list, kt_tuple_dict, kt_list_int, kt_list_bool, kt_list_str, kt_list_tuple, kt_list_list, kt_list_dict, kt_dict_int, kt_dict_bool, kt_dict_str, kt_dict_tuple, kt_dict_list, kt_dict_dict, h6p]
        refine ⟨by decide, ⟨by decide, by decide⟩, _, _, SV.val (i := 3) rfl (View.lst up_same), ?_⟩
        refine second _ _ _ _ ?_ ?_ ?_ ((h6.bag.up ne).dn ne) <;> first | assumption | exact Pr.mod

end K52

namespace K52
open PySem PySem.Spec PyProof.Rows L2 T3

/-! ### what the top has written -/
theorem all_mk {P : Program} {w : World} {K : PySem.W.Frag} {h : Heap} {mg : Str → Option Value} {fa : Addr} (X : K.In h) (G : h.Ns mainGlobals mg) (hfa : mg "law" = some (.ref fa))
    {c_FallsError : Addr} {c_BadNumber : Addr} {c_BadPrices : Addr} {c_Prices : Addr} {f_BadNumberx_initx : Addr} {f_BadPricesx_initx : Addr} {f_is_integer : Addr} {f_Pricesx_initx : Addr} {f_Pricesx_eqx : Addr} {f_Prices_total : Addr} {f_bag : Addr} {f_pick : Addr} {f_choice : Addr} {f_one_in : Addr} {f_integer : Addr} {f_price : Addr} {f_prices : Addr} {f_many : Addr} {f_holds_prices : Addr} {f_sums_up : Addr} {f_refused : Addr} {f_caught : Addr} {f_bad : Addr} {f_law : Addr} {oc_BadNumberx_initx : Value} {kV_BadNumberx_initx : Value} {dc_BadNumberx_initx : Value} {pm_BadNumberx_initx : Value} {cd_BadNumberx_initx : Value} {ct_BadNumberx_initx : Value} {od_BadNumberx_initx : Option Addr} {an_BadNumberx_initx : Option Addr} {sl_BadNumberx_initx : Array (Option Value)} {oc_BadPricesx_initx : Value} {kV_BadPricesx_initx : Value} {dc_BadPricesx_initx : Value} {pm_BadPricesx_initx : Value} {cd_BadPricesx_initx : Value} {ct_BadPricesx_initx : Value} {od_BadPricesx_initx : Option Addr} {an_BadPricesx_initx : Option Addr} {sl_BadPricesx_initx : Array (Option Value)} {oc_is_integer : Value} {kV_is_integer : Value} {dc_is_integer : Value} {pm_is_integer : Value} {cd_is_integer : Value} {ct_is_integer : Value} {od_is_integer : Option Addr} {an_is_integer : Option Addr} {sl_is_integer : Array (Option Value)} {oc_Pricesx_initx : Value} {kV_Pricesx_initx : Value} {dc_Pricesx_initx : Value} {pm_Pricesx_initx : Value} {cd_Pricesx_initx : Value} {ct_Pricesx_initx : Value} {od_Pricesx_initx : Option Addr} {an_Pricesx_initx : Option Addr} {sl_Pricesx_initx : Array (Option Value)} {t_Pricesx_initx : Addr} {to_Pricesx_initx : Value} {td_Pricesx_initx : Option Addr} {ts_Pricesx_initx : Array (Option Value)} {tn_Pricesx_initx : Nat} {t0_Pricesx_initx : Tok} {t1_Pricesx_initx : Tok} {t2_Pricesx_initx : Tok} {oc_Pricesx_eqx : Value} {kV_Pricesx_eqx : Value} {dc_Pricesx_eqx : Value} {pm_Pricesx_eqx : Value} {cd_Pricesx_eqx : Value} {ct_Pricesx_eqx : Value} {od_Pricesx_eqx : Option Addr} {an_Pricesx_eqx : Option Addr} {sl_Pricesx_eqx : Array (Option Value)} {oc_Prices_total : Value} {kV_Prices_total : Value} {dc_Prices_total : Value} {pm_Prices_total : Value} {cd_Prices_total : Value} {ct_Prices_total : Value} {od_Prices_total : Option Addr} {an_Prices_total : Option Addr} {sl_Prices_total : Array (Option Value)} {oc_bag : Value} {kV_bag : Value} {dc_bag : Value} {pm_bag : Value} {cd_bag : Value} {ct_bag : Value} {od_bag : Option Addr} {an_bag : Option Addr} {sl_bag : Array (Option Value)} {oc_pick : Value} {kV_pick : Value} {dc_pick : Value} {pm_pick : Value} {cd_pick : Value} {ct_pick : Value} {od_pick : Option Addr} {an_pick : Option Addr} {sl_pick : Array (Option Value)} {oc_choice : Value} {kV_choice : Value} {dc_choice : Value} {pm_choice : Value} {cd_choice : Value} {ct_choice : Value} {od_choice : Option Addr} {an_choice : Option Addr} {sl_choice : Array (Option Value)} {oc_one_in : Value} {kV_one_in : Value} {dc_one_in : Value} {pm_one_in : Value} {cd_one_in : Value} {ct_one_in : Value} {od_one_in : Option Addr} {an_one_in : Option Addr} {sl_one_in : Array (Option Value)} {oc_integer : Value} {kV_integer : Value} {dc_integer : Value} {pm_integer : Value} {cd_integer : Value} {ct_integer : Value} {od_integer : Option Addr} {an_integer : Option Addr} {sl_integer : Array (Option Value)} {oc_price : Value} {kV_price : Value} {dc_price : Value} {pm_price : Value} {cd_price : Value} {ct_price : Value} {od_price : Option Addr} {an_price : Option Addr} {sl_price : Array (Option Value)} {oc_prices : Value} {kV_prices : Value} {dc_prices : Value} {pm_prices : Value} {cd_prices : Value} {ct_prices : Value} {od_prices : Option Addr} {an_prices : Option Addr} {sl_prices : Array (Option Value)} {oc_many : Value} {kV_many : Value} {dc_many : Value} {pm_many : Value} {cd_many : Value} {ct_many : Value} {od_many : Option Addr} {an_many : Option Addr} {sl_many : Array (Option Value)} {oc_holds_prices : Value} {kV_holds_prices : Value} {dc_holds_prices : Value} {pm_holds_prices : Value} {cd_holds_prices : Value} {ct_holds_prices : Value} {od_holds_prices : Option Addr} {an_holds_prices : Option Addr} {sl_holds_prices : Array (Option Value)} {oc_sums_up : Value} {kV_sums_up : Value} {dc_sums_up : Value} {pm_sums_up : Value} {cd_sums_up : Value} {ct_sums_up : Value} {od_sums_up : Option Addr} {an_sums_up : Option Addr} {sl_sums_up : Array (Option Value)} {oc_refused : Value} {kV_refused : Value} {dc_refused : Value} {pm_refused : Value} {cd_refused : Value} {ct_refused : Value} {od_refused : Option Addr} {an_refused : Option Addr} {sl_refused : Array (Option Value)} {oc_caught : Value} {kV_caught : Value} {dc_caught : Value} {pm_caught : Value} {cd_caught : Value} {ct_caught : Value} {od_caught : Option Addr} {an_caught : Option Addr} {sl_caught : Array (Option Value)} {oc_bad : Value} {kV_bad : Value} {dc_bad : Value} {pm_bad : Value} {cd_bad : Value} {ct_bad : Value} {od_bad : Option Addr} {an_bad : Option Addr} {sl_bad : Array (Option Value)} {oc_law : Value} {kV_law : Value} {dc_law : Value} {pm_law : Value} {cd_law : Value} {ct_law : Value} {od_law : Option Addr} {an_law : Option Addr} {sl_law : Array (Option Value)} {nmx_BadNumber : Str} {qx_BadNumber : Str} {Nx_BadNumber : Addr} {bsx_BadNumber : List Value} {snx_BadNumber : List Str} {subx_BadNumber : List Value} {abx_BadNumber : Bool} {colx_BadNumber : Option Bool} {ddx_BadNumber : Option Addr} {m0x_BadNumber : Option Value} {m1x_BadNumber : Option Value} {m2x_BadNumber : Option Value} {m3x_BadNumber : Option Value} {m5x_BadNumber : Option Value} {nmx_BadPrices : Str} {qx_BadPrices : Str} {Nx_BadPrices : Addr} {bsx_BadPrices : List Value} {snx_BadPrices : List Str} {subx_BadPrices : List Value} {abx_BadPrices : Bool} {colx_BadPrices : Option Bool} {ddx_BadPrices : Option Addr} {m0x_BadPrices : Option Value} {m1x_BadPrices : Option Value} {m2x_BadPrices : Option Value} {m3x_BadPrices : Option Value} {m5x_BadPrices : Option Value} {kt_HIGHEST : Tok}
    (aC_Prices : PySem.W.nsIn K mainGlobals "Prices" = some (some (.ref c_Prices)))
    (aC_FallsError : PySem.W.nsIn K mainGlobals "FallsError" = some (some (.ref c_FallsError)))
    (aC_BadNumber : PySem.W.nsIn K mainGlobals "BadNumber" = some (some (.ref c_BadNumber)))
    (aC_BadPrices : PySem.W.nsIn K mainGlobals "BadPrices" = some (some (.ref c_BadPrices)))
    (a_BadNumberx_initx : PySem.W.findIn K (.ref c_BadNumber) "__init__" = some (some (.ref f_BadNumberx_initx)))
    (i_BadNumberx_initx : PySem.W.isFn K (.ref f_BadNumberx_initx) = true)
    (l_BadNumberx_initx : K.lookup f_BadNumberx_initx = some ⟨oc_BadNumberx_initx, od_BadNumberx_initx, .func (PySem.W.fnOf "__init__" "BadNumber.__init__" (defArgs s_BadNumberx_initx) (defBody s_BadNumberx_initx) (defScope s_BadNumberx_initx) .none kV_BadNumberx_initx dc_BadNumberx_initx pm_BadNumberx_initx an_BadNumberx_initx cd_BadNumberx_initx ct_BadNumberx_initx), sl_BadNumberx_initx⟩)
    (k_BadNumberx_initx : PySem.W.keepIn K (.ref f_BadNumberx_initx) = true)
    (cc_BadNumberx_initx : PySem.W.codeIn K cd_BadNumberx_initx "BadNumber.__init__" = true)
    (a_BadPricesx_initx : PySem.W.findIn K (.ref c_BadPrices) "__init__" = some (some (.ref f_BadPricesx_initx)))
    (i_BadPricesx_initx : PySem.W.isFn K (.ref f_BadPricesx_initx) = true)
    (l_BadPricesx_initx : K.lookup f_BadPricesx_initx = some ⟨oc_BadPricesx_initx, od_BadPricesx_initx, .func (PySem.W.fnOf "__init__" "BadPrices.__init__" (defArgs s_BadPricesx_initx) (defBody s_BadPricesx_initx) (defScope s_BadPricesx_initx) .none kV_BadPricesx_initx dc_BadPricesx_initx pm_BadPricesx_initx an_BadPricesx_initx cd_BadPricesx_initx ct_BadPricesx_initx), sl_BadPricesx_initx⟩)
    (k_BadPricesx_initx : PySem.W.keepIn K (.ref f_BadPricesx_initx) = true)
    (cc_BadPricesx_initx : PySem.W.codeIn K cd_BadPricesx_initx "BadPrices.__init__" = true)
    (a_is_integer : PySem.W.nsIn K mainGlobals "is_integer" = some (some (.ref f_is_integer)))
    (l_is_integer : K.lookup f_is_integer = some ⟨oc_is_integer, od_is_integer, .func (PySem.W.fnOf "is_integer" "is_integer" (defArgs s_is_integer) (defBody s_is_integer) (defScope s_is_integer) .none kV_is_integer dc_is_integer pm_is_integer an_is_integer cd_is_integer ct_is_integer), sl_is_integer⟩)
    (k_is_integer : PySem.W.keepIn K (.ref f_is_integer) = true)
    (cc_is_integer : PySem.W.codeIn K cd_is_integer "is_integer" = true)
    (a_Pricesx_initx : PySem.W.findIn K (.ref c_Prices) "__init__" = some (some (.ref f_Pricesx_initx)))
    (i_Pricesx_initx : PySem.W.isFn K (.ref f_Pricesx_initx) = true)
    (l_Pricesx_initx : K.lookup f_Pricesx_initx = some ⟨oc_Pricesx_initx, od_Pricesx_initx, .func (PySem.W.fnOf "__init__" "Prices.__init__" (defArgs s_Pricesx_initx) (defBody s_Pricesx_initx) (defScope s_Pricesx_initx) (.ref t_Pricesx_initx) kV_Pricesx_initx dc_Pricesx_initx pm_Pricesx_initx an_Pricesx_initx cd_Pricesx_initx ct_Pricesx_initx), sl_Pricesx_initx⟩)
    (k_Pricesx_initx : PySem.W.keepIn K (.ref f_Pricesx_initx) = true)
    (cc_Pricesx_initx : PySem.W.codeIn K cd_Pricesx_initx "Prices.__init__" = true)
    (tl_Pricesx_initx : K.lookup t_Pricesx_initx = some ⟨to_Pricesx_initx, td_Pricesx_initx, .seq ([Value.int 1 t0_Pricesx_initx, Value.int 1 t1_Pricesx_initx, Value.int 2 t2_Pricesx_initx]).toArray tn_Pricesx_initx, ts_Pricesx_initx⟩)
    (a_Pricesx_eqx : PySem.W.findIn K (.ref c_Prices) "__eq__" = some (some (.ref f_Pricesx_eqx)))
    (i_Pricesx_eqx : PySem.W.isFn K (.ref f_Pricesx_eqx) = true)
    (l_Pricesx_eqx : K.lookup f_Pricesx_eqx = some ⟨oc_Pricesx_eqx, od_Pricesx_eqx, .func (PySem.W.fnOf "__eq__" "Prices.__eq__" (defArgs s_Pricesx_eqx) (defBody s_Pricesx_eqx) (defScope s_Pricesx_eqx) .none kV_Pricesx_eqx dc_Pricesx_eqx pm_Pricesx_eqx an_Pricesx_eqx cd_Pricesx_eqx ct_Pricesx_eqx), sl_Pricesx_eqx⟩)
    (k_Pricesx_eqx : PySem.W.keepIn K (.ref f_Pricesx_eqx) = true)
    (cc_Pricesx_eqx : PySem.W.codeIn K cd_Pricesx_eqx "Prices.__eq__" = true)
    (a_Prices_total : PySem.W.findIn K (.ref c_Prices) "total" = some (some (.ref f_Prices_total)))
    (i_Prices_total : PySem.W.isFn K (.ref f_Prices_total) = true)
    (l_Prices_total : K.lookup f_Prices_total = some ⟨oc_Prices_total, od_Prices_total, .func (PySem.W.fnOf "total" "Prices.total" (defArgs s_Prices_total) (defBody s_Prices_total) (defScope s_Prices_total) .none kV_Prices_total dc_Prices_total pm_Prices_total an_Prices_total cd_Prices_total ct_Prices_total), sl_Prices_total⟩)
    (k_Prices_total : PySem.W.keepIn K (.ref f_Prices_total) = true)
    (cc_Prices_total : PySem.W.codeIn K cd_Prices_total "Prices.total" = true)
    (a_bag : PySem.W.nsIn K mainGlobals "_law_bag" = some (some (.ref f_bag)))
    (l_bag : K.lookup f_bag = some ⟨oc_bag, od_bag, .func (PySem.W.fnOf "_law_bag" "_law_bag" (defArgs s_bag) (defBody s_bag) (defScope s_bag) .none kV_bag dc_bag pm_bag an_bag cd_bag ct_bag), sl_bag⟩)
    (k_bag : PySem.W.keepIn K (.ref f_bag) = true)
    (cc_bag : PySem.W.codeIn K cd_bag "_law_bag" = true)
    (a_pick : PySem.W.nsIn K mainGlobals "_law_pick" = some (some (.ref f_pick)))
    (l_pick : K.lookup f_pick = some ⟨oc_pick, od_pick, .func (PySem.W.fnOf "_law_pick" "_law_pick" (defArgs s_pick) (defBody s_pick) (defScope s_pick) .none kV_pick dc_pick pm_pick an_pick cd_pick ct_pick), sl_pick⟩)
    (k_pick : PySem.W.keepIn K (.ref f_pick) = true)
    (cc_pick : PySem.W.codeIn K cd_pick "_law_pick" = true)
    (a_choice : PySem.W.nsIn K mainGlobals "_law_choice" = some (some (.ref f_choice)))
    (l_choice : K.lookup f_choice = some ⟨oc_choice, od_choice, .func (PySem.W.fnOf "_law_choice" "_law_choice" (defArgs s_choice) (defBody s_choice) (defScope s_choice) .none kV_choice dc_choice pm_choice an_choice cd_choice ct_choice), sl_choice⟩)
    (k_choice : PySem.W.keepIn K (.ref f_choice) = true)
    (cc_choice : PySem.W.codeIn K cd_choice "_law_choice" = true)
    (a_one_in : PySem.W.nsIn K mainGlobals "_law_one_in" = some (some (.ref f_one_in)))
    (l_one_in : K.lookup f_one_in = some ⟨oc_one_in, od_one_in, .func (PySem.W.fnOf "_law_one_in" "_law_one_in" (defArgs s_one_in) (defBody s_one_in) (defScope s_one_in) .none kV_one_in dc_one_in pm_one_in an_one_in cd_one_in ct_one_in), sl_one_in⟩)
    (k_one_in : PySem.W.keepIn K (.ref f_one_in) = true)
    (cc_one_in : PySem.W.codeIn K cd_one_in "_law_one_in" = true)
    (a_integer : PySem.W.nsIn K mainGlobals "_law_integer" = some (some (.ref f_integer)))
    (l_integer : K.lookup f_integer = some ⟨oc_integer, od_integer, .func (PySem.W.fnOf "_law_integer" "_law_integer" (defArgs s_integer) (defBody s_integer) (defScope s_integer) .none kV_integer dc_integer pm_integer an_integer cd_integer ct_integer), sl_integer⟩)
    (k_integer : PySem.W.keepIn K (.ref f_integer) = true)
    (cc_integer : PySem.W.codeIn K cd_integer "_law_integer" = true)
    (a_price : PySem.W.nsIn K mainGlobals "_law_price" = some (some (.ref f_price)))
    (l_price : K.lookup f_price = some ⟨oc_price, od_price, .func (PySem.W.fnOf "_law_price" "_law_price" (defArgs s_price) (defBody s_price) (defScope s_price) .none kV_price dc_price pm_price an_price cd_price ct_price), sl_price⟩)
    (k_price : PySem.W.keepIn K (.ref f_price) = true)
    (cc_price : PySem.W.codeIn K cd_price "_law_price" = true)
    (a_prices : PySem.W.nsIn K mainGlobals "_law_prices" = some (some (.ref f_prices)))
    (l_prices : K.lookup f_prices = some ⟨oc_prices, od_prices, .func (PySem.W.fnOf "_law_prices" "_law_prices" (defArgs s_prices) (defBody s_prices) (defScope s_prices) .none kV_prices dc_prices pm_prices an_prices cd_prices ct_prices), sl_prices⟩)
    (k_prices : PySem.W.keepIn K (.ref f_prices) = true)
    (cc_prices : PySem.W.codeIn K cd_prices "_law_prices" = true)
    (a_many : PySem.W.nsIn K mainGlobals "_law_many" = some (some (.ref f_many)))
    (l_many : K.lookup f_many = some ⟨oc_many, od_many, .func (PySem.W.fnOf "_law_many" "_law_many" (defArgs s_many) (defBody s_many) (defScope s_many) .none kV_many dc_many pm_many an_many cd_many ct_many), sl_many⟩)
    (k_many : PySem.W.keepIn K (.ref f_many) = true)
    (cc_many : PySem.W.codeIn K cd_many "_law_many" = true)
    (a_holds_prices : PySem.W.nsIn K mainGlobals "_law_holds_prices" = some (some (.ref f_holds_prices)))
    (l_holds_prices : K.lookup f_holds_prices = some ⟨oc_holds_prices, od_holds_prices, .func (PySem.W.fnOf "_law_holds_prices" "_law_holds_prices" (defArgs s_holds_prices) (defBody s_holds_prices) (defScope s_holds_prices) .none kV_holds_prices dc_holds_prices pm_holds_prices an_holds_prices cd_holds_prices ct_holds_prices), sl_holds_prices⟩)
    (k_holds_prices : PySem.W.keepIn K (.ref f_holds_prices) = true)
    (cc_holds_prices : PySem.W.codeIn K cd_holds_prices "_law_holds_prices" = true)
    (a_sums_up : PySem.W.nsIn K mainGlobals "_law_sums_up" = some (some (.ref f_sums_up)))
    (l_sums_up : K.lookup f_sums_up = some ⟨oc_sums_up, od_sums_up, .func (PySem.W.fnOf "_law_sums_up" "_law_sums_up" (defArgs s_sums_up) (defBody s_sums_up) (defScope s_sums_up) .none kV_sums_up dc_sums_up pm_sums_up an_sums_up cd_sums_up ct_sums_up), sl_sums_up⟩)
    (k_sums_up : PySem.W.keepIn K (.ref f_sums_up) = true)
    (cc_sums_up : PySem.W.codeIn K cd_sums_up "_law_sums_up" = true)
    (a_refused : PySem.W.nsIn K mainGlobals "_law_refused" = some (some (.ref f_refused)))
    (l_refused : K.lookup f_refused = some ⟨oc_refused, od_refused, .func (PySem.W.fnOf "_law_refused" "_law_refused" (defArgs s_refused) (defBody s_refused) (defScope s_refused) .none kV_refused dc_refused pm_refused an_refused cd_refused ct_refused), sl_refused⟩)
    (k_refused : PySem.W.keepIn K (.ref f_refused) = true)
    (cc_refused : PySem.W.codeIn K cd_refused "_law_refused" = true)
    (a_caught : PySem.W.nsIn K mainGlobals "_law_caught" = some (some (.ref f_caught)))
    (l_caught : K.lookup f_caught = some ⟨oc_caught, od_caught, .func (PySem.W.fnOf "_law_caught" "_law_caught" (defArgs s_caught) (defBody s_caught) (defScope s_caught) .none kV_caught dc_caught pm_caught an_caught cd_caught ct_caught), sl_caught⟩)
    (k_caught : PySem.W.keepIn K (.ref f_caught) = true)
    (cc_caught : PySem.W.codeIn K cd_caught "_law_caught" = true)
    (a_bad : PySem.W.nsIn K mainGlobals "_law_bad" = some (some (.ref f_bad)))
    (l_bad : K.lookup f_bad = some ⟨oc_bad, od_bad, .func (PySem.W.fnOf "_law_bad" "_law_bad" (defArgs s_bad) (defBody s_bad) (defScope s_bad) .none kV_bad dc_bad pm_bad an_bad cd_bad ct_bad), sl_bad⟩)
    (k_bad : PySem.W.keepIn K (.ref f_bad) = true)
    (cc_bad : PySem.W.codeIn K cd_bad "_law_bad" = true)
    (a_law : PySem.W.nsIn K mainGlobals "law" = some (some (.ref f_law)))
    (l_law : K.lookup f_law = some ⟨oc_law, od_law, .func (PySem.W.fnOf "law" "law" (defArgs s_law) (defBody s_law) (defScope s_law) .none kV_law dc_law pm_law an_law cd_law ct_law), sl_law⟩)
    (k_law : PySem.W.keepIn K (.ref f_law) = true)
    (cc_law : PySem.W.codeIn K cd_law "law" = true)
    (pg_Prices : PySem.W.plainGet K c_Prices Str.empty = true)
    (hd_Prices : PySem.W.hasDictIn K c_Prices = true)
    (po_Prices : PySem.W.plainOver K c_Prices = true)
    (sa_Prices : PySem.W.findIn K (.ref c_Prices) "__setattr__" = some (some (.builtin "object.__setattr__")))
    (ha_Prices : PySem.W.findIn K (.ref c_Prices) "__class__" = some (some (.builtin "object.__class__")))
    (hn_Prices : PySem.W.specialIn K (.builtin "object.__class__") "__get__" = some (some (.builtin "getset_descriptor.__get__")))
    (ht_Prices : PySem.W.takesIn K (.builtin "object.__class__") = some true)
    (hm_Prices : PySem.W.mroIn K c_Prices (.type "object") = some true)
    (mk_Prices : PySem.W.makesIn K c_Prices = true)
    (kc_Prices : PySem.W.keepIn K (.ref c_Prices) = true)
    (na_Prices_restate : PySem.W.findIn K (.ref c_Prices) "restate" = some none)
    (na_Prices_reweigh : PySem.W.findIn K (.ref c_Prices) "reweigh" = some none)
    (na_Prices_exchange : PySem.W.findIn K (.ref c_Prices) "exchange" = some none)
    (ga_FallsError : PySem.W.findIn K (.ref c_FallsError) "__getattribute__" = some (some (.builtin "BaseException.__getattribute__")))
    (gg_FallsError : PySem.W.findIn K (.ref c_FallsError) "__getattr__" = some none)
    (eC_FallsError : PySem.W.subIn K (.ref c_FallsError) (.type "BaseException") = some true)
    (hd_FallsError : PySem.W.hasDictIn K c_FallsError = true)
    (ha_FallsError : PySem.W.findIn K (.ref c_FallsError) "__class__" = some (some (.builtin "object.__class__")))
    (hn_FallsError : PySem.W.specialIn K (.builtin "object.__class__") "__get__" = some (some (.builtin "getset_descriptor.__get__")))
    (ht_FallsError : PySem.W.takesIn K (.builtin "object.__class__") = some true)
    (hm_FallsError : PySem.W.mroIn K c_FallsError (.type "object") = some true)
    (ga_BadNumber : PySem.W.findIn K (.ref c_BadNumber) "__getattribute__" = some (some (.builtin "BaseException.__getattribute__")))
    (gg_BadNumber : PySem.W.findIn K (.ref c_BadNumber) "__getattr__" = some none)
    (eC_BadNumber : PySem.W.subIn K (.ref c_BadNumber) (.type "BaseException") = some true)
    (hd_BadNumber : PySem.W.hasDictIn K c_BadNumber = true)
    (ha_BadNumber : PySem.W.findIn K (.ref c_BadNumber) "__class__" = some (some (.builtin "object.__class__")))
    (hn_BadNumber : PySem.W.specialIn K (.builtin "object.__class__") "__get__" = some (some (.builtin "getset_descriptor.__get__")))
    (ht_BadNumber : PySem.W.takesIn K (.builtin "object.__class__") = some true)
    (hm_BadNumber : PySem.W.mroIn K c_BadNumber (.type "object") = some true)
    (xL_BadNumber : K.lookup c_BadNumber = some (excClassObj nmx_BadNumber qx_BadNumber c_BadNumber Nx_BadNumber bsx_BadNumber [.ref c_FallsError, .type "ValueError", .type "Exception", .type "BaseException", .type "object"] true snx_BadNumber subx_BadNumber abx_BadNumber colx_BadNumber ddx_BadNumber m0x_BadNumber m1x_BadNumber m2x_BadNumber m3x_BadNumber m5x_BadNumber "ValueError.__new__"))
    (sa_BadNumber : PySem.W.findIn K (.ref c_BadNumber) "__setattr__" = some (some (.builtin "object.__setattr__")))
    (tC_BadNumber : PySem.W.typeIn K (.ref c_BadNumber) = some (.type "type"))
    (kc_BadNumber : PySem.W.keepIn K (.ref c_BadNumber) = true)
    (no_BadNumber : PySem.W.findIn K (.ref c_BadNumber) "number" = some none)
    (ti_BadNumber : PySem.W.typeIn K (.ref f_BadNumberx_initx) = some (.type "function"))
    (ga_BadPrices : PySem.W.findIn K (.ref c_BadPrices) "__getattribute__" = some (some (.builtin "BaseException.__getattribute__")))
    (gg_BadPrices : PySem.W.findIn K (.ref c_BadPrices) "__getattr__" = some none)
    (eC_BadPrices : PySem.W.subIn K (.ref c_BadPrices) (.type "BaseException") = some true)
    (hd_BadPrices : PySem.W.hasDictIn K c_BadPrices = true)
    (ha_BadPrices : PySem.W.findIn K (.ref c_BadPrices) "__class__" = some (some (.builtin "object.__class__")))
    (hn_BadPrices : PySem.W.specialIn K (.builtin "object.__class__") "__get__" = some (some (.builtin "getset_descriptor.__get__")))
    (ht_BadPrices : PySem.W.takesIn K (.builtin "object.__class__") = some true)
    (hm_BadPrices : PySem.W.mroIn K c_BadPrices (.type "object") = some true)
    (xL_BadPrices : K.lookup c_BadPrices = some (excClassObj nmx_BadPrices qx_BadPrices c_BadPrices Nx_BadPrices bsx_BadPrices [.ref c_FallsError, .type "ValueError", .type "Exception", .type "BaseException", .type "object"] true snx_BadPrices subx_BadPrices abx_BadPrices colx_BadPrices ddx_BadPrices m0x_BadPrices m1x_BadPrices m2x_BadPrices m3x_BadPrices m5x_BadPrices "ValueError.__new__"))
    (sa_BadPrices : PySem.W.findIn K (.ref c_BadPrices) "__setattr__" = some (some (.builtin "object.__setattr__")))
    (tC_BadPrices : PySem.W.typeIn K (.ref c_BadPrices) = some (.type "type"))
    (kc_BadPrices : PySem.W.keepIn K (.ref c_BadPrices) = true)
    (no_BadPrices : PySem.W.findIn K (.ref c_BadPrices) "part" = some none)
    (ti_BadPrices : PySem.W.typeIn K (.ref f_BadPricesx_initx) = some (.type "function"))
    (z_ValueError : PySem.W.nsIn K mainGlobals "ValueError" = some none)
    (z_all : PySem.W.nsIn K mainGlobals "all" = some none)
    (z_bool : PySem.W.nsIn K mainGlobals "bool" = some none)
    (z_int : PySem.W.nsIn K mainGlobals "int" = some none)
    (z_isinstance : PySem.W.nsIn K mainGlobals "isinstance" = some none)
    (z_len : PySem.W.nsIn K mainGlobals "len" = some none)
    (z_list : PySem.W.nsIn K mainGlobals "list" = some none)
    (z_range : PySem.W.nsIn K mainGlobals "range" = some none)
    (z_tuple : PySem.W.nsIn K mainGlobals "tuple" = some none)
    (kk_HIGHEST : PySem.W.nsIn K mainGlobals "HIGHEST" = some (some (.int 1000 kt_HIGHEST)))
    (nf_Prices_Prices : PySem.W.notFirst K c_Prices (.ref c_Prices) = true)
    (nf_Prices_int : PySem.W.notFirst K c_Prices (.type "int") = true)
    (nf_Prices_tuple : PySem.W.notFirst K c_Prices (.type "tuple") = true)
    (nf_Prices_str : PySem.W.notFirst K c_Prices (.type "str") = true)
    (kit_int_Prices : PySem.W.kitOne K (.type "int") (.ref c_Prices) = some false)
    (kit_tuple_Prices : PySem.W.kitOne K (.type "tuple") (.ref c_Prices) = some false)
    (kit_Prices_Prices : PySem.W.kitOne K (.ref c_Prices) (.ref c_Prices) = some true)
    (kit_str_Prices : PySem.W.kitOne K (.type "str") (.ref c_Prices) = some false)
    (kit_BadPrices_FallsError : PySem.W.kitOne K (.ref c_BadPrices) (.ref c_FallsError) = some true)
    (kit_BadPrices_ValueError : PySem.W.kitOne K (.ref c_BadPrices) (.type "ValueError") = some true)
    (kit_BadPrices_BadNumber : PySem.W.kitOne K (.ref c_BadPrices) (.ref c_BadNumber) = some false)
    (exm_BadPrices_BadPrices : PySem.W.exmOne K (.ref c_BadPrices) (.ref c_BadPrices) = some true)
    (exm_BadPrices_FallsError : PySem.W.exmOne K (.ref c_BadPrices) (.ref c_FallsError) = some true) :
    ∃ fd : FuncData, (∀ (s : Shared) (u : Value), BindsTo s fd ⟨[u], []⟩ [("_law_script", u)]) ∧ ∀ base : Heap, K.In base → base.Ns mainGlobals mg → FnOk P w K mg base (L2.CX P w) 6 fa fd ["_law_script"] (lowSp K spLaw) := by
  have e := hfa.symm.trans (PySem.W.mg_of X G a_law)
  cases e
  have T : Txt K mg ⟨c_FallsError, c_BadNumber, c_BadPrices, c_Prices, f_BadNumberx_initx, f_BadPricesx_initx, f_is_integer, f_Pricesx_initx, f_Pricesx_eqx, f_Prices_total, f_bag, f_pick, f_choice, f_one_in, f_integer, f_price, f_prices, f_many, f_holds_prices, f_sums_up, f_refused, f_caught, f_bad, fa⟩ ⟨_, _, _, _, _, _, _, _, _, _, _, _, _, _, _, _, _, _, _, _⟩ :=
    { F_BadNumberx_initx := ⟨⟨_, _, _, _, _, _, _, _, _, _, rfl, l_BadNumberx_initx, cc_BadNumberx_initx, .inl ⟨rfl, rfl⟩, .inl rfl⟩, k_BadNumberx_initx⟩
      F_BadPricesx_initx := ⟨⟨_, _, _, _, _, _, _, _, _, _, rfl, l_BadPricesx_initx, cc_BadPricesx_initx, .inl ⟨rfl, rfl⟩, .inl rfl⟩, k_BadPricesx_initx⟩
      F_is_integer := ⟨⟨_, _, _, _, _, _, _, _, _, _, rfl, l_is_integer, cc_is_integer, .inl ⟨rfl, rfl⟩, .inl rfl⟩, k_is_integer⟩
      g_is_integer := PySem.W.mg_of X G a_is_integer
      F_Pricesx_initx := ⟨⟨_, _, _, _, _, _, _, _, _, _, rfl, l_Pricesx_initx, cc_Pricesx_initx, .inr ⟨by simp, t_Pricesx_initx, _, _, _, rfl, tl_Pricesx_initx, rfl, .cons ⟨_, rfl⟩ (.cons ⟨_, rfl⟩ (.cons ⟨_, rfl⟩ (.nil)))⟩, .inl rfl⟩, k_Pricesx_initx⟩
      F_Pricesx_eqx := ⟨⟨_, _, _, _, _, _, _, _, _, _, rfl, l_Pricesx_eqx, cc_Pricesx_eqx, .inl ⟨rfl, rfl⟩, .inl rfl⟩, k_Pricesx_eqx⟩
      F_Prices_total := ⟨⟨_, _, _, _, _, _, _, _, _, _, rfl, l_Prices_total, cc_Prices_total, .inl ⟨rfl, rfl⟩, .inl rfl⟩, k_Prices_total⟩
      F_bag := ⟨⟨_, _, _, _, _, _, _, _, _, _, rfl, l_bag, cc_bag, .inl ⟨rfl, rfl⟩, .inl rfl⟩, k_bag⟩
      g_bag := PySem.W.mg_of X G a_bag
      F_pick := ⟨⟨_, _, _, _, _, _, _, _, _, _, rfl, l_pick, cc_pick, .inl ⟨rfl, rfl⟩, .inl rfl⟩, k_pick⟩
      g_pick := PySem.W.mg_of X G a_pick
      F_choice := ⟨⟨_, _, _, _, _, _, _, _, _, _, rfl, l_choice, cc_choice, .inl ⟨rfl, rfl⟩, .inl rfl⟩, k_choice⟩
      g_choice := PySem.W.mg_of X G a_choice
      F_one_in := ⟨⟨_, _, _, _, _, _, _, _, _, _, rfl, l_one_in, cc_one_in, .inl ⟨rfl, rfl⟩, .inl rfl⟩, k_one_in⟩
      g_one_in := PySem.W.mg_of X G a_one_in
      F_integer := ⟨⟨_, _, _, _, _, _, _, _, _, _, rfl, l_integer, cc_integer, .inl ⟨rfl, rfl⟩, .inl rfl⟩, k_integer⟩
      g_integer := PySem.W.mg_of X G a_integer
      F_price := ⟨⟨_, _, _, _, _, _, _, _, _, _, rfl, l_price, cc_price, .inl ⟨rfl, rfl⟩, .inl rfl⟩, k_price⟩
      g_price := PySem.W.mg_of X G a_price
      F_prices := ⟨⟨_, _, _, _, _, _, _, _, _, _, rfl, l_prices, cc_prices, .inl ⟨rfl, rfl⟩, .inl rfl⟩, k_prices⟩
      g_prices := PySem.W.mg_of X G a_prices
      F_many := ⟨⟨_, _, _, _, _, _, _, _, _, _, rfl, l_many, cc_many, .inl ⟨rfl, rfl⟩, .inl rfl⟩, k_many⟩
      g_many := PySem.W.mg_of X G a_many
      F_holds_prices := ⟨⟨_, _, _, _, _, _, _, _, _, _, rfl, l_holds_prices, cc_holds_prices, .inl ⟨rfl, rfl⟩, .inl rfl⟩, k_holds_prices⟩
      g_holds_prices := PySem.W.mg_of X G a_holds_prices
      F_sums_up := ⟨⟨_, _, _, _, _, _, _, _, _, _, rfl, l_sums_up, cc_sums_up, .inl ⟨rfl, rfl⟩, .inl rfl⟩, k_sums_up⟩
      g_sums_up := PySem.W.mg_of X G a_sums_up
      F_refused := ⟨⟨_, _, _, _, _, _, _, _, _, _, rfl, l_refused, cc_refused, .inl ⟨rfl, rfl⟩, .inl rfl⟩, k_refused⟩
      g_refused := PySem.W.mg_of X G a_refused
      F_caught := ⟨⟨_, _, _, _, _, _, _, _, _, _, rfl, l_caught, cc_caught, .inl ⟨rfl, rfl⟩, .inl rfl⟩, k_caught⟩
      g_caught := PySem.W.mg_of X G a_caught
      F_bad := ⟨⟨_, _, _, _, _, _, _, _, _, _, rfl, l_bad, cc_bad, .inl ⟨rfl, rfl⟩, .inl rfl⟩, k_bad⟩
      g_bad := PySem.W.mg_of X G a_bad
      F_law := ⟨⟨_, _, _, _, _, _, _, _, _, _, rfl, l_law, cc_law, .inl ⟨rfl, rfl⟩, .inl rfl⟩, k_law⟩
      g_law := PySem.W.mg_of X G a_law
      cls_Prices := ⟨pg_Prices, hd_Prices, po_Prices, sa_Prices⟩
      g_Prices := PySem.W.mg_of X G aC_Prices
      ins_Prices := ⟨⟨pg_Prices, hd_Prices, po_Prices, sa_Prices⟩, ha_Prices, hn_Prices, ht_Prices, hm_Prices⟩
      mk_Prices := ⟨mk_Prices, a_Pricesx_initx, i_Pricesx_initx, kc_Prices⟩
      na_Prices_restate := na_Prices_restate
      na_Prices_reweigh := na_Prices_reweigh
      na_Prices_exchange := na_Prices_exchange
      me_Prices_total := ⟨a_Prices_total, i_Prices_total, k_Prices_total⟩
      eq_Prices := ⟨a_Pricesx_eqx, i_Pricesx_eqx, k_Pricesx_eqx⟩
      g_FallsError := PySem.W.mg_of X G aC_FallsError
      xe_FallsError := ⟨ga_FallsError, gg_FallsError, eC_FallsError, hd_FallsError, ha_FallsError, hn_FallsError, ht_FallsError, hm_FallsError⟩
      g_BadNumber := PySem.W.mg_of X G aC_BadNumber
      xe_BadNumber := ⟨ga_BadNumber, gg_BadNumber, eC_BadNumber, hd_BadNumber, ha_BadNumber, hn_BadNumber, ht_BadNumber, hm_BadNumber⟩
      oex_BadNumber := ⟨⟨nmx_BadNumber, qx_BadNumber, Nx_BadNumber, bsx_BadNumber, _, snx_BadNumber, subx_BadNumber, abx_BadNumber, colx_BadNumber, ddx_BadNumber, m0x_BadNumber, m1x_BadNumber, m2x_BadNumber, m3x_BadNumber, m5x_BadNumber, xL_BadNumber, by kernel_rfl⟩, sa_BadNumber, eC_BadNumber, tC_BadNumber, kc_BadNumber⟩
      iC_BadNumber := a_BadNumberx_initx
      tI_BadNumber := ti_BadNumber
      no_BadNumber := no_BadNumber
      xf_BadNumber := ⟨⟨ga_BadNumber, gg_BadNumber, eC_BadNumber, hd_BadNumber⟩, no_BadNumber⟩
      g_BadPrices := PySem.W.mg_of X G aC_BadPrices
      xe_BadPrices := ⟨ga_BadPrices, gg_BadPrices, eC_BadPrices, hd_BadPrices, ha_BadPrices, hn_BadPrices, ht_BadPrices, hm_BadPrices⟩
      oex_BadPrices := ⟨⟨nmx_BadPrices, qx_BadPrices, Nx_BadPrices, bsx_BadPrices, _, snx_BadPrices, subx_BadPrices, abx_BadPrices, colx_BadPrices, ddx_BadPrices, m0x_BadPrices, m1x_BadPrices, m2x_BadPrices, m3x_BadPrices, m5x_BadPrices, xL_BadPrices, by kernel_rfl⟩, sa_BadPrices, eC_BadPrices, tC_BadPrices, kc_BadPrices⟩
      iC_BadPrices := a_BadPricesx_initx
      tI_BadPrices := ti_BadPrices
      no_BadPrices := no_BadPrices
      xf_BadPrices := ⟨⟨ga_BadPrices, gg_BadPrices, eC_BadPrices, hd_BadPrices⟩, no_BadPrices⟩
      n_ValueError := PySem.W.mg_none_of X G z_ValueError
      n_all := PySem.W.mg_none_of X G z_all
      n_bool := PySem.W.mg_none_of X G z_bool
      n_int := PySem.W.mg_none_of X G z_int
      n_isinstance := PySem.W.mg_none_of X G z_isinstance
      n_len := PySem.W.mg_none_of X G z_len
      n_list := PySem.W.mg_none_of X G z_list
      n_range := PySem.W.mg_none_of X G z_range
      n_tuple := PySem.W.mg_none_of X G z_tuple
      k_HIGHEST := ⟨_, PySem.W.mg_of X G kk_HIGHEST⟩
      kit_int_Prices := kit_int_Prices
      kit_tuple_Prices := kit_tuple_Prices
      kit_Prices_Prices := kit_Prices_Prices
      kit_str_Prices := kit_str_Prices
      kit_BadPrices_FallsError := kit_BadPrices_FallsError
      kit_BadPrices_ValueError := kit_BadPrices_ValueError
      kit_BadPrices_BadNumber := kit_BadPrices_BadNumber
      exm_BadPrices_BadPrices := exm_BadPrices_BadPrices
      exm_BadPrices_FallsError := exm_BadPrices_FallsError
      nf_Prices_Prices := nf_Prices_Prices
      nf_Prices_int := nf_Prices_int
      nf_Prices_tuple := nf_Prices_tuple
      nf_Prices_str := nf_Prices_str }
  exact ⟨_, fun s u => .of_eq rfl, fun base _ _ => ok_law T⟩

end K52

namespace K52
open PySem PySem.Spec PyProof.Rows L2 T3

end K52
open PySem PySem.W PyProof.Rows in
set_option maxRecDepth 100000 in
set_option maxHeartbeats 0 in
theorem PySem.Challenge.cw_fallsunder_k52_prices_holds : PySem.Challenge.rw_fallsunder_k52_prices.Holds := by
  w_on; o_law; k_head; (case hw => w_witness2)
  k_fill
  refine L2.walk_of (l := PySem.Challenge.rw_fallsunder_k52_prices) (n := 63) (k := 6) (x := "_law_script") (CX := fun w => L2.CX PySem.Challenge.rw_fallsunder_k52_prices.prog w) (sp := fun w => T3.lowSp _ T3.spLaw) rfl (by decide) rfl ⟨rfl, by decide, by decide⟩ (fun w h Y => PySem.W.kIn_of Y) ?F (fun w H a ns hl _ hS => T3.law_end hl hS) (fun w H s e s' ⟨_, _, _, _, _, _, _, _, _, _, _, _, z⟩ => z)
  case F =>
    intro w mg fa h KX G hmg
    refine' K52.all_mk KX G hmg ?aC_Prices ?aC_FallsError ?aC_BadNumber ?aC_BadPrices ?a_BadNumberx_initx ?i_BadNumberx_initx ?l_BadNumberx_initx ?k_BadNumberx_initx ?cc_BadNumberx_initx ?a_BadPricesx_initx ?i_BadPricesx_initx ?l_BadPricesx_initx ?k_BadPricesx_initx ?cc_BadPricesx_initx ?a_is_integer ?l_is_integer ?k_is_integer ?cc_is_integer ?a_Pricesx_initx ?i_Pricesx_initx ?l_Pricesx_initx ?k_Pricesx_initx ?cc_Pricesx_initx ?tl_Pricesx_initx ?a_Pricesx_eqx ?i_Pricesx_eqx ?l_Pricesx_eqx ?k_Pricesx_eqx ?cc_Pricesx_eqx ?a_Prices_total ?i_Prices_total ?l_Prices_total ?k_Prices_total ?cc_Prices_total ?a_bag ?l_bag ?k_bag ?cc_bag ?a_pick ?l_pick ?k_pick ?cc_pick ?a_choice ?l_choice ?k_choice ?cc_choice ?a_one_in ?l_one_in ?k_one_in ?cc_one_in ?a_integer ?l_integer ?k_integer ?cc_integer ?a_price ?l_price ?k_price ?cc_price ?a_prices ?l_prices ?k_prices ?cc_prices ?a_many ?l_many ?k_many ?cc_many ?a_holds_prices ?l_holds_prices ?k_holds_prices ?cc_holds_prices ?a_sums_up ?l_sums_up ?k_sums_up ?cc_sums_up ?a_refused ?l_refused ?k_refused ?cc_refused ?a_caught ?l_caught ?k_caught ?cc_caught ?a_bad ?l_bad ?k_bad ?cc_bad ?a_law ?l_law ?k_law ?cc_law ?pg_Prices ?hd_Prices ?po_Prices ?sa_Prices ?ha_Prices ?hn_Prices ?ht_Prices ?hm_Prices ?mk_Prices ?kc_Prices ?na_Prices_restate ?na_Prices_reweigh ?na_Prices_exchange ?ga_FallsError ?gg_FallsError ?eC_FallsError ?hd_FallsError ?ha_FallsError ?hn_FallsError ?ht_FallsError ?hm_FallsError ?ga_BadNumber ?gg_BadNumber ?eC_BadNumber ?hd_BadNumber ?ha_BadNumber ?hn_BadNumber ?ht_BadNumber ?hm_BadNumber ?xL_BadNumber ?sa_BadNumber ?tC_BadNumber ?kc_BadNumber ?no_BadNumber ?ti_BadNumber ?ga_BadPrices ?gg_BadPrices ?eC_BadPrices ?hd_BadPrices ?ha_BadPrices ?hn_BadPrices ?ht_BadPrices ?hm_BadPrices ?xL_BadPrices ?sa_BadPrices ?tC_BadPrices ?kc_BadPrices ?no_BadPrices ?ti_BadPrices ?z_ValueError ?z_all ?z_bool ?z_int ?z_isinstance ?z_len ?z_list ?z_range ?z_tuple ?kk_HIGHEST ?nf_Prices_Prices ?nf_Prices_int ?nf_Prices_tuple ?nf_Prices_str ?kit_int_Prices ?kit_tuple_Prices ?kit_Prices_Prices ?kit_str_Prices ?kit_BadPrices_FallsError ?kit_BadPrices_ValueError ?kit_BadPrices_BadNumber ?exm_BadPrices_BadPrices ?exm_BadPrices_FallsError
    (case aC_Prices => k_is)
    (case aC_FallsError => k_is)
    (case aC_BadNumber => k_is)
    (case aC_BadPrices => k_is)
    (case a_BadNumberx_initx => k_is)
    (case i_BadNumberx_initx => k_is)
    (case l_BadNumberx_initx => k_is)
    (case k_BadNumberx_initx => k_is)
    (case cc_BadNumberx_initx => k_is)
    (case a_BadPricesx_initx => k_is)
    (case i_BadPricesx_initx => k_is)
    (case l_BadPricesx_initx => k_is)
    (case k_BadPricesx_initx => k_is)
    (case cc_BadPricesx_initx => k_is)
    (case a_is_integer => k_is)
    (case l_is_integer => k_is)
    (case k_is_integer => k_is)
    (case cc_is_integer => k_is)
    (case a_Pricesx_initx => k_is)
    (case i_Pricesx_initx => k_is)
    (case l_Pricesx_initx => k_is)
    (case k_Pricesx_initx => k_is)
    (case cc_Pricesx_initx => k_is)
    (case tl_Pricesx_initx => k_is)
    (case a_Pricesx_eqx => k_is)
    (case i_Pricesx_eqx => k_is)
    (case l_Pricesx_eqx => k_is)
    (case k_Pricesx_eqx => k_is)
    (case cc_Pricesx_eqx => k_is)
    (case a_Prices_total => k_is)
    (case i_Prices_total => k_is)
    (case l_Prices_total => k_is)
    (case k_Prices_total => k_is)
    (case cc_Prices_total => k_is)
    (case a_bag => k_is)
    (case l_bag => k_is)
    (case k_bag => k_is)
    (case cc_bag => k_is)
    (case a_pick => k_is)
    (case l_pick => k_is)
    (case k_pick => k_is)
    (case cc_pick => k_is)
    (case a_choice => k_is)
    (case l_choice => k_is)
    (case k_choice => k_is)
    (case cc_choice => k_is)
    (case a_one_in => k_is)
    (case l_one_in => k_is)
    (case k_one_in => k_is)
    (case cc_one_in => k_is)
    (case a_integer => k_is)
    (case l_integer => k_is)
    (case k_integer => k_is)
    (case cc_integer => k_is)
    (case a_price => k_is)
    (case l_price => k_is)
    (case k_price => k_is)
    (case cc_price => k_is)
    (case a_prices => k_is)
    (case l_prices => k_is)
    (case k_prices => k_is)
    (case cc_prices => k_is)
    (case a_many => k_is)
    (case l_many => k_is)
    (case k_many => k_is)
    (case cc_many => k_is)
    (case a_holds_prices => k_is)
    (case l_holds_prices => k_is)
    (case k_holds_prices => k_is)
    (case cc_holds_prices => k_is)
    (case a_sums_up => k_is)
    (case l_sums_up => k_is)
    (case k_sums_up => k_is)
    (case cc_sums_up => k_is)
    (case a_refused => k_is)
    (case l_refused => k_is)
    (case k_refused => k_is)
    (case cc_refused => k_is)
    (case a_caught => k_is)
    (case l_caught => k_is)
    (case k_caught => k_is)
    (case cc_caught => k_is)
    (case a_bad => k_is)
    (case l_bad => k_is)
    (case k_bad => k_is)
    (case cc_bad => k_is)
    (case a_law => k_is)
    (case l_law => k_is)
    (case k_law => k_is)
    (case cc_law => k_is)
    (case pg_Prices => k_is)
    (case hd_Prices => k_is)
    (case po_Prices => k_is)
    (case sa_Prices => k_is)
    (case ha_Prices => k_is)
    (case hn_Prices => k_is)
    (case ht_Prices => k_is)
    (case hm_Prices => k_is)
    (case mk_Prices => k_is)
    (case kc_Prices => k_is)
    (case na_Prices_restate => k_is)
    (case na_Prices_reweigh => k_is)
    (case na_Prices_exchange => k_is)
    (case ga_FallsError => k_is)
    (case gg_FallsError => k_is)
    (case eC_FallsError => k_is)
    (case hd_FallsError => k_is)
    (case ha_FallsError => k_is)
    (case hn_FallsError => k_is)
    (case ht_FallsError => k_is)
    (case hm_FallsError => k_is)
    (case ga_BadNumber => k_is)
    (case gg_BadNumber => k_is)
    (case eC_BadNumber => k_is)
    (case hd_BadNumber => k_is)
    (case ha_BadNumber => k_is)
    (case hn_BadNumber => k_is)
    (case ht_BadNumber => k_is)
    (case hm_BadNumber => k_is)
    (case xL_BadNumber => k_is)
    (case sa_BadNumber => k_is)
    (case tC_BadNumber => k_is)
    (case kc_BadNumber => k_is)
    (case no_BadNumber => k_is)
    (case ti_BadNumber => k_is)
    (case ga_BadPrices => k_is)
    (case gg_BadPrices => k_is)
    (case eC_BadPrices => k_is)
    (case hd_BadPrices => k_is)
    (case ha_BadPrices => k_is)
    (case hn_BadPrices => k_is)
    (case ht_BadPrices => k_is)
    (case hm_BadPrices => k_is)
    (case xL_BadPrices => k_is)
    (case sa_BadPrices => k_is)
    (case tC_BadPrices => k_is)
    (case kc_BadPrices => k_is)
    (case no_BadPrices => k_is)
    (case ti_BadPrices => k_is)
    (case z_ValueError => k_is)
    (case z_all => k_is)
    (case z_bool => k_is)
    (case z_int => k_is)
    (case z_isinstance => k_is)
    (case z_len => k_is)
    (case z_list => k_is)
    (case z_range => k_is)
    (case z_tuple => k_is)
    (case kk_HIGHEST => k_is)
    (case nf_Prices_Prices => k_is)
    (case nf_Prices_int => k_is)
    (case nf_Prices_tuple => k_is)
    (case nf_Prices_str => k_is)
    (case kit_int_Prices => kernel_rfl)
    (case kit_tuple_Prices => kernel_rfl)
    (case kit_Prices_Prices => kernel_rfl)
    (case kit_str_Prices => kernel_rfl)
    (case kit_BadPrices_FallsError => kernel_rfl)
    (case kit_BadPrices_ValueError => kernel_rfl)
    (case kit_BadPrices_BadNumber => kernel_rfl)
    (case exm_BadPrices_BadPrices => kernel_rfl)
    (case exm_BadPrices_FallsError => kernel_rfl)
