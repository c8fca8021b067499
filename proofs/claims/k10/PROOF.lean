import PyProof.Rows.All
import Wide.All
import OpenK.AllK
import Wide.FinOn
import HandS.ForMost
import HandS.Exc
import HandS.WordsExc
import HandS.Wide
import HandS.TupAny
import HandS.TupMul
import HandS.IsInst
import HandS.Style
import HandS.TupLe
import HandS.Deep
import HandS.Rev
import KE.LtData
import KE.DataEq
import PyProof.ListMulRoad
import PyProof.FactsAll.tuple_2
import PySem.Challenge.RW_spoolarms_k10_conjugators
set_option Elab.async false
set_option linter.all false
set_option maxRecDepth 100000
namespace MP
open PySem PySem.Spec PyProof.Rows L2

inductive D where
  | non | bl (b : Bool) | int (i : Int) | str (x : Str) | tup (ds : List D) | rol (ds : List D) | ref (n : Nat)
inductive O where
  | lst (ds : List D) | dct (kvs : List (D × D)) | set (ds : List D)
structure Xn where
  cls : Str
  fs : List (Str × D)
abbrev Sto := List O
abbrev Env := List (Option D)

def SqR (K : PySem.W.Frag) (H : Hp) (a : Addr) (xs : List V) : Prop :=
  (∃ o, H a = some (.frz o (.lst xs))) ∨
    ∃ (o : Obj) (its : Array Value) (n : Nat), K.lookup a = some o ∧ o.cls = .type "list" ∧ o.dict = none ∧ o.data = .seq its n ∧ its.size ≤ sizeLine ∧ Vals xs its.toList
theorem SqR.seq {K : PySem.W.Frag} {H : Hp} {a : Addr} {xs : List V} (h : SqR K H a xs) : SqL K H a xs := by
  rcases h with h | h
  · exact .inl (.inr h)
  · exact .inr h

/-! ### how data stands in a heap -/
mutual
inductive RV (K : PySem.W.Frag) (π : List Addr) (H : Hp) : D → V → Prop
  | non : RV K π H .non .non
  | bl (b : Bool) : RV K π H (.bl b) (.bl b)
  | int (i : Int) : RV K π H (.int i) (.int i)
  | str (x : Str) : RV K π H (.str x) (.str x)
  | tup {a : Addr} {xs : List V} {ds : List D} : SqT K H a xs → RVs K π H ds xs → RV K π H (.tup ds) (.ref a)
  | rol {a : Addr} {xs : List V} {ds : List D} : SqR K H a xs → RVs K π H ds xs → RV K π H (.rol ds) (.ref a)
  | ref {n : Nat} {a : Addr} : π[n]? = some a → RV K π H (.ref n) (.ref a)
inductive RVs (K : PySem.W.Frag) (π : List Addr) (H : Hp) : List D → List V → Prop
  | nil : RVs K π H [] []
  | cons {d : D} {v : V} {ds : List D} {vs : List V} : RV K π H d v → RVs K π H ds vs → RVs K π H (d :: ds) (v :: vs)
end

/-- what a later heap keeps of an earlier one: all but the mutable objects at π -/
structure Ext (π : List Addr) (H : Hp) (π' : List Addr) (H' : Hp) : Prop where
  pre : ∃ r, π' = π ++ r ∧ ∀ a ∈ r, H a = none
  tup : ∀ a xs, H a = some (.tup xs) → H' a = some (.tup xs)
  frz : ∀ a o u, H a = some (.frz o u) → H' a = some (.frz o u)
  oth : ∀ a o, H a = some o → a ∉ π → H' a = some o
  there : ∀ a, H' a = none → H a = none
theorem Ext.refl (π : List Addr) (H : Hp) : Ext π H π H :=
  ⟨⟨[], by simp⟩, fun _ _ h => h, fun _ _ _ h => h, fun _ _ h _ => h, fun _ h => h⟩
theorem Ext.trans {π π1 π2 : List Addr} {H H1 H2 : Hp} (a : Ext π H π1 H1) (b : Ext π1 H1 π2 H2) : Ext π H π2 H2 := by
  obtain ⟨r, e, hr⟩ := a.pre
  obtain ⟨r', e', hr'⟩ := b.pre
  refine ⟨⟨r ++ r', by rw [e', e, List.append_assoc], fun x hx => ?_⟩, fun x xs h => b.tup _ _ (a.tup _ _ h), fun x o u h => b.frz _ _ _ (a.frz _ _ _ h), fun x o h hn => ?_, fun x h => a.there _ (b.there _ h)⟩
  · rcases List.mem_append.mp hx with h | h
    · exact hr x h
    · exact a.there _ (hr' x h)
  · refine b.oth _ _ (a.oth _ _ h hn) ?_
    rw [e]
    intro hm
    rcases List.mem_append.mp hm with z | z
    · exact hn z
    · rw [hr x z] at h
      cases h
/-- what data leans on: places, tuples, frozen lists -/
structure Kp (π : List Addr) (H : Hp) (π' : List Addr) (H' : Hp) : Prop where
  pre : ∃ r, π' = π ++ r
  tup : ∀ a xs, H a = some (.tup xs) → H' a = some (.tup xs)
  frz : ∀ a o u, H a = some (.frz o u) → H' a = some (.frz o u)
theorem Ext.kp {π π' : List Addr} {H H' : Hp} (e : Ext π H π' H') : Kp π H π' H' := ⟨let ⟨r, h, _⟩ := e.pre; ⟨r, h⟩, e.tup, e.frz⟩
theorem Kp.get {π π' : List Addr} {H H' : Hp} (e : Kp π H π' H') {n : Nat} {a : Addr} (h : π[n]? = some a) : π'[n]? = some a := by
  obtain ⟨r, e1⟩ := e.pre
  rw [e1, List.getElem?_append_left (List.getElem?_eq_some_iff.mp h).1, h]
theorem Kp.sqt {K : PySem.W.Frag} {π π' : List Addr} {H H' : Hp} {a : Addr} {xs : List V} (e : Kp π H π' H') (h : SqT K H a xs) : SqT K H' a xs := by
  rcases h with (h | ⟨o, h⟩) | h
  · exact .inl (.inl (e.tup _ _ h))
  · exact .inl (.inr ⟨o, e.frz _ _ _ h⟩)
  · exact .inr h
theorem Kp.sqr {K : PySem.W.Frag} {π π' : List Addr} {H H' : Hp} {a : Addr} {xs : List V} (e : Kp π H π' H') (h : SqR K H a xs) : SqR K H' a xs := by
  rcases h with ⟨o, h⟩ | h
  · exact .inl ⟨o, e.frz _ _ _ h⟩
  · exact .inr h
theorem Ext.get {π π' : List Addr} {H H' : Hp} (e : Ext π H π' H') {n : Nat} {a : Addr} (h : π[n]? = some a) : π'[n]? = some a := e.kp.get h
theorem Ext.sqt {K : PySem.W.Frag} {π π' : List Addr} {H H' : Hp} {a : Addr} {xs : List V} (e : Ext π H π' H') (h : SqT K H a xs) : SqT K H' a xs := e.kp.sqt h
theorem Ext.sqr {K : PySem.W.Frag} {π π' : List Addr} {H H' : Hp} {a : Addr} {xs : List V} (e : Ext π H π' H') (h : SqR K H a xs) : SqR K H' a xs := e.kp.sqr h
section
variable {K : PySem.W.Frag} {π π' : List Addr} {H H' : Hp}
mutual
theorem RV.kp (e : Kp π H π' H') : ∀ {d : D} {v : V}, RV K π H d v → RV K π' H' d v
  | _, _, .non => .non
  | _, _, .bl b => .bl b
  | _, _, .int i => .int i
  | _, _, .str x => .str x
  | _, _, .tup h hs => .tup (e.sqt h) (RVs.kp e hs)
  | _, _, .rol h hs => .rol (e.sqr h) (RVs.kp e hs)
  | _, _, .ref h => .ref (e.get h)
theorem RVs.kp (e : Kp π H π' H') : ∀ {ds : List D} {vs : List V}, RVs K π H ds vs → RVs K π' H' ds vs
  | _, _, .nil => .nil
  | _, _, .cons h t => .cons (RV.kp e h) (RVs.kp e t)
end
theorem RV.ext (e : Ext π H π' H') {d : D} {v : V} (h : RV K π H d v) : RV K π' H' d v := h.kp e.kp
theorem RVs.ext (e : Ext π H π' H') {ds : List D} {vs : List V} (h : RVs K π H ds vs) : RVs K π' H' ds vs := h.kp e.kp
theorem RVs.length : ∀ {ds : List D} {vs : List V}, RVs K π H ds vs → ds.length = vs.length
  | _, _, .nil => rfl
  | _, _, .cons _ t => by simp [RVs.length t]
theorem RVs.append : ∀ {ds es : List D} {vs ws : List V}, RVs K π H ds vs → RVs K π H es ws → RVs K π H (ds ++ es) (vs ++ ws)
  | _, _, _, _, .nil, s => s
  | _, _, _, _, .cons r t, s => .cons r (RVs.append t s)
theorem RVs.get : ∀ {ds : List D} {vs : List V} {i : Nat} {d : D}, RVs K π H ds vs → ds[i]? = some d → ∃ v, vs[i]? = some v ∧ RV K π H d v
  | _, _, _, _, .nil, e => by simp at e
  | _, _, 0, _, .cons r _, e => by simp at e; subst e; exact ⟨_, rfl, r⟩
  | _, _, i + 1, d, .cons _ t, e => by
    obtain ⟨v, h1, h2⟩ := RVs.get (i := i) (d := d) t (by simpa using e)
    exact ⟨v, by simpa using h1, h2⟩
theorem RVs.getV : ∀ {ds : List D} {vs : List V} {i : Nat} {v : V}, RVs K π H ds vs → vs[i]? = some v → ∃ d, ds[i]? = some d ∧ RV K π H d v
  | _, _, _, _, .nil, e => by simp at e
  | _, _, 0, _, .cons r _, e => by simp at e; subst e; exact ⟨_, rfl, r⟩
  | _, _, i + 1, v, .cons _ t, e => by
    obtain ⟨d, h1, h2⟩ := RVs.getV (i := i) (v := v) t (by simpa using e)
    exact ⟨d, by simpa using h1, h2⟩
theorem RVs.take : ∀ {ds : List D} {vs : List V} (n : Nat), RVs K π H ds vs → RVs K π H (ds.take n) (vs.take n)
  | _, _, 0, _ => by simpa using .nil
  | _, _, _ + 1, .nil => by simpa using .nil
  | _, _, n + 1, .cons r t => by simpa using .cons r (RVs.take n t)
theorem RVs.drop : ∀ {ds : List D} {vs : List V} (n : Nat), RVs K π H ds vs → RVs K π H (ds.drop n) (vs.drop n)
  | _, _, 0, h => by simpa using h
  | _, _, _ + 1, .nil => by simpa using .nil
  | _, _, n + 1, .cons r t => by simpa using RVs.drop n t
theorem RVs.set {d : D} {v : V} (r : RV K π H d v) : ∀ {ds : List D} {vs : List V} (i : Nat), RVs K π H ds vs → RVs K π H (ds.set i d) (vs.set i v)
  | _, _, _, .nil => by simpa using .nil
  | _, _, 0, .cons _ t => by simpa using .cons r t
  | _, _, i + 1, .cons q t => by simpa using .cons q (RVs.set r i t)
theorem RVs.snoc {ds : List D} {vs : List V} {d : D} {v : V} (h : RVs K π H ds vs) (r : RV K π H d v) : RVs K π H (ds ++ [d]) (vs ++ [v]) := h.append (.cons r .nil)
theorem RVs.dropLast {ds : List D} {vs : List V} (h : RVs K π H ds vs) : RVs K π H ds.dropLast vs.dropLast := by
  rw [List.dropLast_eq_take, List.dropLast_eq_take, ← h.length]
  exact h.take _
theorem RVs.reverse : ∀ {ds : List D} {vs : List V}, RVs K π H ds vs → RVs K π H ds.reverse vs.reverse
  | _, _, .nil => by simpa using .nil
  | _, _, .cons r t => by simpa using (RVs.reverse t).append (.cons r .nil)
theorem RVs.rep {ds : List D} {vs : List V} (h : RVs K π H ds vs) : ∀ k : Nat, RVs K π H (List.replicate k ds).flatten (List.replicate k vs).flatten
  | 0 => .nil
  | k + 1 => by
    rw [List.replicate_succ, List.replicate_succ, List.flatten_cons, List.flatten_cons]
    exact h.append (RVs.rep h k)
end

inductive RO (K : PySem.W.Frag) (π : List Addr) (H : Hp) : O → HO → Prop
  | lst {ds : List D} {xs : List V} : RVs K π H ds xs → RO K π H (.lst ds) (.lst xs)
theorem RO.kp {K : PySem.W.Frag} {π π' : List Addr} {H H' : Hp} (e : Kp π H π' H') {o : O} {u : HO} : RO K π H o u → RO K π' H' o u
  | .lst h => .lst (h.kp e)
theorem RO.ext {K : PySem.W.Frag} {π π' : List Addr} {H H' : Hp} (e : Ext π H π' H') {o : O} {u : HO} (h : RO K π H o u) : RO K π' H' o u := h.kp e.kp
theorem RO.mut {K : PySem.W.Frag} {π : List Addr} {H : Hp} {o : O} {u : HO} : RO K π H o u → (∀ xs, u ≠ .tup xs) ∧ ∀ ob w, u ≠ .frz ob w
  | .lst _ => ⟨fun _ z => (nomatch z), fun _ _ z => (nomatch z)⟩

structure RelS (K : PySem.W.Frag) (π : List Addr) (S : Sto) (H : Hp) : Prop where
  len : π.length = S.length
  nd : π.Nodup
  obj : ∀ (n : Nat) (o : O), S[n]? = some o → ∃ a u, π[n]? = some a ∧ H a = some u ∧ RO K π H o u
section
variable {K : PySem.W.Frag} {π π' : List Addr} {H H' : Hp} {S S' : Sto}
theorem RelS.lstAt (r : RelS K π S H) {n : Nat} {ds : List D} (h : S[n]? = some (.lst ds)) : ∃ a xs, π[n]? = some a ∧ H a = some (.lst xs) ∧ RVs K π H ds xs := by
  obtain ⟨a, u, h1, h2, h3⟩ := r.obj n _ h
  cases h3 with
  | lst h3 => exact ⟨a, _, h1, h2, h3⟩
theorem RelS.of_ref (r : RelS K π S H) {n : Nat} {a b : Addr} (h : π[n]? = some a) (h' : π[n]? = some b) : a = b := Option.some.inj (h.symm.trans h')
theorem ix_of_nodup {l : List Addr} (hN : l.Nodup) {i j : Nat} {x : Addr} (a : l[i]? = some x) (b : l[j]? = some x) : i = j := by
  obtain ⟨h1, e1⟩ := List.getElem?_eq_some_iff.mp a
  obtain ⟨h2, e2⟩ := List.getElem?_eq_some_iff.mp b
  exact (List.getElem_inj hN).mp (e1.trans e2.symm)
/-- tracked objects are at π -/
theorem RelS.at (r : RelS K π S H) {a : Addr} (h : a ∈ π) : ∃ (n : Nat) (o : O) (u : HO), π[n]? = some a ∧ S[n]? = some o ∧ H a = some u ∧ RO K π H o u := by
  obtain ⟨n, hn, e⟩ := List.getElem_of_mem h
  have hn' : n < S.length := by rw [← r.len]; exact hn
  obtain ⟨b, u, h1, h2, h3⟩ := r.obj n _ (List.getElem?_eq_getElem hn')
  have e2 : π[n]? = some a := by rw [List.getElem?_eq_getElem hn, e]
  have : b = a := Option.some.inj (h1.symm.trans e2)
  subst this
  exact ⟨n, _, u, e2, List.getElem?_eq_getElem hn', h2, h3⟩
/-- a new object, not of the store -/
theorem Ext.newFree {p : Addr} {o : HO} (hp : H p = none) : Ext π H π (upd H p o) :=
  ⟨⟨[], by simp⟩, fun _ _ h => by rw [upd_ne (ne_of_none h hp)]; exact h, fun _ _ _ h => by rw [upd_ne (ne_of_none h hp)]; exact h, fun _ _ h _ => by rw [upd_ne (ne_of_none h hp)]; exact h, fun a h => by
    by_cases e : a = p
    · rw [e]; exact hp
    · rw [upd_ne e] at h; exact h⟩
theorem RelS.newFree (r : RelS K π S H) {p : Addr} {o : HO} (hp : H p = none) : RelS K π S (upd H p o) :=
  ⟨r.len, r.nd, fun n ob h => by
    obtain ⟨a, u, h1, h2, h3⟩ := r.obj n ob h
    exact ⟨a, u, h1, by rw [upd_ne (ne_of_none h2 hp)]; exact h2, h3.ext (Ext.newFree hp)⟩⟩
/-- a new object of the store -/
theorem Ext.new {p : Addr} {o : HO} (hp : H p = none) : Ext π H (π ++ [p]) (upd H p o) :=
  let z := Ext.newFree (π := π) (o := o) hp
  ⟨⟨[p], rfl, fun a h => by simp at h; rw [h]; exact hp⟩, z.tup, z.frz, z.oth, z.there⟩
theorem RelS.new (r : RelS K π S H) {p : Addr} {o : O} {u : HO} (hp : H p = none) (h : RO K π H o u) : RelS K (π ++ [p]) (S ++ [o]) (upd H p u) := by
  have nm : p ∉ π := fun z => by
    obtain ⟨n, o, u, _, _, h, _⟩ := r.at z
    rw [hp] at h
    cases h
  refine ⟨by simp [r.len], ?_, fun n ob hn => ?_⟩
  · rw [List.nodup_append]
    refine ⟨r.nd, by simp, fun a ha b hb => ?_⟩
    simp at hb
    subst hb
    exact fun e => nm (e ▸ ha)
  · by_cases hl : n < S.length
    · rw [List.getElem?_append_left hl] at hn
      obtain ⟨a, w, h1, h2, h3⟩ := r.obj n ob hn
      exact ⟨a, w, (Ext.new (o := u) hp).get h1, by rw [upd_ne (ne_of_none h2 hp)]; exact h2, h3.ext (Ext.new hp)⟩
    · rw [List.getElem?_append_right (by omega)] at hn
      have e0 : n - S.length = 0 := by
        cases e : n - S.length with
        | zero => rfl
        | succ k => rw [e] at hn; simp at hn
      have en : n = π.length := by rw [r.len]; omega
      rw [e0] at hn
      simp at hn
      subst hn
      refine ⟨p, u, by rw [en, List.getElem?_append_right (Nat.le_refl _)]; simp, upd_same, h.ext (Ext.new hp)⟩
/-- an object of the store is changed -/
theorem Ext.write {n : Nat} {a : Addr} {o u : HO} (h : π[n]? = some a) (ho : H a = some o) (nt : ∀ xs, o ≠ .tup xs) (nf : ∀ ob w, o ≠ .frz ob w) : Ext π H π (upd H a u) := by
  have hm : a ∈ π := List.mem_of_getElem? h
  refine ⟨⟨[], by simp⟩, fun b xs h' => ?_, fun b ob w h' => ?_, fun b w h' hb => ?_, fun b h' => ?_⟩
  · rw [upd_ne]; exact h'
    rintro rfl
    rw [ho] at h'
    exact nt xs (Option.some.inj h')
  · rw [upd_ne]; exact h'
    rintro rfl
    rw [ho] at h'
    exact nf ob w (Option.some.inj h')
  · rw [upd_ne]; exact h'
    rintro rfl
    exact hb hm
  · by_cases e : b = a
    · rw [e, upd_same] at h'; cases h'
    · rw [upd_ne e] at h'; exact h'
theorem RelS.write (r : RelS K π S H) {n : Nat} {a : Addr} {o : O} {w u : HO} (h : π[n]? = some a) (ho : H a = some w) (nt : ∀ xs, w ≠ .tup xs) (nf : ∀ ob x, w ≠ .frz ob x) (hu : RO K π H o u) : RelS K π (S.set n o) (upd H a u) := by
  have e := Ext.write (u := u) h ho nt nf
  refine ⟨by simp [r.len], r.nd, fun m ob hm => ?_⟩
  by_cases hmn : m = n
  · subst hmn
    have hl : m < S.length := by
      have := (List.getElem?_eq_some_iff.mp hm).1
      simpa using this
    rw [List.getElem?_set_self hl] at hm
    cases hm
    exact ⟨a, u, h, upd_same, hu.ext e⟩
  · rw [List.getElem?_set_ne (Ne.symm hmn)] at hm
    obtain ⟨b, x, h1, h2, h3⟩ := r.obj m ob hm
    have hb : b ≠ a := fun z => hmn (ix_of_nodup r.nd h1 (z ▸ h))
    exact ⟨b, x, h1, by rw [upd_ne hb]; exact h2, h3.ext e⟩
end

/-! ### the frame's names -/
structure RE (K : PySem.W.Frag) (π : List Addr) (H : Hp) (ρ : Env) (σ : L2.St) : Prop where
  len : ρ.length = σ.length
  get : ∀ (i : Nat) (d : D), ρ[i]? = some (some d) → ∃ v, σ[i]? = some (some v) ∧ RV K π H d v
section
variable {K : PySem.W.Frag} {π π' : List Addr} {H H' : Hp} {ρ : Env} {σ : L2.St}
theorem RE.ext (r : RE K π H ρ σ) (e : Ext π H π' H') : RE K π' H' ρ σ := ⟨r.len, fun i d h => let ⟨v, a, b⟩ := r.get i d h; ⟨v, a, b.ext e⟩⟩
theorem RE.set (r : RE K π H ρ σ) {i : Nat} {d : D} {v : V} (h : RV K π H d v) : RE K π H (ρ.set i (some d)) (σ.set i (some v)) := by
  refine ⟨by simp [r.len], fun j d' hj => ?_⟩
  by_cases e : j = i
  · subst e
    have hl : j < ρ.length := by
      have := (List.getElem?_eq_some_iff.mp hj).1
      simpa using this
    rw [List.getElem?_set_self hl] at hj
    cases hj
    exact ⟨v, by rw [List.getElem?_set_self (by rw [← r.len]; exact hl)], h⟩
  · rw [List.getElem?_set_ne (Ne.symm e)] at hj
    rw [List.getElem?_set_ne (Ne.symm e)]
    exact r.get j d' hj
end
end MP

namespace MP
open PySem PySem.Spec PyProof.Rows L2

/-! ### the judgements -/
def RX (mg : Str → Option Value) (K : PySem.W.Frag) (π : List Addr) (H : Hp) (x : Xn) (C : Value) (dx : Option Addr) : Prop :=
  ∃ a, mg x.cls = some (.ref a) ∧ C = .ref a ∧ ((dx = none ∧ x.fs = []) ∨ ∃ d vs, dx = some d ∧ H d = some (.xd vs) ∧ vs.map (·.1) = x.fs.map (·.1) ∧ RVs K π H (x.fs.map (·.2)) (vs.map (·.2)))
abbrev XW := Xn → Sto → Prop
def WOk (mg : Str → Option Value) (K : PySem.W.Frag) (E : XK) (W : XW) (π : List Addr) (H : Hp) : Prop :=
  ∀ x S', W x S' → ∀ π' H' C dx, RelS K π' S' H' → Ext π H π' H' → RX mg K π' H' x C dx → E C dx H'
theorem WOk.ext {mg : Str → Option Value} {K : PySem.W.Frag} {E : XK} {W : XW} {π π' : List Addr} {H H' : Hp} (w : WOk mg K E W π H) (e : Ext π H π' H') : WOk mg K E W π' H' :=
  fun x S' h π2 H2 C dx r e2 rx => w x S' h π2 H2 C dx r (e.trans e2) rx
theorem WOk.never {mg : Str → Option Value} {K : PySem.W.Frag} {E : XK} {π : List Addr} {H : Hp} : WOk mg K E (fun _ _ => False) π H := fun _ _ h => h.elim
abbrev Post := D → Sto → Prop
/-- two ways -/
def Br (k : Bool) (A B : Prop) : Prop := (k = true → A) ∧ (k = false → B)
theorem br_t {A B : Prop} (h : A) : Br true A B := ⟨fun _ => h, fun z => Bool.noConfusion z⟩
theorem br_f {A B : Prop} (h : B) : Br false A B := ⟨fun z => Bool.noConfusion z, fun _ => h⟩
abbrev ME := XW → Env → Sto → Post → Prop
abbrev MT := XW → Env → Sto → (Bool → Sto → Prop) → Prop
abbrev MA := XW → Env → Sto → (List D → Sto → Prop) → Prop
structure ES where
  nx : Env → Sto → Prop
  rt : Post
  bk : Env → Sto → Prop := fun _ _ => False
  ct : Env → Sto → Prop := fun _ _ => False
abbrev MS := XW → ES → Env → Sto → Prop
def After (K : PySem.W.Frag) (π : List Addr) (H : Hp) (R : Post) (Q : VK) : Prop := ∀ d S', R d S' → ∀ v π' H', RelS K π' S' H' → RV K π' H' d v → Ext π H π' H' → Q v H'
def AfterT (K : PySem.W.Frag) (π : List Addr) (H : Hp) (R : Bool → Sto → Prop) (Q : Bool → Hp → Prop) : Prop := ∀ b S', R b S' → ∀ π' H', RelS K π' S' H' → Ext π H π' H' → Q b H'
def AfterA (K : PySem.W.Frag) (π : List Addr) (H : Hp) (R : List D → Sto → Prop) (Q : List V → Hp → Prop) : Prop := ∀ ds S', R ds S' → ∀ vs π' H', RelS K π' S' H' → RVs K π' H' ds vs → Ext π H π' H' → Q vs H'
theorem After.ext {K : PySem.W.Frag} {π π1 : List Addr} {H H1 : Hp} {R : Post} {Q : VK} (a : After K π H R Q) (e : Ext π H π1 H1) : After K π1 H1 R Q :=
  fun d S' h v π' H' r rv e' => a d S' h v π' H' r rv (e.trans e')
theorem AfterT.ext {K : PySem.W.Frag} {π π1 : List Addr} {H H1 : Hp} {R : Bool → Sto → Prop} {Q : Bool → Hp → Prop} (a : AfterT K π H R Q) (e : Ext π H π1 H1) : AfterT K π1 H1 R Q :=
  fun d S' h π' H' r e' => a d S' h π' H' r (e.trans e')
theorem AfterA.ext {K : PySem.W.Frag} {π π1 : List Addr} {H H1 : Hp} {R : List D → Sto → Prop} {Q : List V → Hp → Prop} (a : AfterA K π H R Q) (e : Ext π H π1 H1) : AfterA K π1 H1 R Q :=
  fun d S' h v π' H' r rv e' => a d S' h v π' H' r rv (e.trans e')
def tM (mg : Str → Option Value) (K : PySem.W.Frag) (E : XK) (m : ME) : TE := fun σ H Q => ∃ π ρ S W R, RelS K π S H ∧ RE K π H ρ σ ∧ WOk mg K E W π H ∧ m W ρ S R ∧ After K π H R Q
def tMT (mg : Str → Option Value) (K : PySem.W.Frag) (E : XK) (m : MT) : TT := fun σ H Q => ∃ π ρ S W R, RelS K π S H ∧ RE K π H ρ σ ∧ WOk mg K E W π H ∧ m W ρ S R ∧ AfterT K π H R Q
def tMA (mg : Str → Option Value) (K : PySem.W.Frag) (E : XK) (m : MA) : TA := fun σ H Q => ∃ π ρ S W R, RelS K π S H ∧ RE K π H ρ σ ∧ WOk mg K E W π H ∧ m W ρ S R ∧ AfterA K π H R Q
abbrev JE (X : Cx) (E : XK) (e : Expr) (m : ME) : Prop := PE X e (tM X.mg X.K E m)
abbrev JT (X : Cx) (E : XK) (e : Expr) (m : MT) : Prop := PT X e (tMT X.mg X.K E m)
abbrev JW (X : Cx) (E : XK) (e : Expr) (m : MT) : Prop := PW X e (tMT X.mg X.K E m)
abbrev JA (X : Cx) (E : XK) (es : List Expr) (m : MA) : Prop := PA X es (tMA X.mg X.K E m)

theorem weakE {X : Cx} {e : Expr} {t t' : TE} (h : PE X e t) (w : ∀ σ H Q, t' σ H Q → t σ H Q) : PE X e t' := ⟨fun pins s σ H Q I q => h.run pins s σ H Q I (w _ _ _ q)⟩
theorem weakT {X : Cx} {e : Expr} {t t' : TT} (h : PT X e t) (w : ∀ σ H Q, t' σ H Q → t σ H Q) : PT X e t' := ⟨fun pins s σ H Q I q => h.run pins s σ H Q I (w _ _ _ q)⟩
theorem weakW {X : Cx} {e : Expr} {t t' : TT} (h : PW X e t) (w : ∀ σ H Q, t' σ H Q → t σ H Q) : PW X e t' := ⟨fun wh pins s σ H Q I q => h.run wh pins s σ H Q I (w _ _ _ q)⟩
theorem weakA {X : Cx} {es : List Expr} {t t' : TA} (h : PA X es t) (w : ∀ σ H Q, t' σ H Q → t σ H Q) : PA X es t' := ⟨fun pos pins s σ H Q I q => h.run pos pins s σ H Q I (w _ _ _ q)⟩

section
variable {X : Cx} {E : XK}

/-! ### names, constants -/
def lk (R : Post) (S : Sto) : Option (Option D) → Prop
  | some (some d) => R d S
  | _ => False
theorem lk.get {R : Post} {S : Sto} {o : Option (Option D)} (h : lk R S o) : ∃ d, o = some (some d) ∧ R d S := by
  match o, h with
  | some (some d), h => exact ⟨d, rfl, h⟩
def mVar (i : Nat) : ME := fun _ ρ S R => lk R S ρ[i]?
def mC (d : D) : ME := fun _ _ S R => R d S
theorem je_var {e : Expr} (i : Nat) (h : PE X e (tVar i)) : JE X E e (mVar i) := weakE h fun σ H Q ⟨π, ρ, S, W, R, rs, re, wk, hm, af⟩ => by
  obtain ⟨d, e1, r⟩ := lk.get hm
  obtain ⟨v, h1, h2⟩ := re.get i d e1
  exact ⟨v, h1, af d S r v π H rs h2 (Ext.refl _ _)⟩
theorem je_c {e : Expr} {d : D} {v : V} (h : PE X e (tC v)) (r : ∀ π H, RV X.K π H d v) : JE X E e (mC d) := weakE h fun σ H Q ⟨π, ρ, S, W, R, rs, re, wk, q, af⟩ => af d S q v π H rs (r _ _) (Ext.refl _ _)
theorem je_int {i j pos} : JE X E (.Constant (.int i) j pos) (mC (.int i)) := je_c pe_int fun _ _ => .int i
theorem je_bl {b j pos} : JE X E (.Constant (.bool b) j pos) (mC (.bl b)) := je_c pe_bl fun _ _ => .bl b
theorem je_non {j pos} : JE X E (.Constant .none j pos) (mC .non) := je_c pe_non fun _ _ => .non
theorem je_str {x j pos} : JE X E (.Constant (.str x) j pos) (mC (.str x)) := je_c pe_str fun _ _ => .str x

/-! ### two in a row, one -/
abbrev F2 := D → D → Sto → Post → Prop
abbrev F1 := D → Sto → Post → Prop
abbrev FN := List D → Sto → Post → Prop
def Snd2 (K : PySem.W.Frag) (r : R2) (f : F2) : Prop := ∀ (π : List Addr) (S : Sto) (H : Hp) (x y : V) (dx dy : D) (R : Post) (Q : VK), RelS K π S H → RV K π H dx x → RV K π H dy y → f dx dy S R → After K π H R Q → r x y H Q
def Snd1 (K : PySem.W.Frag) (r : V → Hp → VK → Prop) (f : F1) : Prop := ∀ (π : List Addr) (S : Sto) (H : Hp) (x : V) (dx : D) (R : Post) (Q : VK), RelS K π S H → RV K π H dx x → f dx S R → After K π H R Q → r x H Q
def SndN (K : PySem.W.Frag) (r : List V → Hp → VK → Prop) (f : FN) : Prop := ∀ (π : List Addr) (S : Sto) (H : Hp) (xs : List V) (ds : List D) (R : Post) (Q : VK), RelS K π S H → RVs K π H ds xs → f ds S R → After K π H R Q → r xs H Q
def m2 (f : F2) (ma mb : ME) : ME := fun W ρ S R => ma W ρ S fun x S1 => mb W ρ S1 fun y S2 => f x y S2 R
def m1 (f : F1) (ma : ME) : ME := fun W ρ S R => ma W ρ S fun x S1 => f x S1 R
def mN (f : FN) (ma : MA) : ME := fun W ρ S R => ma W ρ S fun xs S1 => f xs S1 R
theorem snd_two {K : PySem.W.Frag} {mg : Str → Option Value} {r : R2} {f : F2} (F : Snd2 K r f) {ma mb : ME} {σ : L2.St} {H : Hp} {Q : VK} (h : tM mg K E (m2 f ma mb) σ H Q) : tOp r (tM mg K E ma) (tM mg K E mb) σ H Q := by
  obtain ⟨π, ρ, S, W, R, rs, re, wk, hm, af⟩ := h
  exact ⟨π, ρ, S, W, _, rs, re, wk, hm, fun x S1 hx v1 π1 H1 rs1 rv1 e1 => ⟨π1, ρ, S1, W, _, rs1, re.ext e1, wk.ext e1, hx, fun y S2 hy v2 π2 H2 rs2 rv2 e2 =>
    F π2 S2 H2 _ _ _ _ _ _ rs2 (rv1.ext e2) rv2 hy (af.ext (e1.trans e2))⟩⟩
theorem snd_one {K : PySem.W.Frag} {mg : Str → Option Value} {r : V → Hp → VK → Prop} {f : F1} (F : Snd1 K r f) {ma : ME} {σ : L2.St} {H : Hp} {Q : VK} (h : tM mg K E (m1 f ma) σ H Q) : tM mg K E ma σ H (fun x H1 => r x H1 Q) := by
  obtain ⟨π, ρ, S, W, R, rs, re, wk, hm, af⟩ := h
  exact ⟨π, ρ, S, W, _, rs, re, wk, hm, fun x S1 hx v1 π1 H1 rs1 rv1 e1 => F π1 S1 H1 _ _ _ _ rs1 rv1 hx (af.ext e1)⟩
theorem snd_all {K : PySem.W.Frag} {mg : Str → Option Value} {r : List V → Hp → VK → Prop} {f : FN} (F : SndN K r f) {ma : MA} {σ : L2.St} {H : Hp} {Q : VK} (h : tM mg K E (mN f ma) σ H Q) : tMA mg K E ma σ H (fun x H1 => r x H1 Q) := by
  obtain ⟨π, ρ, S, W, R, rs, re, wk, hm, af⟩ := h
  exact ⟨π, ρ, S, W, _, rs, re, wk, hm, fun x S1 hx v1 π1 H1 rs1 rv1 e1 => F π1 S1 H1 _ _ _ _ rs1 rv1 hx (af.ext e1)⟩
variable {a b c : Expr} {ma mb mc : ME} {pos : Pos}
theorem je_op {op : Operator} {r : R2} {f : F2} (o : OpR X (binaryOp op) r) (F : Snd2 X.K r f) (ha : JE X E a ma) (hb : JE X E b mb) : JE X E (.BinOp a op b pos) (m2 f ma mb) := weakE (pe_op o ha hb) fun _ _ _ h => snd_two F h
theorem je_un {op : UnaryOp} {r : V → Hp → VK → Prop} {f : F1} (o : UnR X (unaryOp op) r) (F : Snd1 X.K r f) (ha : JE X E a ma) : JE X E (.UnaryOp op a pos) (m1 f ma) := weakE (pe_un o ha) fun _ _ _ h => snd_one F h
theorem je_cmp {op : CmpOp} {r : R2} {f : F2} (o : OpR X (compareOp op) r) (F : Snd2 X.K r f) (ha : JE X E a ma) (hb : JE X E b mb) (hm : behindInMarks op b = false) : JE X E (.Compare a [op] [b] pos) (m2 f ma mb) := weakE (pe_cmpR o ha hb hm) fun _ _ _ h => snd_two F h
/-- a comparison as a test: its answer a bool -/
def onB (R : Bool → Sto → Prop) (S : Sto) : D → Prop
  | .bl k => R k S
  | _ => False
theorem onB.get {R : Bool → Sto → Prop} {S : Sto} {d : D} (h : onB R S d) : ∃ k, d = .bl k ∧ R k S := by
  match d, h with
  | .bl k, h => exact ⟨k, rfl, h⟩
def mTB (m : ME) : MT := fun W ρ S R => m W ρ S fun d S' => onB R S' d
theorem snd_TB {K : PySem.W.Frag} {mg : Str → Option Value} {m : ME} {t : TE} (F : ∀ σ H Q, tM mg K E m σ H Q → t σ H Q) : ∀ σ H Q, tMT mg K E (mTB m) σ H Q → t σ H fun x H' => ∃ k, x = .bl k ∧ Q k H' := by
  intro σ H Q ⟨π, ρ, S, W, R, rs, re, wk, hm, af⟩
  exact F _ _ _ ⟨π, ρ, S, W, _, rs, re, wk, hm, fun d S' hq v π' H' rs' rv' e' => by
    obtain ⟨k, e, q⟩ := onB.get hq
    subst e
    cases rv'
    exact ⟨k, rfl, af k S' q π' H' rs' e'⟩⟩
theorem jt_cmp {op : CmpOp} {r : R2} {f : F2} (o : OpR X (compareOp op) r) (F : Snd2 X.K r f) (ha : JE X E a ma) (hb : JE X E b mb) (hm : behindInMarks op b = false) : JT X E (.Compare a [op] [b] pos) (mTB (m2 f ma mb)) :=
  weakT (pt_cmpR o ha hb hm) (snd_TB fun _ _ _ h => snd_two F h)
/-- two comparisons on end -/
def mChain (f g : F2) (ma mb mc : ME) : ME := fun W ρ S R => ma W ρ S fun x S1 => mb W ρ S1 fun y S2 => f x y S2 fun z S3 => onB (fun k S3 => Br k (mc W ρ S3 fun u S4 => g y u S4 R) (R (.bl false) S3)) S3 z
theorem snd_chain {r r' : R2} {f g : F2} (F : Snd2 X.K r f) (G : Snd2 X.K r' g) {σ : L2.St} {H : Hp} {Q : VK} (h : tM X.mg X.K E (mChain f g ma mb mc) σ H Q) : tChain r r' (tM X.mg X.K E ma) (tM X.mg X.K E mb) (tM X.mg X.K E mc) σ H Q := by
  obtain ⟨π, ρ, S, W, R, rs, re, wk, hm, af⟩ := h
  refine ⟨π, ρ, S, W, _, rs, re, wk, hm, fun x S1 hx v1 π1 H1 rs1 rv1 e1 => ⟨π1, ρ, S1, W, _, rs1, re.ext e1, wk.ext e1, hx, fun y S2 hy v2 π2 H2 rs2 rv2 e2 =>
    F π2 S2 H2 _ _ _ _ _ _ rs2 (rv1.ext e2) rv2 hy fun z S3 hz v3 π3 H3 rs3 rv3 e3 => ?_⟩⟩
  obtain ⟨k, rfl, hk⟩ := onB.get hz
  cases rv3
  refine ⟨k, rfl, ?_⟩
  have e13 := e1.trans (e2.trans e3)
  cases k with
  | true => exact ⟨π3, ρ, S3, W, _, rs3, re.ext e13, wk.ext e13, hk.1 rfl, fun u S4 hu v4 π4 H4 rs4 rv4 e4 => G π4 S4 H4 _ _ _ _ _ _ rs4 (rv2.ext (e3.trans e4)) rv4 hu (af.ext (e13.trans e4))⟩
  | false => exact af _ _ (hk.2 rfl) _ π3 H3 rs3 (.bl false) e13

theorem je_chain {op op' : CmpOp} {r r' : R2} {f g : F2} (o : OpR X (compareOp op) r) (o' : OpR X (compareOp op') r') (F : Snd2 X.K r f) (G : Snd2 X.K r' g) (ha : JE X E a ma) (hb : JE X E b mb) (hc : JE X E c mc)
    (hm : lastMarks [op, op'] [b, c] = false := by with_unfolding_all rfl) : JE X E (.Compare a [op, op'] [b, c] pos) (mChain f g ma mb mc) := weakE (pe_chain o o' ha hb hc hm) fun _ _ _ h => snd_chain F G h
theorem jt_chain {op op' : CmpOp} {r r' : R2} {f g : F2} (o : OpR X (compareOp op) r) (o' : OpR X (compareOp op') r') (F : Snd2 X.K r f) (G : Snd2 X.K r' g) (ha : JE X E a ma) (hb : JE X E b mb) (hc : JE X E c mc)
    (hm : lastMarks [op, op'] [b, c] = false := by with_unfolding_all rfl) : JT X E (.Compare a [op, op'] [b, c] pos) (mTB (mChain f g ma mb mc)) := weakT (pt_chain o o' ha hb hc hm) (snd_TB fun _ _ _ h => snd_chain F G h)

/-! ### and, or, not, if-else -/
def dtru : D → Sto → (Bool → Prop) → Prop
  | .non, _, R => R false
  | .bl b, _, R => R b
  | .int i, _, R => R (i != 0)
  | .str x, _, R => x.length ≤ sizeLine ∧ R ((x.length : Int) != 0)
  | .tup ds, _, R => R (!ds.isEmpty)
  | .rol ds, _, R => R (!ds.isEmpty)
  | .ref n, S, R => ∃ ds, S[n]? = some (.lst ds) ∧ R (!ds.isEmpty)
theorem RVs.isEmpty {K : PySem.W.Frag} {π : List Addr} {H : Hp} {ds : List D} {vs : List V} (h : RVs K π H ds vs) : vs.isEmpty = ds.isEmpty := by
  cases h <;> rfl
theorem dtru_ok {K : PySem.W.Frag} {π : List Addr} {H : Hp} {S : Sto} {d : D} {v : V} {R : Bool → Prop} (rs : RelS K π S H) (r : RV K π H d v) (h : dtru d S R) : ∃ k, TruV K v H k ∧ R k := by
  cases r with
  | non => exact ⟨_, rfl, h⟩
  | bl b => exact ⟨_, rfl, h⟩
  | int i => exact ⟨_, rfl, h⟩
  | str x => exact ⟨_, ⟨h.1, rfl⟩, h.2⟩
  | tup hs hv =>
    refine ⟨_, .inr (.inl ⟨_, hs, rfl⟩), ?_⟩
    rw [hv.isEmpty]
    exact h
  | rol hs hv =>
    refine ⟨_, .inl ⟨_, hs.seq, rfl⟩, ?_⟩
    rw [hv.isEmpty]
    exact h
  | ref hn =>
    obtain ⟨ds, hd, q⟩ := h
    obtain ⟨a, xs, h1, h2, h3⟩ := rs.lstAt hd
    cases rs.of_ref hn h1
    refine ⟨_, .inl ⟨_, SqL.of h2, rfl⟩, ?_⟩
    rw [h3.isEmpty]
    exact q
def mTru (m : ME) : MT := fun W ρ S R => m W ρ S fun d S' => dtru d S' fun k => R k S'
theorem jt_tru (ha : JE X E a ma) (he : ∀ whole, isTrue a X.env whole = (do let v ← whole; standAt a.pos; holding [v] (truthy v)) := by intro _; rfl) : JT X E a (mTru ma) := weakT (pt_truth ha he) fun σ H Q ⟨π, ρ, S, W, R, rs, re, wk, hm, af⟩ =>
  ⟨π, ρ, S, W, _, rs, re, wk, hm, fun d S' hd v π' H' rs' rv' e' => by
    obtain ⟨k, h1, h2⟩ := dtru_ok rs' rv' hd
    exact ⟨k, h1, af k S' h2 π' H' rs' e'⟩⟩
def mAndT (m n : MT) : MT := fun W ρ S R => m W ρ S fun k S1 => Br k (n W ρ S1 R) (R false S1)
def mOrT (m n : MT) : MT := fun W ρ S R => m W ρ S fun k S1 => Br k (R true S1) (n W ρ S1 R)
def mNotT (m : MT) : MT := fun W ρ S R => m W ρ S fun k S1 => R (!k) S1
variable {rest : List Expr} {na nb : MT}
theorem jw_and1 (ha : JT X E a na) : JW X E (.BoolOp .And [a] pos) na := pw_and1 ha
theorem jw_or1 (ha : JT X E a na) : JW X E (.BoolOp .Or [a] pos) na := pw_or1 ha
theorem jw_and (ha : JT X E a na) (hb : JW X E (.BoolOp .And (b :: rest) pos) nb) : JW X E (.BoolOp .And (a :: b :: rest) pos) (mAndT na nb) := weakW (pw_and ha hb) fun σ H Q ⟨π, ρ, S, W, R, rs, re, wk, hm, af⟩ =>
  ⟨π, ρ, S, W, _, rs, re, wk, hm, fun k S1 hk π1 H1 rs1 e1 => by
    cases k with
    | true => exact ⟨π1, ρ, S1, W, R, rs1, re.ext e1, wk.ext e1, hk.1 rfl, af.ext e1⟩
    | false => exact af _ _ (hk.2 rfl) π1 H1 rs1 e1⟩
theorem jw_or (ha : JT X E a na) (hb : JW X E (.BoolOp .Or (b :: rest) pos) nb) : JW X E (.BoolOp .Or (a :: b :: rest) pos) (mOrT na nb) := weakW (pw_or ha hb) fun σ H Q ⟨π, ρ, S, W, R, rs, re, wk, hm, af⟩ =>
  ⟨π, ρ, S, W, _, rs, re, wk, hm, fun k S1 hk π1 H1 rs1 e1 => by
    cases k with
    | false => exact ⟨π1, ρ, S1, W, R, rs1, re.ext e1, wk.ext e1, hk.2 rfl, af.ext e1⟩
    | true => exact af _ _ (hk.1 rfl) π1 H1 rs1 e1⟩
theorem jw_pt (h : JW X E a na) : JT X E a na := h.pt
theorem jt_not (ha : JT X E a na) : JT X E (.UnaryOp .Not a pos) (mNotT na) := weakT (pt_not ha) fun σ H Q ⟨π, ρ, S, W, R, rs, re, wk, hm, af⟩ =>
  ⟨π, ρ, S, W, _, rs, re, wk, hm, fun k S1 hk π1 H1 rs1 e1 => af _ _ hk π1 H1 rs1 e1⟩
/-- as values: the left one a bool -/
def mAndV (m n : ME) : ME := fun W ρ S R => m W ρ S fun d S1 => onB (fun k S1 => Br k (n W ρ S1 R) (R (.bl false) S1)) S1 d
def mOrV (m n : ME) : ME := fun W ρ S R => m W ρ S fun d S1 => onB (fun k S1 => Br k (R (.bl true) S1) (n W ρ S1 R)) S1 d
def mNotV (m : ME) : ME := fun W ρ S R => m W ρ S fun d S1 => onB (fun k S1 => R (.bl (!k)) S1) S1 d
theorem je_one {op} (ha : JE X E a ma) : JE X E (.BoolOp op [a] pos) ma := pe_one ha
theorem je_and (ha : JE X E a ma) (hb : JE X E (.BoolOp .And (b :: rest) pos) mb) : JE X E (.BoolOp .And (a :: b :: rest) pos) (mAndV ma mb) := weakE (pe_and ha hb) fun σ H Q ⟨π, ρ, S, W, R, rs, re, wk, hm, af⟩ =>
  ⟨π, ρ, S, W, _, rs, re, wk, hm, fun d S1 hk v π1 H1 rs1 rv1 e1 => by
    obtain ⟨k, rfl, hk⟩ := onB.get hk
    cases rv1
    refine ⟨k, rfl, ?_⟩
    cases k with
    | true => exact ⟨π1, ρ, S1, W, R, rs1, re.ext e1, wk.ext e1, hk.1 rfl, af.ext e1⟩
    | false => exact af _ _ (hk.2 rfl) _ π1 H1 rs1 (.bl _) e1⟩
theorem je_or (ha : JE X E a ma) (hb : JE X E (.BoolOp .Or (b :: rest) pos) mb) : JE X E (.BoolOp .Or (a :: b :: rest) pos) (mOrV ma mb) := weakE (pe_or ha hb) fun σ H Q ⟨π, ρ, S, W, R, rs, re, wk, hm, af⟩ =>
  ⟨π, ρ, S, W, _, rs, re, wk, hm, fun d S1 hk v π1 H1 rs1 rv1 e1 => by
    obtain ⟨k, rfl, hk⟩ := onB.get hk
    cases rv1
    refine ⟨k, rfl, ?_⟩
    cases k with
    | false => exact ⟨π1, ρ, S1, W, R, rs1, re.ext e1, wk.ext e1, hk.2 rfl, af.ext e1⟩
    | true => exact af _ _ (hk.1 rfl) _ π1 H1 rs1 (.bl _) e1⟩
theorem je_not (ha : JE X E a ma) : JE X E (.UnaryOp .Not a pos) (mNotV ma) := weakE (pe_not ha) fun σ H Q ⟨π, ρ, S, W, R, rs, re, wk, hm, af⟩ =>
  ⟨π, ρ, S, W, _, rs, re, wk, hm, fun d S1 hk v π1 H1 rs1 rv1 e1 => by
    obtain ⟨k, rfl, hk⟩ := onB.get hk
    cases rv1
    exact ⟨k, rfl, af _ _ hk _ π1 H1 rs1 (.bl _) e1⟩⟩
def mIf (t : MT) (m n : ME) : ME := fun W ρ S R => t W ρ S fun k S1 => Br k (m W ρ S1 R) (n W ρ S1 R)
theorem je_if {t : Expr} {nt : MT} (ht : JT X E t nt) (ha : JE X E a ma) (hb : JE X E b mb) : JE X E (.IfExp t a b pos) (mIf nt ma mb) := weakE (pe_ifExp ht ha hb) fun σ H Q ⟨π, ρ, S, W, R, rs, re, wk, hm, af⟩ =>
  ⟨π, ρ, S, W, _, rs, re, wk, hm, fun k S1 hk π1 H1 rs1 e1 => by
    cases k with
    | true => exact ⟨π1, ρ, S1, W, R, rs1, re.ext e1, wk.ext e1, hk.1 rfl, af.ext e1⟩
    | false => exact ⟨π1, ρ, S1, W, R, rs1, re.ext e1, wk.ext e1, hk.2 rfl, af.ext e1⟩⟩

/-! ### arguments, displays -/
def mNil : MA := fun _ _ S R => R [] S
def mCons (m : ME) (n : MA) : MA := fun W ρ S R => m W ρ S fun d S1 => n W ρ S1 fun ds S2 => R (d :: ds) S2
variable {es : List Expr} {me : MA}
theorem ja_nil : JA X E [] mNil := weakA pa_nil fun σ H Q ⟨π, ρ, S, W, R, rs, re, wk, hm, af⟩ => af [] S hm [] π H rs .nil (Ext.refl _ _)
theorem ja_cons (ha : JE X E a ma) (hs : JA X E es me) (hst : starEach (a :: es) X.env = (false, eval a X.env) :: starEach es X.env := by rfl) : JA X E (a :: es) (mCons ma me) := weakA (pa_cons ha hs hst) fun σ H Q ⟨π, ρ, S, W, R, rs, re, wk, hm, af⟩ =>
  ⟨π, ρ, S, W, _, rs, re, wk, hm, fun d S1 hd v π1 H1 rs1 rv1 e1 => ⟨π1, ρ, S1, W, _, rs1, re.ext e1, wk.ext e1, hd, fun ds S2 hds vs π2 H2 rs2 rvs2 e2 => af (d :: ds) S2 hds _ π2 H2 rs2 (.cons (rv1.ext e2) rvs2) (e1.trans e2)⟩⟩
def fTup : FN := fun ds S R => ds.length ≤ sizeLine ∧ R (.tup ds) S
def fLst : FN := fun ds S R => ds.length ≤ sizeLine ∧ R (.ref S.length) (S ++ [.lst ds])
/-- a new tuple is laid -/
theorem After.tup {K : PySem.W.Frag} {π : List Addr} {H : Hp} {S : Sto} {R : Post} {Q : VK} (af : After K π H R Q) (rs : RelS K π S H) {ds : List D} {xs : List V} (rv : RVs K π H ds xs) (h : R (.tup ds) S) {p : Addr} (hp : H p = none) : Q (.ref p) (upd H p (.tup xs)) :=
  af _ _ h _ π _ (rs.newFree hp) (.tup (SqT.of upd_same) (rv.ext (Ext.newFree hp))) (Ext.newFree hp)
/-- a new list is laid -/
theorem After.lst {K : PySem.W.Frag} {π : List Addr} {H : Hp} {S : Sto} {R : Post} {Q : VK} (af : After K π H R Q) (rs : RelS K π S H) {ds : List D} {xs : List V} (rv : RVs K π H ds xs) (h : R (.ref S.length) (S ++ [.lst ds])) {p : Addr} (hp : H p = none) : Q (.ref p) (upd H p (.lst xs)) :=
  af _ _ h _ (π ++ [p]) _ (rs.new hp (.lst rv)) (.ref (by rw [← rs.len, List.getElem?_append_right (Nat.le_refl _)]; simp)) (Ext.new hp)
theorem je_tup {x1} (h : JA X E es me) : JE X E (.Tuple es x1 pos) (mN fTup me) := weakE (pe_tup h) fun σ H Q hq => snd_all (r := fun xs H1 Q => xs.length ≤ sizeLine ∧ ∀ p, H1 p = none → Q (.ref p) (upd H1 p (.tup xs)))
  (fun π S H xs ds R Q rs rv ⟨hl, hR⟩ af => ⟨by rw [← rv.length]; exact hl, fun p hp => af.tup rs rv hR hp⟩) hq
theorem je_lst (h : JA X E es me) : JE X E (.List es pos) (mN fLst me) := weakE (pe_lst h) fun σ H Q hq => snd_all (r := fun xs H1 Q => xs.length ≤ sizeLine ∧ ∀ p, H1 p = none → Q (.ref p) (upd H1 p (.lst xs)))
  (fun π S H xs ds R Q rs rv ⟨hl, hR⟩ af => ⟨by rw [← rv.length]; exact hl, fun p hp => af.lst rs rv hR hp⟩) hq
/-! ### built-ins by name -/
theorem je_callB {x id : _} {ppos : Pos} {r : List V → Hp → VK → Prop} {f : FN} (hc : CallR X (.builtin id) r) (F : SndN X.K r f) (hg : Gl X x) (hm : X.mg x = none) (hv : bootBuiltins x = some (.builtin id)) (ha : JA X E (a :: es) me)
    (h : ∀ {t : TA}, PA X (a :: es) t → PE X (.Call (.Name x ppos) (a :: es) [] pos) (tCB r t)) : JE X E (.Call (.Name x ppos) (a :: es) [] pos) (mN f me) := weakE (h ha) fun _ _ _ hq => snd_all F hq
theorem je_of_cb {e : Expr} {r : List V → Hp → VK → Prop} {f : FN} (F : SndN X.K r f) (h : PE X e (tCB r (tMA X.mg X.K E me))) : JE X E e (mN f me) := weakE h fun _ _ _ hq => snd_all F hq
end
end MP

namespace MP
open PySem PySem.Spec PyProof.Rows L2

structure FitE (K : PySem.W.Frag) (π : List Addr) (H : Hp) (B : ES) (F : Ends) : Prop where
  nx : ∀ ρ S', B.nx ρ S' → ∀ σ' π' H', RelS K π' S' H' → RE K π' H' ρ σ' → Ext π H π' H' → F.nx σ' H'
  rt : After K π H B.rt F.rt
  bk : ∀ ρ S', B.bk ρ S' → ∀ σ' π' H', RelS K π' S' H' → RE K π' H' ρ σ' → Ext π H π' H' → F.bk σ' H'
  ct : ∀ ρ S', B.ct ρ S' → ∀ σ' π' H', RelS K π' S' H' → RE K π' H' ρ σ' → Ext π H π' H' → F.ct σ' H'
theorem FitE.ext {K : PySem.W.Frag} {π π1 : List Addr} {H H1 : Hp} {B : ES} {F : Ends} (f : FitE K π H B F) (e : Ext π H π1 H1) : FitE K π1 H1 B F :=
  ⟨fun ρ S' h σ' π' H' a b c => f.nx ρ S' h σ' π' H' a b (e.trans c), f.rt.ext e, fun ρ S' h σ' π' H' a b c => f.bk ρ S' h σ' π' H' a b (e.trans c), fun ρ S' h σ' π' H' a b c => f.ct ρ S' h σ' π' H' a b (e.trans c)⟩
def tMS (mg : Str → Option Value) (K : PySem.W.Frag) (E : XK) (m : MS) : TS := fun F σ H => ∃ π ρ S W B, RelS K π S H ∧ RE K π H ρ σ ∧ WOk mg K E W π H ∧ m W B ρ S ∧ FitE K π H B F
abbrev JS (X : Cx) (E : XK) (s : Stmt) (m : MS) : Prop := PS X s (tMS X.mg X.K E m)
abbrev JSs (X : Cx) (E : XK) (s : List Stmt) (m : MS) : Prop := PSs X s (tMS X.mg X.K E m)
theorem weakS {X : Cx} {e : Stmt} {t t' : TS} (h : PS X e t) (w : ∀ D σ H, t' D σ H → t D σ H) : PS X e t' := ⟨fun pins s σ H D I q => h.run pins s σ H D I (w _ _ _ q)⟩
theorem weakSs {X : Cx} {e : List Stmt} {t t' : TS} (h : PSs X e t) (w : ∀ D σ H, t' D σ H → t D σ H) : PSs X e t' := ⟨fun pins s σ H D I q => h.run pins s σ H D I (w _ _ _ q)⟩

section
variable {X : Cx} {E : XK} {st : Stmt} {rest : List Stmt} {pos : Pos} {e a b : Expr} {ma mb me : ME}
def mSkip : MS := fun _ B ρ S => B.nx ρ S
def mSeq (m n : MS) : MS := fun W B ρ S => m W { B with nx := fun ρ' S' => n W B ρ' S' } ρ S
theorem jss_nil : JSs X E [] mSkip := weakSs pss_nil fun F σ H ⟨π, ρ, S, W, B, rs, re, wk, hm, ft⟩ => ft.nx _ _ hm σ π H rs re (Ext.refl _ _)
theorem jss_cons {m n : MS} (h1 : JS X E st m) (h2 : JSs X E rest n) : JSs X E (st :: rest) (mSeq m n) := weakSs (pss_cons h1 h2) fun F σ H ⟨π, ρ, S, W, B, rs, re, wk, hm, ft⟩ =>
  ⟨π, ρ, S, W, _, rs, re, wk, hm, fun ρ' S' h σ' π' H' a b c => ⟨π', ρ', S', W, B, a, b, wk.ext c, h, ft.ext c⟩, ft.rt, ft.bk, ft.ct⟩
theorem jss_one {m : MS} (h1 : JS X E st m) : JSs X E [st] m := pss_one h1
def mBreak : MS := fun _ B ρ S => B.bk ρ S
def mCont : MS := fun _ B ρ S => B.ct ρ S
theorem js_pass : JS X E (.Pass pos) mSkip := weakS ps_pass fun F σ H ⟨π, ρ, S, W, B, rs, re, wk, hm, ft⟩ => ft.nx _ _ hm σ π H rs re (Ext.refl _ _)
theorem js_break : JS X E (.Break pos) mBreak := weakS ps_break fun F σ H ⟨π, ρ, S, W, B, rs, re, wk, hm, ft⟩ => ft.bk _ _ hm σ π H rs re (Ext.refl _ _)
theorem js_continue : JS X E (.Continue pos) mCont := weakS ps_continue fun F σ H ⟨π, ρ, S, W, B, rs, re, wk, hm, ft⟩ => ft.ct _ _ hm σ π H rs re (Ext.refl _ _)
def mExpr (m : ME) : MS := fun W B ρ S => m W ρ S fun _ S1 => B.nx ρ S1
theorem js_expr (he : JE X E e me) (hs : swapsWith e none pos.line X.env = pure false := by rfl) : JS X E (.Expr e pos) (mExpr me) := weakS (ps_expr he hs) fun F σ H ⟨π, ρ, S, W, B, rs, re, wk, hm, ft⟩ =>
  ⟨π, ρ, S, W, _, rs, re, wk, hm, fun d S1 h v π1 H1 rs1 rv1 e1 => ft.nx _ _ h σ π1 H1 rs1 (re.ext e1) e1⟩
def mRet (m : ME) : MS := fun W B ρ S => m W ρ S B.rt
theorem js_ret (he : JE X E e me) : JS X E (.Return (some e) pos) (mRet me) := weakS (ps_ret he) fun F σ H ⟨π, ρ, S, W, B, rs, re, wk, hm, ft⟩ => ⟨π, ρ, S, W, _, rs, re, wk, hm, ft.rt⟩
def mRetN : MS := fun W B ρ S => B.rt .non S
theorem js_retN : JS X E (.Return none pos) mRetN := weakS ps_retN fun F σ H ⟨π, ρ, S, W, B, rs, re, wk, hm, ft⟩ => ft.rt _ _ hm _ π H rs .non (Ext.refl _ _)
def mIfS (t : MT) (m n : MS) : MS := fun W B ρ S => t W ρ S fun k S1 => Br k (m W B ρ S1) (n W B ρ S1)
theorem js_if {c : Expr} {sa sb : List Stmt} {t : MT} {m n : MS} (hc : JT X E c t) (ha : JSs X E sa m) (hb : JSs X E sb n) : JS X E (.If c sa sb pos) (mIfS t m n) := weakS (ps_if hc ha hb) fun F σ H ⟨π, ρ, S, W, B, rs, re, wk, hm, ft⟩ =>
  ⟨π, ρ, S, W, _, rs, re, wk, hm, fun k S1 h π1 H1 rs1 e1 => by
    cases k with
    | true => exact ⟨π1, ρ, S1, W, B, rs1, re.ext e1, wk.ext e1, h.1 rfl, ft.ext e1⟩
    | false => exact ⟨π1, ρ, S1, W, B, rs1, re.ext e1, wk.ext e1, h.2 rfl, ft.ext e1⟩⟩

/-! ### targets -/
abbrev MG := XW → D → Env → Sto → (Env → Sto → Prop) → Prop
abbrev MGs := XW → List D → Env → Sto → (Env → Sto → Prop) → Prop
def AfterG (K : PySem.W.Frag) (π : List Addr) (H : Hp) (R : Env → Sto → Prop) (Q : L2.St → Hp → Prop) : Prop := ∀ ρ S', R ρ S' → ∀ σ' π' H', RelS K π' S' H' → RE K π' H' ρ σ' → Ext π H π' H' → Q σ' H'
theorem AfterG.ext {K : PySem.W.Frag} {π π1 : List Addr} {H H1 : Hp} {R : Env → Sto → Prop} {Q : L2.St → Hp → Prop} (a : AfterG K π H R Q) (e : Ext π H π1 H1) : AfterG K π1 H1 R Q :=
  fun d S' h v π' H' r rv e' => a d S' h v π' H' r rv (e.trans e')
def tMG (mg : Str → Option Value) (K : PySem.W.Frag) (E : XK) (g : MG) : TG := fun v σ H Q => ∃ π ρ S W d R, RelS K π S H ∧ RE K π H ρ σ ∧ WOk mg K E W π H ∧ RV K π H d v ∧ g W d ρ S R ∧ AfterG K π H R Q
def tMGs (mg : Str → Option Value) (K : PySem.W.Frag) (E : XK) (g : MGs) : TGs := fun vs σ H Q => ∃ π ρ S W ds R, RelS K π S H ∧ RE K π H ρ σ ∧ WOk mg K E W π H ∧ RVs K π H ds vs ∧ g W ds ρ S R ∧ AfterG K π H R Q
abbrev JG (X : Cx) (E : XK) (t : Expr) (g : MG) : Prop := PG X t (tMG X.mg X.K E g)
abbrev JGs (X : Cx) (E : XK) (t : List Expr) (g : MGs) : Prop := PGs X t (tMGs X.mg X.K E g)
theorem weakG {X : Cx} {e : Expr} {t t' : TG} (h : PG X e t) (w : ∀ v σ H Q, t' v σ H Q → t v σ H Q) : PG X e t' := ⟨fun pins s σ H v u Q I r q => h.run pins s σ H v u Q I r (w _ _ _ _ q)⟩
theorem weakGs {X : Cx} {e : List Expr} {t t' : TGs} (h : PGs X e t) (w : ∀ v σ H Q, t' v σ H Q → t v σ H Q) : PGs X e t' := ⟨fun pins s σ H v u Q I r q => h.run pins s σ H v u Q I r (w _ _ _ _ q)⟩
def mgName (i : Nat) : MG := fun _ d ρ S R => R (ρ.set i (some d)) S
theorem jg_name {i : Nat} {t : Expr} (h : PG X t (gName i)) : JG X E t (mgName i) := weakG h fun v σ H Q ⟨π, ρ, S, W, d, R, rs, re, wk, rv, hm, af⟩ => af _ _ hm _ π H rs (re.set rv) (Ext.refl _ _)
def mgNil : MGs := fun _ ds ρ S R => match ds with
  | [] => R ρ S
  | _ => False
def mgCons (g : MG) (h : MGs) : MGs := fun W ds ρ S R => match ds with
  | d :: r => g W d ρ S fun ρ' S' => h W r ρ' S' R
  | [] => False
theorem jgs_nil : JGs X E [] mgNil := weakGs pgs_nil fun v σ H Q ⟨π, ρ, S, W, d, R, rs, re, wk, rv, hm, af⟩ => by
  cases rv with
  | cons r1 r2 => exact (False.elim hm)
  | nil =>
  exact ⟨rfl, af _ _ hm σ π H rs re (Ext.refl _ _)⟩
theorem jgs_cons {t : Expr} {ts : List Expr} {g : MG} {gs : MGs} (h1 : JG X E t g) (h2 : JGs X E ts gs) (hs : (assignEach (t :: ts) X.env).map (·.2) = assign t X.env :: (assignEach ts X.env).map (·.2) := by rfl) : JGs X E (t :: ts) (mgCons g gs) :=
  weakGs (pgs_cons h1 h2 hs) fun v σ H Q ⟨π, ρ, S, W, ds, R, rs, re, wk, rv, hm, af⟩ => by
    cases rv with
    | nil => exact (False.elim hm)
    | @cons d v r vs r1 r2 => exact ⟨_, _, rfl, π, ρ, S, W, d, _, rs, re, wk, r1, hm, fun ρ' S' h σ' π' H' a b c => ⟨π', ρ', S', W, r, R, a, b, wk.ext c, r2.ext c, h, af.ext c⟩⟩
def mgTup (n : Nat) (g : MGs) : MG := fun W d ρ S R => match d with
  | .tup ds => ds.length = n ∧ g W ds ρ S R
  | _ => False
theorem jg_tup {ts : List Expr} {k n : Nat} {g : MGs} (hc : X.calm = true) (h : JGs X E ts g) (hn : (assignEach ts X.env).length = n := by rfl) (hst : (assignEach ts X.env).findIdx? (·.1) = none := by rfl) : JG X E (.Tuple ts k pos) (mgTup n g) :=
  weakG (pg_tup hc h hn hst) fun v σ H Q ⟨π, ρ, S, W, d, R, rs, re, wk, rv, hm, af⟩ => by
    cases rv with
    | @tup a xs ds ht hv => exact ⟨_, _, rfl, ht, by rw [← hv.length]; exact hm.1, π, ρ, S, W, ds, R, rs, re, wk, hv, hm.2, af⟩
    | _ => exact (False.elim hm)
def fSetL : D → D → D → Sto → (Sto → Prop) → Prop := fun o i d S R => match o, i with
  | .ref n, .int k => ∃ ds, S[n]? = some (.lst ds) ∧ ∃ j, ixN ds.length k = some j ∧ R (S.set n (.lst (ds.set j d)))
  | _, _ => False
def Snd3 (K : PySem.W.Frag) (t : TSet) (f : D → D → D → Sto → (Sto → Prop) → Prop) : Prop := ∀ (π : List Addr) (S : Sto) (H : Hp) (x y z : V) (dx dy dz : D) (R : Sto → Prop) (Q : Hp → Prop),
  RelS K π S H → RV K π H dx x → RV K π H dy y → RV K π H dz z → f dx dy dz S R → (∀ S', R S' → ∀ π' H', RelS K π' S' H' → Ext π H π' H' → Q H') → t x y z H Q
theorem snd_setL {K : PySem.W.Frag} : Snd3 K rSetL fSetL := fun π S H x y z dx dy dz R Q rs r1 r2 r3 hm af => by
  cases r1 <;> cases r2 <;> try exact (False.elim hm)
  case ref.int n a ha k =>
    obtain ⟨ds, hn, j, hj, hR⟩ := hm
    obtain ⟨b, xs, h1, h2, h3⟩ := rs.lstAt hn
    cases rs.of_ref ha h1
    exact ⟨_, xs, k, j, rfl, rfl, h2, by rw [← h3.length]; exact hj, af _ hR π _ (rs.write ha h2 (fun _ z => nomatch z) (fun _ _ z => nomatch z) (.lst (h3.set r3 j))) (Ext.write ha h2 (fun _ z => nomatch z) (fun _ _ z => nomatch z))⟩
def mgSub (mo mi : ME) (f : D → D → D → Sto → (Sto → Prop) → Prop) : MG := fun W d ρ S R => mo W ρ S fun o S1 => mi W ρ S1 fun i S2 => f o i d S2 fun S3 => R ρ S3
theorem jg_sub {o i : Expr} {mo mi : ME} {t : TSet} {f : D → D → D → Sto → (Sto → Prop) → Prop} (ho : JE X E o mo) (hi : JE X E i mi) (hp : PSet X t) (F : Snd3 X.K t f)
    (ha : ∀ v, assign (.Subscript o i pos) X.env v = (do
      let ov ← holding [v] (eval o X.env)
      let iv ← holding [v, ov] (eval i X.env)
      standAt pos
      holding [v, ov, iv] (setItem ov iv v)
      release [v, ov, iv] []) := by intro _; rfl) : JG X E (.Subscript o i pos) (mgSub mo mi f) :=
  weakG (pg_sub ho hi hp ha) fun v σ H Q ⟨π, ρ, S, W, d, R, rs, re, wk, rv, hm, af⟩ =>
    ⟨π, ρ, S, W, _, rs, re, wk, hm, fun x S1 h1 v1 π1 H1 rs1 rv1 e1 => ⟨π1, ρ, S1, W, _, rs1, re.ext e1, wk.ext e1, h1, fun y S2 h2 v2 π2 H2 rs2 rv2 e2 =>
      F π2 S2 H2 _ _ _ _ _ _ _ _ rs2 (rv1.ext e2) rv2 (rv.ext (e1.trans e2)) h2 fun S3 h3 π3 H3 rs3 e3 => af _ _ h3 σ π3 H3 rs3 (re.ext (e1.trans (e2.trans e3))) (e1.trans (e2.trans e3))⟩⟩
def mAsg (m : ME) (g : MG) : MS := fun W B ρ S => m W ρ S fun d S1 => g W d ρ S1 B.nx
theorem snd_asg {mg : Str → Option Value} {K : PySem.W.Frag} {g : MG} {F : Ends} {σ : L2.St} {H : Hp} (h : tMS mg K E (mAsg me g) F σ H) : tAsg (tM mg K E me) (tMG mg K E g) F σ H := by
  obtain ⟨π, ρ, S, W, B, rs, re, wk, hm, ft⟩ := h
  exact ⟨π, ρ, S, W, _, rs, re, wk, hm, fun d S1 hd v π1 H1 rs1 rv1 e1 => ⟨π1, ρ, S1, W, d, B.nx, rs1, re.ext e1, wk.ext e1, rv1, hd, fun ρ' S' h σ' π' H' a b c => ft.nx ρ' S' h σ' π' H' a b (e1.trans c)⟩⟩
theorem js_asg {tg : Expr} {g : MG} (he : JE X E e me) (hg : JG X E tg g) (hs : swapsWithSole [tg] e pos.line X.env = pure false := by rfl) (hw : swappedStores [tg] e X.env = pure none := by rfl) (h1 : (assignEach [tg] X.env).map (·.2) = [assign tg X.env] := by rfl) :
    JS X E (.Assign [tg] e pos) (mAsg me g) := weakS (ps_asg he hg hs hw h1) fun _ _ _ h => snd_asg h
def mSet (i : Nat) (m : ME) : MS := fun W B ρ S => m W ρ S fun d S1 => B.nx (ρ.set i (some d)) S1
theorem snd_set {mg : Str → Option Value} {K : PySem.W.Frag} {i : Nat} {F : Ends} {σ : L2.St} {H : Hp} (h : tMS mg K E (mSet i me) F σ H) : tAsg (tM mg K E me) (gName i) F σ H := by
  obtain ⟨π, ρ, S, W, B, rs, re, wk, hm, ft⟩ := h
  exact ⟨π, ρ, S, W, _, rs, re, wk, hm, fun d S1 hd v π1 H1 rs1 rv1 e1 => ft.nx _ _ hd _ π1 H1 rs1 ((re.ext e1).set rv1) e1⟩
theorem js_set {i : Nat} {x : Str} {pos' : Pos} (hN : X.N.Nodup) (hi : X.N[i]? = some x) (hx : Loc X.env.scope x) (he : JE X E e me) (hs : swapsWith e (some (.Name x pos')) pos.line X.env = pure false := by rfl)
    (hf : X.fn x = true ∨ X.env.scope.names.lookup x = some .local := by first | exact .inl rfl | exact .inr rfl | assumption) : JS X E (.Assign [.Name x pos'] e pos) (mSet i me) := weakS (ps_set hN hi hx he hs hf) fun _ _ _ h => snd_set h
/-- x = e by any statement rule of the shape tAsg -/
theorem js_setBy {i : Nat} {te : TE} {s : Stmt} (h : PS X s (tAsg te (gName i))) (w : ∀ σ H Q, tM X.mg X.K E me σ H Q → te σ H Q) : JS X E s (mSet i me) := weakS h fun _ _ _ h => w _ _ _ (snd_set h)
def mPar (i j : Nat) (m : MA) : MS := fun W B ρ S => m W ρ S fun ds S1 => match ds with
  | [d, e] => B.nx ((ρ.set i (some d)).set j (some e)) S1
  | _ => False
theorem js_par {i j : Nat} {s : Stmt} {m : MA} (h : PS X s (tPar i j (tMA X.mg X.K E m))) : JS X E s (mPar i j m) := weakS h fun F σ H ⟨π, ρ, S, W, B, rs, re, wk, hm, ft⟩ =>
  ⟨π, ρ, S, W, _, rs, re, wk, hm, fun ds S1 h vs π1 H1 rs1 rv1 e1 => by
    match ds, rv1, h with
    | [d, e], .cons r1 (.cons r2 .nil), h => exact ⟨_, _, rfl, ft.nx _ _ h _ π1 H1 rs1 (((re.ext e1).set r1).set r2) e1⟩⟩
def mPar3 (i j l : Nat) (m : MA) : MS := fun W B ρ S => m W ρ S fun ds S1 => match ds with
  | [d, e, f] => B.nx (((ρ.set i (some d)).set j (some e)).set l (some f)) S1
  | _ => False
theorem js_par3 {i j l : Nat} {s : Stmt} {m : MA} (h : PS X s (tPar3 i j l (tMA X.mg X.K E m))) : JS X E s (mPar3 i j l m) := weakS h fun F σ H ⟨π, ρ, S, W, B, rs, re, wk, hm, ft⟩ =>
  ⟨π, ρ, S, W, _, rs, re, wk, hm, fun ds S1 h vs π1 H1 rs1 rv1 e1 => by
    match ds, rv1, h with
    | [d, e, f], .cons r1 (.cons r2 (.cons r3 .nil)), h => exact ⟨_, _, _, rfl, ft.nx _ _ h _ π1 H1 rs1 ((((re.ext e1).set r1).set r2).set r3) e1⟩⟩
def mAug (i : Nat) (m : ME) (f : F2) : MS := fun W B ρ S => lk (fun x S => m W ρ S fun y S1 => f x y S1 fun z S2 => B.nx (ρ.set i (some z)) S2) S ρ[i]?
theorem js_aug {i : Nat} {x : Str} {op : Operator} {ti : TIp} {f : F2} {pos' : Pos} (hN : X.N.Nodup) (hi : X.N[i]? = some x) (hx : Loc X.env.scope x) (he : JE X E e me) (ho : PIp X op ti) (F : Snd2 X.K ti f)
    (h : ∀ {te : TE}, PE X e te → PS X st (tAug i te ti)) : JS X E st (mAug i me f) := weakS (h he) fun G σ H ⟨π, ρ, S, W, B, rs, re, wk, hm0, ft⟩ => by
  obtain ⟨x, ex, hm⟩ := lk.get hm0
  obtain ⟨v, hv, rv⟩ := re.get i x ex
  exact ⟨v, hv, π, ρ, S, W, _, rs, re, wk, hm, fun y S1 h1 v1 π1 H1 rs1 rv1 e1 => F π1 S1 H1 _ _ _ _ _ _ rs1 (rv.ext e1) rv1 h1 fun z S2 h2 v2 π2 H2 rs2 rv2 e2 => ft.nx _ _ h2 _ π2 H2 rs2 ((re.ext (e1.trans e2)).set rv2) (e1.trans e2)⟩
theorem js_augBy {i : Nat} {ti : TIp} {f : F2} (h : PS X st (tAug i (tM X.mg X.K E me) ti)) (F : Snd2 X.K ti f) : JS X E st (mAug i me f) := weakS h fun G σ H ⟨π, ρ, S, W, B, rs, re, wk, hm0, ft⟩ => by
  obtain ⟨x, ex, hm⟩ := lk.get hm0
  obtain ⟨v, hv, rv⟩ := re.get i x ex
  exact ⟨v, hv, π, ρ, S, W, _, rs, re, wk, hm, fun y S1 h1 v1 π1 H1 rs1 rv1 e1 => F π1 S1 H1 _ _ _ _ _ _ rs1 (rv.ext e1) rv1 h1 fun z S2 h2 v2 π2 H2 rs2 rv2 e2 => ft.nx _ _ h2 _ π2 H2 rs2 ((re.ext (e1.trans e2)).set rv2) (e1.trans e2)⟩

/-! ### loops -/
/-- what a loop walks: items, and what must stay so between the turns -/
abbrev MI := XW → Env → Sto → (List D → (Sto → Prop) → Sto → Prop) → Prop
structure Walks (K : PySem.W.Frag) (π : List Addr) (H : Hp) (J : It) (ds : List D) (G : Sto → Prop) : Prop where
  go : ∀ (i : Nat) (d : D), ds[i]? = some d → ∀ π' S' H', RelS K π' S' H' → Ext π H π' H' → G S' → J.go i H' ∧ ∀ x H'', J.yld i H' x H'' → RelS K π' S' H'' ∧ RV K π' H'' d x ∧ Ext π' H' π' H''
  stop : ∀ π' S' H', RelS K π' S' H' → Ext π H π' H' → G S' → J.stop ds.length H'
def tMI (mg : Str → Option Value) (K : PySem.W.Frag) (E : XK) (m : MI) : TI := fun σ H R => ∃ π ρ S W RI, RelS K π S H ∧ RE K π H ρ σ ∧ WOk mg K E W π H ∧ m W ρ S RI ∧
  ∀ ds G S1, RI ds G S1 → ∀ J π1 H1, RelS K π1 S1 H1 → Ext π H π1 H1 → Walks K π1 H1 J ds G → R J H1
abbrev JI (X : Cx) (E : XK) (tg iter : Expr) (m : MI) : Prop := PI X tg iter (tMI X.mg X.K E m)
theorem weakI {X : Cx} {tg e : Expr} {t t' : TI} (h : PI X tg e t) (w : ∀ σ H Q, t' σ H Q → t σ H Q) : PI X tg e t' := ⟨fun pins s σ H Q I q => h.run pins s σ H Q I (w _ _ _ q)⟩
def mLoop (g : MG) (mb : MS) (G : Sto → Prop) (W : XW) (B : ES) : List D → Env → Sto → Prop
  | [], ρ, S => G S ∧ B.nx ρ S
  | d :: ds, ρ, S => G S ∧ g W d ρ S fun ρ' S' => mb W { B with nx := mLoop g mb G W B ds, ct := mLoop g mb G W B ds, bk := B.nx } ρ' S'
def mFor (mi : MI) (g : MG) (mb : MS) : MS := fun W B ρ S => mi W ρ S fun ds G S1 => mLoop g mb G W B ds ρ S1
theorem js_for {tg iter : Expr} {body : List Stmt} {mi : MI} {g : MG} {mb : MS} (hp : PassesOwn (model X.prog X.w) X.A X.env X.xe) (hc : X.calm = true) (hi : JI X E tg iter mi) (hg : JG X E tg g) (hb : JSs X E body mb)
    (hs : ∀ x, foldedSetIterable iter X.env x = pure x := by intro _; rfl) : JS X E (.For tg iter body [] pos) (mFor mi g mb) := weakS (ps_for hp hc hi hg hb hs) fun F σ H ⟨π, ρ, S, W, B, rs, re, wk, hm, ft⟩ =>
  ⟨π, ρ, S, W, _, rs, re, wk, hm, fun ds G S1 hl J π1 H1 rs1 e1 wl => by
    refine ⟨fun i m σ' H' => ∃ π' ρ' S', m = ds.length - i ∧ i ≤ ds.length ∧ RelS X.K π' S' H' ∧ RE X.K π' H' ρ' σ' ∧ Ext π1 H1 π' H' ∧ mLoop g mb G W B (ds.drop i) ρ' S', ⟨ds.length, π1, ρ, S1, rfl, Nat.zero_le _, rs1, re.ext e1, Ext.refl _ _, by simpa using hl⟩, ?_⟩
    rintro i m σ' H' ⟨π', ρ', S', rfl, hi, rs', re', e', hl'⟩
    have e2 := e1.trans e'
    by_cases hlt : i < ds.length
    · rw [List.drop_eq_getElem_cons hlt] at hl'
      obtain ⟨hG, hl'⟩ := hl'
      obtain ⟨h1, h2⟩ := wl.go i ds[i] (List.getElem?_eq_getElem hlt) π' S' H' rs' e' hG
      refine .inr ⟨h1, fun σ'' H'' => ∃ π'' ρ'' S'', RelS X.K π'' S'' H'' ∧ RE X.K π'' H'' ρ'' σ'' ∧ Ext π1 H1 π'' H'' ∧ mLoop g mb G W B (ds.drop (i + 1)) ρ'' S'', fun σ'' H'' ⟨π'', ρ'', S'', a, b, c, d⟩ => ⟨ds.length - (i + 1), by omega, π'', ρ'', S'', rfl, hlt, a, b, c, d⟩, fun x H2 hy => ?_⟩
      obtain ⟨rs2, rv2, e3⟩ := h2 x H2 hy
      refine ⟨π', ρ', S', W, ds[i], _, rs2, re'.ext e3, wk.ext (e2.trans e3), rv2, hl', fun ρ3 S3 h3 σ3 π3 H3 rs3 re3 e4 => ?_⟩
      have e5 := e2.trans (e3.trans e4)
      have e6 := e'.trans (e3.trans e4)
      exact ⟨π3, ρ3, S3, W, _, rs3, re3, wk.ext e5, h3, fun ρ4 S4 h4 σ4 π4 H4 a b c => ⟨π4, ρ4, S4, a, b, e6.trans c, h4⟩, (ft.ext e5).rt, fun ρ4 S4 h4 σ4 π4 H4 a b c => (ft.ext e5).nx _ _ h4 σ4 π4 H4 a b c, fun ρ4 S4 h4 σ4 π4 H4 a b c => ⟨π4, ρ4, S4, a, b, e6.trans c, h4⟩⟩
    · have ei : i = ds.length := by omega
      subst ei
      rw [List.drop_length] at hl'
      obtain ⟨hG, hl'⟩ := hl'
      exact .inl ⟨wl.stop π' S' H' rs' e' hG, ft.nx _ _ hl' σ' π' H' rs' re' e2⟩⟩
/-- over a list or tuple -/
def fSeqI : D → Sto → (List D → (Sto → Prop) → Sto → Prop) → Prop
  | .tup ds, S, R => R ds (fun _ => True) S
  | .rol ds, S, R => R ds (fun _ => True) S
  | .ref n, S, R => ∃ ds, S[n]? = some (.lst ds) ∧ R ds (fun S' => S'[n]? = some (.lst ds)) S
  | _, _, _ => False
/-- a tuple -/
def fTupI : D → Sto → (List D → (Sto → Prop) → Sto → Prop) → Prop
  | .tup ds, S, R => R ds (fun _ => True) S
  | _, _, _ => False
/-- a list -/
def fLstI : D → Sto → (List D → (Sto → Prop) → Sto → Prop) → Prop
  | .rol ds, S, R => R ds (fun _ => True) S
  | .ref n, S, R => ∃ ds, S[n]? = some (.lst ds) ∧ R ds (fun S' => S'[n]? = some (.lst ds)) S
  | _, _, _ => False
def mI1 (f : D → Sto → (List D → (Sto → Prop) → Sto → Prop) → Prop) (m : ME) : MI := fun W ρ S R => m W ρ S fun d S1 => f d S1 R
theorem ji_tup {tg l : Expr} {m : ME} (hl : JE X E l m) : JI X E tg l (mI1 fTupI m) := weakI (pi_tup hl) fun σ H R ⟨π, ρ, S, W, RI, rs, re, wk, hm, af⟩ =>
  ⟨π, ρ, S, W, _, rs, re, wk, hm, fun d S1 hd v π1 H1 rs1 rv1 e1 => by
    cases rv1 with
    | tup ht hv =>
      refine ⟨_, rfl, ⟨_, ht⟩, af _ _ _ hd _ π1 H1 rs1 e1 ⟨fun i d hd π' S' H' rs e _ => ?_, fun π' S' H' rs e _ => ⟨_, e.sqt ht, by rw [hv.length]; exact Nat.le_refl _⟩⟩⟩
      obtain ⟨v, h1, h2⟩ := hv.get hd
      refine ⟨⟨_, v, e.sqt ht, h1⟩, fun x H'' ⟨e1, e2⟩ => ?_⟩
      subst e1
      have := e2 _ (e.sqt ht)
      rw [h1] at this
      cases this
      exact ⟨rs, h2.ext e, Ext.refl _ _⟩
    | _ => exact hd.elim⟩
theorem ji_lst {tg l : Expr} {m : ME} (hl : JE X E l m) : JI X E tg l (mI1 fLstI m) := weakI (pi_list hl) fun σ H R ⟨π, ρ, S, W, RI, rs, re, wk, hm, af⟩ =>
  ⟨π, ρ, S, W, _, rs, re, wk, hm, fun d S1 hd v π1 H1 rs1 rv1 e1 => by
    cases rv1 with
    | rol ht hv =>
      refine ⟨_, rfl, ⟨_, ht.seq⟩, af _ _ _ hd _ π1 H1 rs1 e1 ⟨fun i d hd π' S' H' rs e _ => ?_, fun π' S' H' rs e _ => ⟨_, (e.sqr ht).seq, by rw [hv.length]; exact Nat.le_refl _⟩⟩⟩
      obtain ⟨v, h1, h2⟩ := hv.get hd
      refine ⟨⟨_, v, (e.sqr ht).seq, h1⟩, fun x H'' ⟨e1, e2⟩ => ?_⟩
      subst e1
      have := e2 _ (e.sqr ht).seq
      rw [h1] at this
      cases this
      exact ⟨rs, h2.ext e, Ext.refl _ _⟩
    | @ref n a hn =>
      obtain ⟨ds, hS, hd⟩ := hd
      obtain ⟨b, xs, h1, h2, h3⟩ := rs1.lstAt hS
      cases rs1.of_ref hn h1
      refine ⟨_, rfl, ⟨_, SqL.of h2⟩, af _ _ _ hd _ π1 H1 rs1 e1 ⟨fun i d hd π' S' H' rs e hG => ?_, fun π' S' H' rs e hG => ?_⟩⟩
      · obtain ⟨b', xs', g1, g2, g3⟩ := rs.lstAt hG
        cases Option.some.inj ((e.get h1).symm.trans g1)
        obtain ⟨v, q1, q2⟩ := g3.get hd
        refine ⟨⟨_, v, SqL.of g2, q1⟩, fun x H'' ⟨e1, e2⟩ => ?_⟩
        subst e1
        have := e2 _ (SqL.of g2)
        rw [q1] at this
        cases this
        exact ⟨rs, q2, Ext.refl _ _⟩
      · obtain ⟨b', xs', g1, g2, g3⟩ := rs.lstAt hG
        cases Option.some.inj ((e.get h1).symm.trans g1)
        exact ⟨_, SqL.of g2, by rw [g3.length]; exact Nat.le_refl _⟩
    | _ => exact hd.elim⟩
/-- lo, lo + 1, .. -/
def rangeD (lo : Int) (n : Nat) : List D := (List.range n).map fun i => .int (lo + (i : Nat))
theorem rangeD_get {lo : Int} {n i : Nat} {d : D} (h : (rangeD lo n)[i]? = some d) : i < n ∧ d = .int (lo + (i : Nat)) := by
  unfold rangeD at h
  rw [List.getElem?_map] at h
  cases e : (List.range n)[i]? with
  | none => rw [e] at h; simp at h
  | some j =>
    obtain ⟨h1, h2⟩ := List.getElem?_eq_some_iff.mp e
    simp at h1 h2
    rw [e] at h
    simp at h
    exact ⟨h1, by rw [← h, h2]⟩
theorem rangeD_length (lo : Int) (n : Nat) : (rangeD lo n).length = n := by unfold rangeD; simp
theorem walks_rng {K : PySem.W.Frag} {π : List Addr} {H : Hp} {lo : Int} {n : Nat} : Walks K π H (Itr lo n) (rangeD lo n) (fun _ => True) :=
  ⟨fun i d hd π' S' H' rs e _ => by
    obtain ⟨h1, rfl⟩ := rangeD_get hd
    exact ⟨h1, fun x H'' ⟨e1, e2⟩ => by subst e1 e2; exact ⟨rs, .int _, Ext.refl _ _⟩⟩, fun π' S' H' rs e _ => by rw [rangeD_length]; exact Nat.le_refl _⟩
def mRng1 (m : MA) : MI := fun W ρ S R => m W ρ S fun ds S1 => match ds with
  | [.int j] => (-(2 ^ 62) ≤ j ∧ j < 2 ^ 62) ∧ R (rangeD 0 j.toNat) (fun _ => True) S1
  | _ => False
def mRng2 (m : MA) : MI := fun W ρ S R => m W ρ S fun ds S1 => match ds with
  | [.int i, .int j] => (-(2 ^ 62) ≤ i ∧ i < 2 ^ 62 ∧ -(2 ^ 62) ≤ j ∧ j < 2 ^ 62) ∧ R (rangeD i (j - i).toNat) (fun _ => True) S1
  | _ => False
theorem ji_rng1 {tg it : Expr} {m : MA} (h : PI X tg it (iRng1 (tMA X.mg X.K E m))) : JI X E tg it (mRng1 m) :=
  weakI h fun σ H R ⟨π, ρ, S, W, RI, rs, re, wk, hm, af⟩ => ⟨π, ρ, S, W, _, rs, re, wk, hm, fun d S1 hm v π1 H1 rs1 rv1 e1 => by
    match d, rv1, hm with
    | [.int j], .cons (.int _) .nil, ⟨hb, hd⟩ =>
      exact ⟨j, rfl, hb.1, hb.2, af _ _ _ hd _ π1 H1 rs1 e1 walks_rng⟩⟩
theorem ji_rng2 {tg it : Expr} {m : MA} (h : PI X tg it (iRng2 (tMA X.mg X.K E m))) : JI X E tg it (mRng2 m) :=
  weakI h fun σ H R ⟨π, ρ, S, W, RI, rs, re, wk, hm, af⟩ => ⟨π, ρ, S, W, _, rs, re, wk, hm, fun d S1 hm v π1 H1 rs1 rv1 e1 => by
    match d, rv1, hm with
    | [.int i, .int j], .cons (.int _) (.cons (.int _) .nil), ⟨hb, hd⟩ =>
        exact ⟨i, j, rfl, hb, af _ _ _ hd _ π1 H1 rs1 e1 walks_rng⟩⟩
/-- while -/
def mWh (t : MT) (mb : MS) (W : XW) (B : ES) : Nat → Env → Sto → Prop
  | 0, _, _ => False
  | n + 1, ρ, S => t W ρ S fun k S1 => Br k (mb W { B with nx := mWh t mb W B n, ct := mWh t mb W B n, bk := B.nx } ρ S1) (B.nx ρ S1)
def mWhile (t : MT) (mb : MS) : MS := fun W B ρ S => ∃ n, mWh t mb W B n ρ S
theorem js_while {c : Expr} {body : List Stmt} {t : MT} {mb : MS} (hp : PassesOwn (model X.prog X.w) X.A X.env X.xe) (hc : JT X E c t) (hb : JSs X E body mb) : JS X E (.While c body [] pos) (mWhile t mb) := weakS (ps_while hp hc hb) fun F σ H ⟨π, ρ, S, W, B, rs, re, wk, ⟨n, hm⟩, ft⟩ => by
  refine ⟨fun m σ' H' => ∃ π' ρ' S', RelS X.K π' S' H' ∧ RE X.K π' H' ρ' σ' ∧ Ext π H π' H' ∧ mWh t mb W B m ρ' S', ⟨n, π, ρ, S, rs, re, Ext.refl _ _, hm⟩, ?_⟩
  rintro m σ' H' ⟨π', ρ', S', rs', re', e', hl⟩
  cases m with
  | zero => exact hl.elim
  | succ m =>
    refine ⟨π', ρ', S', W, _, rs', re', wk.ext e', hl, fun k S1 h1 π1 H1 rs1 e1 => ?_⟩
    have e2 := e'.trans e1
    cases k with
    | true =>
      refine ⟨fun σ'' H'' => ∃ π'' ρ'' S'', RelS X.K π'' S'' H'' ∧ RE X.K π'' H'' ρ'' σ'' ∧ Ext π H π'' H'' ∧ mWh t mb W B m ρ'' S'', fun σ'' H'' ⟨π'', ρ'', S'', a, b, c, d⟩ => ⟨m, Nat.lt_succ_self m, π'', ρ'', S'', a, b, c, d⟩, ?_⟩
      exact ⟨π1, ρ', S1, W, _, rs1, re'.ext e1, wk.ext e2, h1.1 rfl, fun ρ4 S4 h4 σ4 π4 H4 a b c => ⟨π4, ρ4, S4, a, b, e2.trans c, h4⟩, (ft.ext e2).rt, fun ρ4 S4 h4 σ4 π4 H4 a b c => (ft.ext e2).nx _ _ h4 σ4 π4 H4 a b c, fun ρ4 S4 h4 σ4 π4 H4 a b c => ⟨π4, ρ4, S4, a, b, e2.trans c, h4⟩⟩
    | false => exact ft.nx _ _ (h1.2 rfl) σ' π1 H1 rs1 (re'.ext e1) e2
end
end MP

namespace MP
open PySem PySem.Spec PyProof.Rows L2

/-! ### defs -/
abbrev SpD := XW → List D → Sto → Post → Prop
def spOf (mg : Str → Option Value) (K : PySem.W.Frag) (f : SpD) : Sp := fun vs H Q E => ∃ π S ds W R, RelS K π S H ∧ RVs K π H ds vs ∧ WOk mg K E W π H ∧ f W ds S R ∧ After K π H R Q
mutual
/-- no object of the store from n on is in it -/
def scD (n : Nat) : D → Bool
  | .ref k => decide (k < n)
  | .tup ds => scDs n ds
  | .rol ds => scDs n ds
  | .non => true
  | .bl _ => true
  | .int _ => true
  | .str _ => true
def scDs (n : Nat) : List D → Bool
  | [] => true
  | d :: ds => scD n d && scDs n ds
end
def scO (n : Nat) : O → Bool
  | .lst ds => scDs n ds
  | .dct kvs => scDs n (kvs.map (·.1)) && scDs n (kvs.map (·.2))
  | .set ds => scDs n ds
section
variable {K : PySem.W.Frag} {π : List Addr} {H : Hp}
mutual
theorem RV.cut {n : Nat} : ∀ {d : D} {v : V}, RV K π H d v → scD n d = true → RV K (π.take n) H d v
  | _, _, .non, _ => .non
  | _, _, .bl b, _ => .bl b
  | _, _, .int i, _ => .int i
  | _, _, .str x, _ => .str x
  | _, _, .tup h hs, s => .tup h (RVs.cut hs (by simpa [scD] using s))
  | _, _, .rol h hs, s => .rol h (RVs.cut hs (by simpa [scD] using s))
  | .ref k, _, .ref h, s => .ref (by
      have : k < n := by simpa [scD] using s
      rw [List.getElem?_take_of_lt this]
      exact h)
theorem RVs.cut {n : Nat} : ∀ {ds : List D} {vs : List V}, RVs K π H ds vs → scDs n ds = true → RVs K (π.take n) H ds vs
  | _, _, .nil, _ => .nil
  | d :: ds, _, .cons h t, s => by
    have s' : scD n d = true ∧ scDs n ds = true := by simpa [scDs] using s
    exact .cons (RV.cut h s'.1) (RVs.cut t s'.2)
end
end
mutual
theorem scD.mono {n m : Nat} (h : n ≤ m) : ∀ d : D, scD n d = true → scD m d = true
  | .ref k, s => by
    have : k < n := by simpa [scD] using s
    simpa [scD] using Nat.lt_of_lt_of_le this h
  | .tup ds, s => by
    simp only [scD] at s ⊢
    exact scDs.mono h ds s
  | .rol ds, s => by
    simp only [scD] at s ⊢
    exact scDs.mono h ds s
  | .non, _ => by simp [scD]
  | .bl _, _ => by simp [scD]
  | .int _, _ => by simp [scD]
  | .str _, _ => by simp [scD]
theorem scDs.mono {n m : Nat} (h : n ≤ m) : ∀ ds : List D, scDs n ds = true → scDs m ds = true
  | [], _ => by simp [scDs]
  | d :: ds, s => by
    have s' : scD n d = true ∧ scDs n ds = true := by simpa [scDs] using s
    simp [scDs, scD.mono h d s'.1, scDs.mono h ds s'.2]
end
theorem scO.mono {n m : Nat} (h : n ≤ m) {o : O} (s : scO n o = true) : scO m o = true := by
  cases o with
  | lst ds => exact scDs.mono h ds s
  | dct kvs =>
    simp only [scO, Bool.and_eq_true] at s ⊢
    exact ⟨scDs.mono h _ s.1, scDs.mono h _ s.2⟩
  | set ds => exact scDs.mono h ds s
section
variable {K : PySem.W.Frag} {π : List Addr} {H : Hp}
mutual
theorem RV.sc : ∀ {d : D} {v : V}, RV K π H d v → scD π.length d = true
  | _, _, .non => by simp [scD]
  | _, _, .bl b => by simp [scD]
  | _, _, .int i => by simp [scD]
  | _, _, .str x => by simp [scD]
  | _, _, .tup h hs => by simpa [scD] using RVs.sc hs
  | _, _, .rol h hs => by simpa [scD] using RVs.sc hs
  | _, _, .ref h => by simpa [scD] using (List.getElem?_eq_some_iff.mp h).1
theorem RVs.sc : ∀ {ds : List D} {vs : List V}, RVs K π H ds vs → scDs π.length ds = true
  | _, _, .nil => by simp [scDs]
  | _, _, .cons h t => by simp [scDs, RV.sc h, RVs.sc t]
end
theorem RO.sc {o : O} {u : HO} (h : RO K π H o u) : scO π.length o = true := by
  cases h with
  | lst h => exact h.sc
end
/-- what the def's end leaves: the newest objects may be forgotten -/
def Drop (T : Sto) (R : Post) (d : D) (S : Sto) : Prop := R d S ∨ ∃ n, T.length ≤ n ∧ scD n d = true ∧ (∀ (i : Nat) (o : O), (S.take n)[i]? = some o → T[i]? = some o ∨ scO n o = true) ∧ R d (S.take n)
theorem Drop.keep {T : Sto} {R : Post} {d : D} {S : Sto} (h : R d S) : Drop T R d S := .inl h
/-- all that the def made is forgotten -/
theorem Drop.all {T G : Sto} {R : Post} {d : D} (h : R d T) (hd : scD 0 d = true) : Drop T R d (T ++ G) := .inr ⟨T.length, Nat.le_refl _, scD.mono (Nat.zero_le _) d hd, fun i o h => by
  rw [List.take_left] at h
  exact .inl h, by rw [List.take_left]; exact h⟩
theorem After.drop {K : PySem.W.Frag} {π : List Addr} {S : Sto} {H : Hp} {R : Post} {Q : VK} (rs : RelS K π S H) (af : After K π H R Q) : After K π H (Drop S R) Q := fun d S' h v π' H' rs' rv e => by
  rcases h with h | ⟨n, hn, hd, ho, h⟩
  · exact af d S' h v π' H' rs' rv e
  · refine af d _ h v (π'.take n) H' ⟨by rw [List.length_take, List.length_take, rs'.len], rs'.nd.sublist (List.take_sublist _ _), fun m o hm => ?_⟩ (rv.cut hd) ⟨?_, e.tup, e.frz, e.oth, e.there⟩
    · have hsc : scO n o = true := by
        rcases ho m o hm with z | z
        · obtain ⟨a, u, _, _, h3⟩ := rs.obj m o z
          exact scO.mono (by rw [rs.len]; exact hn) h3.sc
        · exact z
      have hmn : m < n := by
        have := (List.getElem?_eq_some_iff.mp hm).1
        rw [List.length_take] at this
        omega
      rw [List.getElem?_take_of_lt hmn] at hm
      obtain ⟨a, u, h1, h2, h3⟩ := rs'.obj m o hm
      refine ⟨a, u, by rw [List.getElem?_take_of_lt hmn]; exact h1, h2, ?_⟩
      cases h3 with
      | lst h3 => exact .lst (h3.cut (by simpa [scO] using hsc))
    · obtain ⟨r, e1, e2⟩ := e.pre
      have hl : π.length ≤ n := by rw [rs.len]; exact hn
      refine ⟨r.take (n - π.length), ?_, fun a ha => e2 a (List.mem_of_mem_take ha)⟩
      rw [e1, List.take_append, List.take_of_length_le hl]
def startD (N : List Str) (ds : List D) : Env := ds.map some ++ List.replicate (N.length - ds.length) none
theorem RE.start {K : PySem.W.Frag} {π : List Addr} {H : Hp} {N : List Str} {ds : List D} {vs : List V} (r : RVs K π H ds vs) : RE K π H (startD N ds) (start N vs) := by
  have hl := r.length
  refine ⟨by simp [startD, L2.start, hl], fun i d h => ?_⟩
  unfold startD at h
  unfold L2.start
  by_cases hi : i < ds.length
  · rw [List.getElem?_append_left (by simpa using hi), List.getElem?_map] at h
    cases e : ds[i]? with
    | none => rw [e] at h; simp at h
    | some d' =>
      rw [e] at h
      simp at h
      subst h
      obtain ⟨v, h1, h2⟩ := r.get e
      exact ⟨v, by rw [List.getElem?_append_left (by simpa [← hl] using hi), List.getElem?_map, h1]; rfl, h2⟩
  · rw [List.getElem?_append_right (by simpa using hi)] at h
    rw [List.getElem?_replicate] at h
    split at h
    · simp at h
    · simp at h
section
variable {P : Program} {w : World} {K : PySem.W.Frag} {mg : Str → Option Value} {base : Heap}
abbrev cx (P : Program) (w : World) (K : PySem.W.Frag) (mg : Str → Option Value) (base : Heap) (N : List Str) (qual : Str) (st : Stmt) (f : Addr) (cdv : Value) (A : Around) (outer : List PySem.Env) (s : Shared) (H : Hp) (E : XK) : Cx :=
  cxOf (L2.CX P w) P w K mg base N qual (defScope st) f cdv A outer s H E
theorem passE {N : List Str} {qual : Str} {scope : Scope} {f : Addr} {cd : Value} {A : Around} {outer : List PySem.Env} {s : Shared} {H : Hp} {E : XK} : Passes (L2.CX P w) (cxOf (L2.CX P w) P w K mg base N qual scope f cd A outer s H E) E :=
  passes_call (takes_of rfl rfl rfl rfl) fun _ _ _ _ h => h
theorem ownE {N : List Str} {qual : Str} {scope : Scope} {f : Addr} {cd : Value} {A : Around} {outer : List PySem.Env} {s : Shared} {H : Hp} {E : XK} :
    PassesOwn (model P w) (A.deeper (envOfC qual scope s.heap.objs.size f cd)) (envOfC qual scope s.heap.objs.size f cd) (cxOf (L2.CX P w) P w K mg base N qual scope f cd A outer s H E).xe :=
  passes_of (X := cxOf (L2.CX P w) P w K mg base N qual scope f cd A outer s H E) rfl
/-- THE RULE for a def -/
theorem fn_ok {x qual : Str} {st : Stmt} {f : Addr} {fd : FuncData} {N ps : List Str} {k : Nat} {sp : SpD} {m : MS} (F : Fun K x qual st f fd) (S : FnScope N ps (defScope st)) (len : ∀ W ds T R, sp W ds T R → ds.length = ps.length)
    (hb : ∀ (cdv : Value) (A : Around) (outer : List PySem.Env) (s : Shared) (H : Hp) (E : XK), Room k (A.deeper (envOfC qual (defScope st) s.heap.objs.size f cdv)) → JSs (cxOf (L2.CX P w) P w K mg base N qual (defScope st) f cdv A outer s H E) E (defBody st) m)
    (law : ∀ W ds T R, sp W ds T R → m W { nx := fun _ T' => Drop T R .non T', rt := Drop T R } (startD N ds) T) : FnOk P w K mg base (L2.CX P w) (k + 1) f fd ps (spOf mg K sp) := by
  refine F.okX S (fun vs H Q E h => ?_) (fun cdv A outer s H vs Q E hr h => ?_)
  · obtain ⟨π, T, ds, W, R, _, rv, _, h, _⟩ := h
    rw [← rv.length]
    exact len _ _ _ _ h
  · obtain ⟨π, T, ds, W, R, rs, rv, wk, h, af⟩ := h
    refine ⟨_, hb cdv A outer s H E hr, π, startD N ds, T, W, _, rs, RE.start rv, wk, law W ds T R h, ⟨fun ρ S' h σ' π' H' a b c => (af.drop rs) _ _ h _ π' H' a .non c, af.drop rs, fun _ _ h => h.elim, fun _ _ h => h.elim⟩⟩
end
section
variable {X : Cx} {E : XK}
def mCall (sp : SpD) (m : MA) : ME := fun W ρ S R => m W ρ S fun ds S1 => sp W ds S1 R
theorem snd_call {mg : Str → Option Value} {K : PySem.W.Frag} {sp : SpD} {m : MA} {σ : L2.St} {H : Hp} {Q : VK} (h : tM mg K E (mCall sp m) σ H Q) : tCall (spOf mg K sp) [] E (tMA mg K E m) σ H Q := by
  obtain ⟨π, ρ, S, W, R, rs, re, wk, hm, af⟩ := h
  refine ⟨π, ρ, S, W, _, rs, re, wk, hm, fun ds S1 hd vs π1 H1 rs1 rv1 e1 => ?_⟩
  show spOf mg K sp (vs ++ []) H1 Q E
  rw [List.append_nil]
  exact ⟨π1, S1, ds, W, R, rs1, rv1, wk.ext e1, hd, af.ext e1⟩
/-- f(e, ..) of a def -/
theorem je_call {e : Expr} {sp : SpD} {m : MA} (h : PE X e (tCall (spOf X.mg X.K sp) [] E (tMA X.mg X.K E m))) : JE X E e (mCall sp m) := weakE h fun _ _ _ hq => snd_call hq

/-! ### comprehensions -/
theorem RelS.adopt {K : PySem.W.Frag} {π : List Addr} {S : Sto} {H : Hp} (r : RelS K π S H) {p : Addr} {o : O} {u : HO} (hp : H p = some u) (hn : p ∉ π) (h : RO K π H o u) : RelS K (π ++ [p]) (S ++ [o]) H := by
  have kp : Kp π H (π ++ [p]) H := ⟨⟨[p], rfl⟩, fun _ _ h => h, fun _ _ _ h => h⟩
  refine ⟨by simp [r.len], ?_, fun n ob hm => ?_⟩
  · rw [List.nodup_append]
    refine ⟨r.nd, by simp, fun a ha b hb => ?_⟩
    simp at hb
    subst hb
    exact fun e => hn (e ▸ ha)
  · by_cases hl : n < S.length
    · rw [List.getElem?_append_left hl] at hm
      obtain ⟨a, w, h1, h2, h3⟩ := r.obj n ob hm
      exact ⟨a, w, kp.get h1, h2, h3.kp kp⟩
    · rw [List.getElem?_append_right (by omega)] at hm
      have e0 : n - S.length = 0 := by
        cases e : n - S.length with
        | zero => rfl
        | succ k => rw [e] at hm; simp at hm
      have en : n = π.length := by rw [r.len]; omega
      rw [e0] at hm
      simp at hm
      subst hm
      refine ⟨p, u, by rw [en, List.getElem?_append_right (Nat.le_refl _)]; simp, hp, h.kp kp⟩
theorem Ext.adopt {π π' : List Addr} {H H' : Hp} (e : Ext π H π' H') {p : Addr} (hp : H p = none) : Ext π H (π' ++ [p]) H' := by
  obtain ⟨r, e1, e2⟩ := e.pre
  refine ⟨⟨r ++ [p], by rw [e1, List.append_assoc], fun a ha => ?_⟩, e.tup, e.frz, e.oth, e.there⟩
  rcases List.mem_append.mp ha with h | h
  · exact e2 a h
  · simp at h
    rw [h]
    exact hp
/-- an object beside the store is changed -/
theorem kp_side {π : List Addr} {H : Hp} {p : Addr} {xs ys : List V} (hp : H p = some (.lst xs)) : Kp π H π (upd H p (.lst ys)) :=
  ⟨⟨[], by simp⟩, fun a zs h => by rw [upd_ne (ne_of h hp (fun z => nomatch z))]; exact h, fun a o u h => by rw [upd_ne (ne_of h hp (fun z => nomatch z))]; exact h⟩
theorem RelS.side {K : PySem.W.Frag} {π : List Addr} {S : Sto} {H : Hp} (r : RelS K π S H) {p : Addr} {xs ys : List V} (hp : H p = some (.lst xs)) (hn : p ∉ π) : RelS K π S (upd H p (.lst ys)) :=
  ⟨r.len, r.nd, fun n o h => by
    obtain ⟨a, u, h1, h2, h3⟩ := r.obj n o h
    have ha : a ≠ p := fun e => hn (e ▸ List.mem_of_getElem? h1)
    exact ⟨a, u, h1, by rw [upd_ne ha]; exact h2, h3.kp (kp_side hp)⟩⟩
theorem Ext.side {π π' : List Addr} {H H' : Hp} (e : Ext π H π' H') {p : Addr} {o : HO} (hp : H p = none) : Ext π H π' (upd H' p o) :=
  ⟨e.pre, fun a xs h => by rw [upd_ne (ne_of_none h hp)]; exact e.tup _ _ h, fun a ob u h => by rw [upd_ne (ne_of_none h hp)]; exact e.frz _ _ _ h, fun a ob h hn => by rw [upd_ne (ne_of_none h hp)]; exact e.oth _ _ h hn, fun a h => by
    by_cases ea : a = p
    · rw [ea]; exact hp
    · rw [upd_ne ea] at h; exact e.there _ h⟩
def wipeD (ρ : Env) : List Nat → Env
  | [] => ρ
  | v :: vs => (wipeD ρ vs).set v none
theorem RE.wipe {K : PySem.W.Frag} {π : List Addr} {H : Hp} {ρ : Env} {σ : L2.St} (r : RE K π H ρ σ) : ∀ vs : List Nat, RE K π H (wipeD ρ vs) (wipe σ vs)
  | [] => r
  | v :: vs => by
    have ih := RE.wipe r vs
    refine ⟨by simp [wipeD, L2.wipe, ih.len], fun i d h => ?_⟩
    unfold wipeD at h
    unfold L2.wipe
    by_cases e : v = i
    · subst e
      have hl : v < (wipeD ρ vs).length := by
        have := (List.getElem?_eq_some_iff.mp h).1
        simpa using this
      rw [List.getElem?_set_self hl] at h
      cases h
    · rw [List.getElem?_set_ne e] at h
      rw [List.getElem?_set_ne e]
      exact ih.get i d h
theorem wipe_set {σ : L2.St} {i : Nat} {x : Option V} : ∀ {vs : List Nat}, i ∈ vs → wipe (σ.set i x) vs = wipe σ vs
  | v :: vs, h => by
    unfold L2.wipe
    by_cases e : i ∈ vs
    · rw [wipe_set e]
    · have hv : i = v := by
        rcases List.mem_cons.mp h with h | h
        · exact h
        · exact absurd h e
      subst hv
      have go : ∀ us : List Nat, (wipe (σ.set i x) us).set i none = (wipe σ us).set i none := by
        intro us
        induction us with
        | nil =>
          show (σ.set i x).set i none = σ.set i none
          rw [List.set_set]
        | cons u us ih =>
          show ((wipe (σ.set i x) us).set u none).set i none = ((wipe σ us).set u none).set i none
          by_cases eu : u = i
          · subst eu
            rw [List.set_set, List.set_set, ih]
          · rw [List.set_comm _ _ eu, ih, List.set_comm _ _ (Ne.symm eu)]
      exact go vs
/-- a comprehension's target: names of the block's own -/
def CompT (K : PySem.W.Frag) (tg : TG) (g : MG) (vs : List Nat) : Prop := ∀ (π : List Addr) (S : Sto) (H : Hp) (ρ : Env) (σ : L2.St) (d : D) (v : V) (W : XW) (R : Env → Sto → Prop) (Q : L2.St → Hp → Prop),
  RelS K π S H → RE K π H ρ σ → RV K π H d v → g W d ρ S R → (∀ ρ' σ', R ρ' S → RE K π H ρ' σ' → wipe σ' vs = wipe σ vs → Q σ' H) → tg v σ H Q
theorem compT_name {K : PySem.W.Frag} {i : Nat} {vs : List Nat} (h : i ∈ vs) : CompT K (gName i) (mgName i) vs := fun π S H ρ σ d v W R Q rs re rv hg k => k _ _ hg (re.set rv) (wipe_set h)
theorem compT_two {K : PySem.W.Frag} {i j : Nat} {vs : List Nat} (hi : i ∈ vs) (hj : j ∈ vs) : CompT K (gTup K 2 (gCons (gName i) (gCons (gName j) gNil))) (mgTup 2 (mgCons (mgName i) (mgCons (mgName j) mgNil))) vs :=
  fun π S H ρ σ d v W R Q rs re rv hm k => by
    cases rv <;> try exact (False.elim hm)
    case tup a xs ds ht hv =>
      obtain ⟨hl, hm⟩ := hm
      cases hv with
      | nil => exact (False.elim hm)
      | cons h1 t => cases t with
        | nil => exact (False.elim hm)
        | cons h2 t => cases t with
          | cons _ _ => exact (False.elim hm)
          | nil => exact ⟨_, _, rfl, ht, rfl, _, _, rfl, _, _, rfl, rfl, k _ _ hm ((re.set h1).set h2) (by rw [wipe_set hj, wipe_set hi])⟩
theorem compT_three {K : PySem.W.Frag} {i j l : Nat} {vs : List Nat} (hi : i ∈ vs) (hj : j ∈ vs) (hk : l ∈ vs) : CompT K (gTup K 3 (gCons (gName i) (gCons (gName j) (gCons (gName l) gNil)))) (mgTup 3 (mgCons (mgName i) (mgCons (mgName j) (mgCons (mgName l) mgNil)))) vs :=
  fun π S H ρ σ d v W R Q rs re rv hm k => by
    cases rv <;> try exact (False.elim hm)
    case tup a xs ds ht hv =>
      obtain ⟨hl, hm⟩ := hm
      cases hv with
      | nil => exact (False.elim hm)
      | cons h1 t => cases t with
        | nil => exact (False.elim hm)
        | cons h2 t => cases t with
          | nil => exact (False.elim hm)
          | cons h3 t => cases t with
            | cons _ _ => exact (False.elim hm)
            | nil => exact ⟨_, _, rfl, ht, rfl, _, _, rfl, _, _, rfl, _, _, rfl, rfl, k _ _ hm (((re.set h1).set h2).set h3) (by rw [wipe_set hk, wipe_set hj, wipe_set hi])⟩
abbrev W0 : XW := fun _ _ => False
def cLoop (g : MG) (mt : MT) (me : ME) (G : Sto → Prop) (ρ : Env) : List D → List D → Sto → (List D → Sto → Prop) → Prop
  | [], acc, S, R => G S ∧ R acc S
  | d :: ds, acc, S, R => G S ∧ g W0 d ρ S fun ρ' S1 => mt W0 ρ' S1 fun k S2 => Br k (me W0 ρ' S2 fun y S3 => acc.length < sizeLine ∧ cLoop g mt me G ρ ds (acc ++ [y]) S3 R) (cLoop g mt me G ρ ds acc S2 R)
/-- [e for t in i if c], its items -/
def mItems (vs : List Nat) (mi : MI) (g : MG) (mt : MT) (me : ME) : MA := fun W ρ S R => mi W ρ S fun ds G S1 => cLoop g mt me G (wipeD ρ vs) ds [] S1 R
def mYes : MT := fun _ _ S R => R true S
/-- the core: what a new list of such items is, beside the store -/
theorem comp_core {mg : Str → Option Value} {K : PySem.W.Frag} {vs : List Nat} {mi : MI} {g : MG} {tg : TG} {mt : MT} {me : ME} (CT : CompT K tg g vs) {σ : L2.St} {H : Hp} {Q : VK} {π : List Addr} {ρ : Env} {S : Sto} {W : XW} {R : List D → Sto → Prop}
    (rs : RelS K π S H) (re : RE K π H ρ σ) (wk : WOk mg K E W π H) (h : mItems vs mi g mt me W ρ S R)
    (fin : ∀ p acc xs π' S' H', R acc S' → RelS K π' S' H' → H' p = some (.lst xs) → RVs K π' H' acc xs → H p = none → p ∉ π' → Ext π H π' H' → Q (.ref p) H') : tLc (tMI mg K E mi) tg (tMT mg K E0 mt) (tM mg K E0 me) vs σ H Q := by
  refine ⟨π, ρ, S, W, _, rs, re, wk, h, fun ds G S1 hl J π1 H1 rs1 e1 wl D hD => ?_⟩
  have hD0 : H D = none := e1.there _ hD
  refine ⟨fun i m H' => ∃ π' S' acc xs, m = ds.length - i ∧ i ≤ ds.length ∧ RelS K π' S' H' ∧ Ext π1 H1 π' H' ∧ H' D = some (.lst xs) ∧ D ∉ π' ∧ RVs K π' H' acc xs ∧ cLoop g mt me G (wipeD ρ vs) (ds.drop i) acc S' R, ⟨ds.length, π1, S1, [], [], rfl, Nat.zero_le _, rs1.newFree hD, Ext.newFree hD, upd_same, fun z => ?_, .nil, by simpa using hl⟩, ?_⟩
  · obtain ⟨_, _, u, _, _, h2, _⟩ := rs1.at z
    rw [hD] at h2
    cases h2
  rintro i m H' ⟨π', S', acc, xs, rfl, hi, rs', e', hxs, hnD, rvs, hl'⟩
  have e2 := e1.trans e'
  by_cases hlt : i < ds.length
  · rw [List.drop_eq_getElem_cons hlt] at hl'
    obtain ⟨hG, hl'⟩ := hl'
    obtain ⟨h1, h2⟩ := wl.go i ds[i] (List.getElem?_eq_getElem hlt) π' S' H' rs' e' hG
    refine .inr ⟨h1, fun H'' => ∃ π'' S'' acc xs, RelS K π'' S'' H'' ∧ Ext π1 H1 π'' H'' ∧ H'' D = some (.lst xs) ∧ D ∉ π'' ∧ RVs K π'' H'' acc xs ∧ cLoop g mt me G (wipeD ρ vs) (ds.drop (i + 1)) acc S'' R,
      fun H'' ⟨π'', S'', acc, xs, a, b, c, d, e, f⟩ => ⟨ds.length - (i + 1), by omega, π'', S'', acc, xs, rfl, hlt, a, b, c, d, e, f⟩, fun x H2 hy => ?_⟩
    obtain ⟨rs2, rv2, e3⟩ := h2 x H2 hy
    have re2 : RE K π' H2 (wipeD ρ vs) (wipe σ vs) := (re.ext (e2.trans e3)).wipe vs
    refine CT π' S' H2 _ _ _ _ W0 _ _ rs2 re2 rv2 hl' fun ρ' σ' hR re' hw => ⟨hw.trans ?_, ?_⟩
    · -- wiping twice
      have ww : ∀ us : List Nat, (∀ u ∈ us, u ∈ vs) → wipe (wipe σ us) vs = wipe σ vs := by
        intro us
        induction us with
        | nil => intro _; rfl
        | cons u us ih =>
          intro hu
          show wipe ((wipe σ us).set u none) vs = wipe σ vs
          rw [wipe_set (hu u List.mem_cons_self)]
          exact ih fun u' h => hu u' (List.mem_cons_of_mem _ h)
      exact ww vs fun _ h => h
    · have hx2 : H2 D = some (.lst xs) := e3.oth _ _ hxs hnD
      refine ⟨π', ρ', S', W0, _, rs2, re', WOk.never, hR, fun k S3 hk π3 H3 rs3 e4 => ?_⟩
      have hx3 : H3 D = some (.lst xs) := e4.oth _ _ hx2 hnD
      have hn3 : D ∉ π3 := fun z => by
        obtain ⟨r, ea, eb⟩ := e4.pre
        rw [ea] at z
        rcases List.mem_append.mp z with z | z
        · exact hnD z
        · rw [eb _ z] at hx2
          cases hx2
      have e6 := e'.trans (e3.trans e4)
      cases k with
      | false => exact ⟨π3, S3, acc, xs, rs3, e6, hx3, hn3, rvs.ext (e3.trans e4), hk.2 rfl⟩
      | true =>
        refine ⟨π3, ρ', S3, W0, _, rs3, re'.ext e4, WOk.never, hk.1 rfl, fun y S4 ⟨hlen, hy⟩ v π4 H4 rs4 rv4 e5 => ?_⟩
        have hx4 : H4 D = some (.lst xs) := e5.oth _ _ hx3 hn3
        have hn4 : D ∉ π4 := fun z => by
          obtain ⟨r, ea, eb⟩ := e5.pre
          rw [ea] at z
          rcases List.mem_append.mp z with z | z
          · exact hn3 z
          · rw [eb _ z] at hx3
            cases hx3
        have rvs4 := rvs.ext (e3.trans (e4.trans e5))
        exact ⟨xs, hx4, by rw [← rvs4.length]; exact hlen, π4, S4, acc ++ [y], xs ++ [v], rs4.side hx4 hn4, (e6.trans e5).side hD, upd_same, hn4, (rvs4.snoc rv4).kp (kp_side hx4), hy⟩
  · have ei : i = ds.length := by omega
    subst ei
    rw [List.drop_length] at hl'
    obtain ⟨hG, hl'⟩ := hl'
    exact .inl ⟨wl.stop π' S' H' rs' e' hG, fin D acc xs π' S' H' hl' rs' hxs rvs hD0 hnD e2⟩
def fNew : FN := fun ds S R => R (.ref S.length) (S ++ [.lst ds])
theorem je_lc {e : Expr} {vs : List Nat} {mi : MI} {g : MG} {tg : TG} {mt : MT} {me : ME} (CT : CompT X.K tg g vs) (h : PE X e (tLc (tMI X.mg X.K E mi) tg (tMT X.mg X.K E0 mt) (tM X.mg X.K E0 me) vs)) : JE X E e (mN fNew (mItems vs mi g mt me)) :=
  weakE h fun σ H Q ⟨π, ρ, S, W, R, rs, re, wk, hm, af⟩ => comp_core CT rs re wk hm fun p acc xs π' S' H' hR rs' hx rv hp hn e =>
    af _ _ hR _ (π' ++ [p]) H' (rs'.adopt hx hn (.lst rv)) (.ref (by rw [← rs'.len, List.getElem?_append_right (Nat.le_refl _)]; simp)) (e.adopt hp)
theorem js_setLc {s : Stmt} {i : Nat} {vs : List Nat} {mi : MI} {g : MG} {tg : TG} {mt : MT} {me : ME} (CT : CompT X.K tg g vs) (h : PS X s (tAsg (tLc (tMI X.mg X.K E mi) tg (tMT X.mg X.K E0 mt) (tM X.mg X.K E0 me) vs) (gName i))) : JS X E s (mSet i (mN fNew (mItems vs mi g mt me))) :=
  js_setBy h fun σ H Q ⟨π, ρ, S, W, R, rs, re, wk, hm, af⟩ => comp_core CT rs re wk hm fun p acc xs π' S' H' hR rs' hx rv hp hn e =>
    af _ _ hR _ (π' ++ [p]) H' (rs'.adopt hx hn (.lst rv)) (.ref (by rw [← rs'.len, List.getElem?_append_right (Nat.le_refl _)]; simp)) (e.adopt hp)
end
end MP

namespace MP
open PySem PySem.Spec PyProof.Rows L2

/-! ### operators on ints -/
def fI0 (g : Int → Int → D) : F2 := fun x y S R => match x, y with
  | .int i, .int j => R (g i j) S
  | _, _ => False
def fI (C : Int → Int → Prop) (g : Int → Int → D) : F2 := fun x y S R => match x, y with
  | .int i, .int j => C i j ∧ R (g i j) S
  | _, _ => False
section
variable {K : PySem.W.Frag}
theorem snd_I0 {gV : Int → Int → V} {g : Int → Int → D} (h : ∀ π H i j, RV K π H (g i j) (gV i j)) : Snd2 K (rI0 gV) (fI0 g) := fun π S H x y dx dy R Q rs r1 r2 q af => by
  cases r1 <;> cases r2 <;> try exact (False.elim q)
  case int.int i j => exact ⟨i, j, rfl, rfl, af _ _ q _ π H rs (h _ _ i j) (Ext.refl _ _)⟩
theorem snd_I {C : Int → Int → Prop} {C' : Int → Int → Prop} {gV : Int → Int → V} {g : Int → Int → D} (hc : ∀ i j, C i j → C' i j) (h : ∀ π H i j, RV K π H (g i j) (gV i j)) : Snd2 K (rI C' gV) (fI C g) := fun π S H x y dx dy R Q rs r1 r2 q af => by
  cases r1 <;> cases r2 <;> try exact (False.elim q)
  case int.int i j => exact ⟨i, j, rfl, rfl, hc _ _ q.1, af _ _ q.2 _ π H rs (h _ _ i j) (Ext.refl _ _)⟩
abbrev oSub : F2 := fI0 fun i j => .int (i - j)
abbrev oLtI : F2 := fI0 fun i j => .bl (decide (i < j))
abbrev oLe : F2 := fI0 fun i j => .bl (decide (i ≤ j))
abbrev oGt : F2 := fI0 fun i j => .bl (decide (j < i))
abbrev oGe : F2 := fI0 fun i j => .bl (decide (j ≤ i))
abbrev oDiv : F2 := fI CDivW fun i j => .int (i / j)
def CPos (_ j : Int) : Prop := 0 < j
theorem posC {i j : Int} (h : decide (0 < j) = true) : CPos i j := (of_decide_eq_true h : 0 < j)
abbrev oMod : F2 := fI CPos fun i j => .int (i % j)
abbrev oPow : F2 := fI CPow fun i j => .int (i ^ j.toNat)
theorem s_sub : Snd2 K (rI0 fun i j => .int (i - j)) oSub := snd_I0 fun _ _ _ _ => .int _
theorem s_lt : Snd2 K (rI0 fun i j => .bl (decide (i < j))) oLtI := snd_I0 fun _ _ _ _ => .bl _
theorem s_le : Snd2 K (rI0 fun i j => .bl (decide (i ≤ j))) oLe := snd_I0 fun _ _ _ _ => .bl _
theorem s_gt : Snd2 K (rI0 fun i j => .bl (decide (j < i))) oGt := snd_I0 fun _ _ _ _ => .bl _
theorem s_ge : Snd2 K (rI0 fun i j => .bl (decide (j ≤ i))) oGe := snd_I0 fun _ _ _ _ => .bl _
theorem s_div : Snd2 K (rI CDivW fun i j => .int (i / j)) oDiv := snd_I (fun _ _ h => h) fun _ _ _ _ => .int _
theorem s_mod : Snd2 K (rI (fun _ j => 0 < j) fun i j => .int (i % j)) oMod := snd_I (fun _ _ h => (show 0 < _ from h)) fun _ _ _ _ => .int _
theorem s_pow : Snd2 K (rI CPow fun i j => .int (i ^ j.toNat)) oPow := snd_I (fun _ _ h => h) fun _ _ _ _ => .int _
/-- unary minus -/
def oNeg : F1 := fun x S R => match x with
  | .int i => R (.int (-i)) S
  | _ => False
theorem s_neg : Snd1 K (rU fun i => .int (-i)) oNeg := fun π S H x dx R Q rs r1 q af => by
  cases r1 <;> try exact (False.elim q)
  case int i => exact ⟨i, rfl, af _ _ q _ π H rs (.int _) (Ext.refl _ _)⟩
/-! ### + and * -/
def oAdd : F2
  | .int i, .int j, S, R => R (.int (i + j)) S
  | .str a, .str b, S, R => a.length + b.length ≤ sizeLine ∧ R (.str (a ++ b)) S
  | .tup xs, .tup ys, S, R => xs.length + ys.length ≤ sizeLine ∧ R (.tup (xs ++ ys)) S
  | .ref n, .ref m, S, R => ∃ xs ys, S[n]? = some (.lst xs) ∧ S[m]? = some (.lst ys) ∧ xs.length + ys.length ≤ sizeLine ∧ R (.ref S.length) (S ++ [.lst (xs ++ ys)])
  | _, _, _, _ => False
def rAddD (K : PySem.W.Frag) : R2 := fun x y H Q => rI0 (fun i j => .int (i + j)) x y H Q ∨ rCatA K x y H Q ∨ rCat x y H Q ∨ ∃ i j, x = .str i ∧ y = .str j ∧ i.length + j.length ≤ sizeLine ∧ Q (.str (i ++ j)) H
theorem op_addD {X : Cx} : OpR X (binaryOp .Add) (rAddD X.K) := op_add.or (op_catA.or (op_cat.or op_add_str))
theorem s_add : Snd2 K (rAddD K) oAdd := fun π S H x y dx dy R Q rs r1 r2 h af => by
  cases r1 <;> cases r2 <;> try exact (False.elim h)
  case int.int i j => exact .inl ⟨i, j, rfl, rfl, af _ _ h _ π H rs (.int _) (Ext.refl _ _)⟩
  case str.str i j => exact .inr (.inr (.inr ⟨i, j, rfl, rfl, h.1, af _ _ h.2 _ π H rs (.str _) (Ext.refl _ _)⟩))
  case tup.tup a xs ds h1 v1 b ys es h2 v2 =>
    refine .inr (.inl ⟨a, b, xs, ys, rfl, rfl, h1, h2, by rw [← v1.length, ← v2.length]; exact h.1, fun e => ?_, fun _ e => ?_, fun _ _ p hp => af.tup rs (v1.append v2) h.2 hp⟩)
    · subst e
      cases v1
      exact af _ _ h.2 _ π H rs (.tup h2 v2) (Ext.refl _ _)
    · subst e
      cases v2
      refine af _ _ h.2 _ π H rs (.tup h1 ?_) (Ext.refl _ _)
      rw [List.append_nil]
      exact v1
  case ref.ref n a hn m b hm =>
    obtain ⟨xs, ys, h1, h2, hz, q⟩ := h
    obtain ⟨a', us, p1, p2, p3⟩ := rs.lstAt h1
    obtain ⟨b', ws, q1, q2, q3⟩ := rs.lstAt h2
    cases rs.of_ref hn p1
    cases rs.of_ref hm q1
    exact .inr (.inr (.inl ⟨a, b, us, ws, rfl, rfl, p2, q2, by rw [← p3.length, ← q3.length]; exact hz, fun p hp => af.lst rs (p3.append q3) q hp⟩))
def oMul : F2
  | .int i, .int j, S, R => (CMul i j ∨ CMulW i j) ∧ R (.int (i * j)) S
  | .tup xs, .int k, S, R => (xs ≠ [] ∧ 2 ≤ k ∧ k ≤ 1000 ∧ xs.length ≤ 1000) ∧ R (.tup (List.replicate k.toNat xs).flatten) S
  | .ref n, .int k, S, R => ∃ xs, S[n]? = some (.lst xs) ∧ (-(2 ^ 63) ≤ k ∧ k < 2 ^ 63 ∧ xs.length * k.toNat ≤ sizeLine) ∧ R (.ref S.length) (S ++ [.lst (List.replicate k.toNat xs).flatten])
  | _, _, _, _ => False
def rMulD (K : PySem.W.Frag) : R2 := fun x y H Q => rI CMul (fun i j => .int (i * j)) x y H Q ∨ rI CMulW (fun i j => .int (i * j)) x y H Q ∨ rRepT K x y H Q ∨ rRep x y H Q
theorem op_mulD {X : Cx} : OpR X (binaryOp .Mult) (rMulD X.K) := op_mul.or (op_mulW.or (op_repT.or op_rep))
theorem s_mul : Snd2 K (rMulD K) oMul := fun π S H x y dx dy R Q rs r1 r2 h af => by
  cases r1 <;> cases r2 <;> try exact (False.elim h)
  case int.int i j =>
    rcases h.1 with c | c
    · exact .inl ⟨i, j, rfl, rfl, c, af _ _ h.2 _ π H rs (.int _) (Ext.refl _ _)⟩
    · exact .inr (.inl ⟨i, j, rfl, rfl, c, af _ _ h.2 _ π H rs (.int _) (Ext.refl _ _)⟩)
  case tup.int a xs ds h1 v1 k =>
    obtain ⟨⟨c1, c2, c3, c4⟩, q⟩ := h
    exact .inr (.inr (.inl ⟨a, k, xs, rfl, rfl, h1, fun e => c1 (by subst e; cases v1; rfl), c2, c3, by rw [← v1.length]; exact c4, fun p hp => af.tup rs (v1.rep _) q hp⟩))
  case ref.int n a hn k =>
    obtain ⟨xs, h1, ⟨c1, c2, c3⟩, q⟩ := h
    obtain ⟨a', us, p1, p2, p3⟩ := rs.lstAt h1
    cases rs.of_ref hn p1
    exact .inr (.inr (.inr ⟨a, k, us, rfl, rfl, p2, c1, c2, by rw [← p3.length]; exact c3, fun p hp => af.lst rs (p3.rep _) q hp⟩))
/-- += and -= on ints -/
abbrev oAddI : F2 := fI0 fun i j => .int (i + j)
theorem s_iadd : Snd2 K (ipI fun i j => i + j) oAddI := fun π S H x y dx dy R Q rs r1 r2 q af => by
  cases r1 <;> cases r2 <;> try exact (False.elim q)
  case int.int i j => exact ⟨i, j, rfl, rfl, af _ _ q _ π H rs (.int _) (Ext.refl _ _)⟩
theorem s_isub : Snd2 K (ipI fun i j => i - j) oSub := fun π S H x y dx dy R Q rs r1 r2 q af => by
  cases r1 <;> cases r2 <;> try exact (False.elim q)
  case int.int i j => exact ⟨i, j, rfl, rfl, af _ _ q _ π H rs (.int _) (Ext.refl _ _)⟩
end

/-! ### == -/
mutual
def toPy : D → PyData
  | .non => .none
  | .bl b => .bool b
  | .int i => .int i
  | .str x => .str x
  | .tup ds => .tuple (toPys ds)
  | .rol ds => .list (toPys ds)
  | .ref _ => .none
def toPys : List D → List PyData
  | [] => []
  | d :: ds => toPy d :: toPys ds
end
/-- pure data, at most n deep -/
def pd : Nat → D → Bool
  | _, .non => true
  | _, .bl _ => true
  | _, .int _ => true
  | _, .str x => PyData.strOk x
  | n + 1, .tup ds => ds.all (pd n)
  | n + 1, .rol ds => ds.all (pd n)
  | 0, .tup _ => false
  | 0, .rol _ => false
  | _, .ref _ => false
mutual
def deq : D → D → Bool
  | .non, .non => true
  | .bl a, .bl b => a == b
  | .bl a, .int j => (if a then 1 else 0) == j
  | .int i, .bl b => i == (if b then 1 else 0)
  | .int i, .int j => i == j
  | .str x, .str y => x == y
  | .tup xs, .tup ys => deqs xs ys
  | .rol xs, .rol ys => deqs xs ys
  | .non, .bl _ | .non, .int _ | .non, .str _ | .non, .tup _ | .non, .rol _ | .non, .ref _ => false
  | .bl _, .non | .bl _, .str _ | .bl _, .tup _ | .bl _, .rol _ | .bl _, .ref _ => false
  | .int _, .non | .int _, .str _ | .int _, .tup _ | .int _, .rol _ | .int _, .ref _ => false
  | .str _, .non | .str _, .bl _ | .str _, .int _ | .str _, .tup _ | .str _, .rol _ | .str _, .ref _ => false
  | .tup _, .non | .tup _, .bl _ | .tup _, .int _ | .tup _, .str _ | .tup _, .rol _ | .tup _, .ref _ => false
  | .rol _, .non | .rol _, .bl _ | .rol _, .int _ | .rol _, .str _ | .rol _, .tup _ | .rol _, .ref _ => false
  | .ref _, _ => false
def deqs : List D → List D → Bool
  | [], [] => true
  | x :: xs, y :: ys => deq x y && deqs xs ys
  | [], _ :: _ => false
  | _ :: _, [] => false
end
theorem pd_all {n : Nat} : ∀ {d : D}, pd n d = true → scD 0 d = true ∧ (toPy d).canLay0 = true ∧ (toPy d).depth ≤ n := by
  induction n with
  | zero =>
    intro d h
    cases d <;> simp_all [pd, scD, toPy, PyData.canLay0, PyData.depth]
  | succ n ih =>
    have hs : ∀ ds : List D, ds.all (pd n) = true → scDs 0 ds = true ∧ PyData.canLayAll0 (toPys ds) = true ∧ PyData.depthAll (toPys ds) ≤ n := by
      intro ds
      induction ds with
      | nil => intro _; simp [scDs, toPys, PyData.canLayAll0, PyData.depthAll]
      | cons d ds ihd =>
        intro h
        rw [List.all_cons, Bool.and_eq_true] at h
        obtain ⟨a1, a2, a3⟩ := ih h.1
        obtain ⟨b1, b2, b3⟩ := ihd h.2
        simp [scDs, toPys, PyData.canLayAll0, PyData.depthAll, a1, a2, b1, b2]
        omega
    intro d h
    cases d with
    | tup ds =>
      obtain ⟨a, b, c⟩ := hs ds (by simpa [pd] using h)
      simp [scD, toPy, PyData.canLay0, PyData.depth, a, b]
      omega
    | rol ds =>
      obtain ⟨a, b, c⟩ := hs ds (by simpa [pd] using h)
      simp [scD, toPy, PyData.canLay0, PyData.depth, a, b]
      omega
    | _ => simp_all [pd, scD, toPy, PyData.canLay0, PyData.depth]
theorem pd_shaped {n : Nat} {d : D} (h : pd n d = true) (hn : n ≤ 64) : SeqAt.shaped (toPy d) = true := by
  obtain ⟨_, b, c⟩ := pd_all h
  unfold SeqAt.shaped
  rw [b, Bool.true_and]
  exact decide_eq_true (by omega)
mutual
theorem eqv_deq : ∀ a b : D, scD 0 a = true → scD 0 b = true → PyData.eqv (toPy a) (toPy b) = deq a b
  | .non, b, _, hb => by cases b <;> simp_all [toPy, PyData.eqv, deq, scD]
  | .bl x, b, _, hb => by cases b <;> simp_all [toPy, PyData.eqv, deq, scD]
  | .int x, b, _, hb => by cases b <;> simp_all [toPy, PyData.eqv, deq, scD]
  | .str x, b, _, hb => by cases b <;> simp_all [toPy, PyData.eqv, deq, scD]
  | .tup xs, b, ha, hb => by
    cases b with
    | tup ys =>
      simp only [toPy, PyData.eqv, deq]
      exact eqvs_deqs xs ys (by simpa [scD] using ha) (by simpa [scD] using hb)
    | _ => simp_all [toPy, PyData.eqv, deq, scD]
  | .rol xs, b, ha, hb => by
    cases b with
    | rol ys =>
      simp only [toPy, PyData.eqv, deq]
      exact eqvs_deqs xs ys (by simpa [scD] using ha) (by simpa [scD] using hb)
    | _ => simp_all [toPy, PyData.eqv, deq, scD]
  | .ref n, b, ha, _ => by simp [scD] at ha
theorem eqvs_deqs : ∀ a b : List D, scDs 0 a = true → scDs 0 b = true → PyData.eqvAll (toPys a) (toPys b) = deqs a b
  | [], b, _, _ => by cases b <;> simp [toPys, PyData.eqvAll, deqs]
  | x :: xs, b, ha, hb => by
    cases b with
    | nil => simp [toPys, PyData.eqvAll, deqs]
    | cons y ys =>
      have ha' : scD 0 x = true ∧ scDs 0 xs = true := by simpa [scDs] using ha
      have hb' : scD 0 y = true ∧ scDs 0 ys = true := by simpa [scDs] using hb
      simp only [toPys, PyData.eqvAll, deqs]
      rw [eqv_deq x y ha'.1 hb'.1, eqvs_deqs xs ys ha'.2 hb'.2]
end
section
variable {K : PySem.W.Frag} {π : List Addr} {H : Hp}
mutual
theorem RV.dp : ∀ {d : D} {v : V}, RV K π H d v → scD 0 d = true → Dp K H v (toPy d)
  | _, _, .non, _ => by simpa [toPy] using .non
  | _, _, .bl b, _ => by simpa [toPy] using .bl b
  | _, _, .int i, _ => by simpa [toPy] using .int i
  | _, _, .str x, _ => by simpa [toPy] using .str x
  | .tup ds, _, .tup h hs, s => by
    simp only [toPy]
    exact .tup h (RVs.dp hs (by simpa [scD] using s))
  | .rol ds, _, .rol h hs, s => by
    simp only [toPy]
    exact .lst h.seq (RVs.dp hs (by simpa [scD] using s))
  | .ref k, _, .ref h, s => by simp [scD] at s
theorem RVs.dp : ∀ {ds : List D} {vs : List V}, RVs K π H ds vs → scDs 0 ds = true → DpAll K H vs (toPys ds)
  | _, _, .nil, _ => by simpa [toPys] using .nil
  | d :: ds, _, .cons h t, s => by
    have s' : scD 0 d = true ∧ scDs 0 ds = true := by simpa [scDs] using s
    simp only [toPys]
    exact .cons (RV.dp h s'.1) (RVs.dp t s'.2)
end
end
/-- the answer of == : pure data, or two lists of it -/
def EqB (x y : D) (S : Sto) (b : Bool) : Prop :=
  (pd 60 x = true ∧ pd 60 y = true ∧ b = deq x y) ∨ ∃ n m xs ys, x = .ref n ∧ y = .ref m ∧ S[n]? = some (.lst xs) ∧ S[m]? = some (.lst ys) ∧ xs.all (pd 60) = true ∧ ys.all (pd 60) = true ∧ b = deqs xs ys
def fEq (g : Bool → Bool) : F2 := fun x y S R => match x, y with
  | .int i, .int j => R (.bl (g (decide (i = j)))) S
  | .bl i, .bl j => R (.bl (g (decide (i = j)))) S
  | .str i, .str j => (PyData.strOk i = true ∧ PyData.strOk j = true) ∧ R (.bl (g (i == j))) S
  | .ref n, .ref m => ∃ xs, S[n]? = some (.lst xs) ∧ ∃ ys, S[m]? = some (.lst ys) ∧ (xs.all (pd 60) = true ∧ ys.all (pd 60) = true) ∧ R (.bl (g (deqs xs ys))) S
  | x, y => (pd 60 x = true ∧ pd 60 y = true) ∧ R (.bl (g (deq x y))) S
abbrev oEq : F2 := fEq fun b => b
abbrev oNe : F2 := fEq fun b => !b
theorem fEq.get {g : Bool → Bool} {x y : D} {S : Sto} {R : Post} (h : fEq g x y S R) : ∃ b, EqB x y S b ∧ R (.bl (g b)) S := by
  have pure : ∀ x y, ((pd 60 x = true ∧ pd 60 y = true) ∧ R (.bl (g (deq x y))) S) → ∃ b, EqB x y S b ∧ R (.bl (g b)) S := fun x y h => ⟨_, .inl ⟨h.1.1, h.1.2, rfl⟩, h.2⟩
  cases x <;> cases y <;> first
    | exact pure _ _ h
    | skip
  case int.int i j => exact ⟨_, .inl ⟨by simp [pd], by simp [pd], by simp [deq, Bool.beq_eq_decide_eq]⟩, h⟩
  case bl.bl i j => exact ⟨_, .inl ⟨by simp [pd], by simp [pd], by simp [deq, Bool.beq_eq_decide_eq]⟩, h⟩
  case ref.ref n m =>
    obtain ⟨xs, h1, ys, h2, ⟨p1, p2⟩, q⟩ := h
    exact ⟨_, .inr ⟨n, m, xs, ys, rfl, rfl, h1, h2, p1, p2, rfl⟩, q⟩
section
variable {K : PySem.W.Frag}
theorem EqB.dp {π : List Addr} {S : Sto} {H : Hp} {x y : V} {dx dy : D} {b : Bool} (rs : RelS K π S H) (r1 : RV K π H dx x) (r2 : RV K π H dy y) (h : EqB dx dy S b) :
    ∃ d e, Dp K H x d ∧ Dp K H y e ∧ SeqAt.shaped d = true ∧ SeqAt.shaped e = true ∧ b = PyData.eqv d e := by
  rcases h with ⟨p1, p2, rfl⟩ | ⟨n, m, xs, ys, rfl, rfl, h1, h2, p1, p2, rfl⟩
  · exact ⟨toPy dx, toPy dy, r1.dp (pd_all p1).1, r2.dp (pd_all p2).1, pd_shaped p1 (by decide), pd_shaped p2 (by decide), (eqv_deq _ _ (pd_all p1).1 (pd_all p2).1).symm⟩
  · obtain ⟨a, us, a1, a2, a3⟩ := rs.lstAt h1
    obtain ⟨b, ws, b1, b2, b3⟩ := rs.lstAt h2
    cases r1 with
    | ref hn => cases r2 with
      | ref hm =>
        cases rs.of_ref hn a1
        cases rs.of_ref hm b1
        have q1 : pd 61 (.rol xs) = true := by simpa [pd] using p1
        have q2 : pd 61 (.rol ys) = true := by simpa [pd] using p2
        have c1 := (pd_all q1).1
        have c2 := (pd_all q2).1
        have z := eqv_deq (.rol xs) (.rol ys) c1 c2
        simp only [toPy, deq] at z
        have s1 := pd_shaped q1 (by decide)
        have s2 := pd_shaped q2 (by decide)
        simp only [toPy] at s1 s2
        exact ⟨.list (toPys xs), .list (toPys ys), .lst (SqL.of a2) (a3.dp (by simpa [scD] using c1)), .lst (SqL.of b2) (b3.dp (by simpa [scD] using c2)), s1, s2, z.symm⟩
theorem s_eq : Snd2 K (rEqD K) oEq := fun π S H x y dx dy R Q rs r1 r2 hq af => by
  obtain ⟨b, hb, q⟩ := fEq.get hq
  obtain ⟨d, e, h1, h2, h3, h4, rfl⟩ := EqB.dp rs r1 r2 hb
  exact ⟨d, e, h1, h2, h3, h4, af _ _ q _ π H rs (.bl _) (Ext.refl _ _)⟩
theorem s_ne : Snd2 K (rNeD K) oNe := fun π S H x y dx dy R Q rs r1 r2 hq af => by
  obtain ⟨b, hb, q⟩ := fEq.get hq
  obtain ⟨d, e, h1, h2, h3, h4, rfl⟩ := EqB.dp rs r1 r2 hb
  exact ⟨d, e, h1, h2, h3, h4, af _ _ q _ π H rs (.bl _) (Ext.refl _ _)⟩
end
/-- is None -/
def dNon : D → Bool
  | .non => true
  | _ => false
def oIsN : F2 := fun x y S R => match y with
  | .non => R (.bl (dNon x)) S
  | _ => False
def oNotN : F2 := fun x y S R => match y with
  | .non => R (.bl (!dNon x)) S
  | _ => False
theorem dNon_eq {K : PySem.W.Frag} {π : List Addr} {H : Hp} {d : D} {v : V} (r : RV K π H d v) : decide (v = .non) = dNon d := by
  cases r <;> rfl
section
variable {K : PySem.W.Frag}
theorem s_isN : Snd2 K (fun x y H Q => y = .non ∧ Q (.bl (decide (x = .non))) H) oIsN := fun π S H x y dx dy R Q rs r1 r2 q af => by
  cases r2 <;> try exact (False.elim q)
  refine ⟨rfl, ?_⟩
  rw [dNon_eq r1]
  exact af _ _ q _ π H rs (.bl _) (Ext.refl _ _)
theorem s_notN : Snd2 K (fun x y H Q => y = .non ∧ Q (.bl (!decide (x = .non))) H) oNotN := fun π S H x y dx dy R Q rs r1 r2 q af => by
  cases r2 <;> try exact (False.elim q)
  refine ⟨rfl, ?_⟩
  rw [dNon_eq r1]
  exact af _ _ q _ π H rs (.bl _) (Ext.refl _ _)

/-! ### items and cuts -/
def oIx : F2 := fun x y S R => match x, y with
  | .tup ds, .int i => ∃ d, atI ds i = some d ∧ R d S
  | .rol ds, .int i => ∃ d, atI ds i = some d ∧ R d S
  | .ref n, .int i => ∃ ds, S[n]? = some (.lst ds) ∧ ∃ d, atI ds i = some d ∧ R d S
  | .str z, .int i => ∃ c, (z.length ≤ sizeLine ∧ atI z.cps.toList i = some c) ∧ R (.str ⟨#[c]⟩) S
  | _, _ => False
theorem RVs.atI {π : List Addr} {H : Hp} {ds : List D} {vs : List V} {i : Int} {d : D} (r : RVs K π H ds vs) (h : L2.atI ds i = some d) : ∃ v, L2.atI vs i = some v ∧ RV K π H d v := by
  unfold L2.atI at h ⊢
  rw [← r.length]
  cases e : ixN ds.length i with
  | none => rw [e] at h; simp at h
  | some j =>
    rw [e] at h
    exact r.get (by simpa using h)
theorem s_ix : Snd2 K (rIx K) oIx := fun π S H x y dx dy R Q rs r1 r2 h af => by
  cases r1 <;> cases r2 <;> try exact (False.elim h)
  case tup.int a xs ds h1 v1 i =>
    obtain ⟨d, hd, q⟩ := h
    obtain ⟨v, e1, e2⟩ := v1.atI hd
    exact .inr (.inl ⟨_, _, i, v, rfl, rfl, h1, e1, af _ _ q _ π H rs e2 (Ext.refl _ _)⟩)
  case rol.int a xs ds h1 v1 i =>
    obtain ⟨d, hd, q⟩ := h
    obtain ⟨v, e1, e2⟩ := v1.atI hd
    exact .inl ⟨_, _, i, v, rfl, rfl, h1.seq, e1, af _ _ q _ π H rs e2 (Ext.refl _ _)⟩
  case ref.int n a hn i =>
    obtain ⟨ds, hS, d, hd, q⟩ := h
    obtain ⟨a', us, p1, p2, p3⟩ := rs.lstAt hS
    cases rs.of_ref hn p1
    obtain ⟨v, e1, e2⟩ := p3.atI hd
    exact .inl ⟨_, _, i, v, rfl, rfl, SqL.of p2, e1, af _ _ q _ π H rs e2 (Ext.refl _ _)⟩
  case str.int z i =>
    obtain ⟨c, ⟨hz, hc⟩, q⟩ := h
    exact .inr (.inr ⟨z, i, c, rfl, rfl, hz, hc, af _ _ q _ π H rs (.str _) (Ext.refl _ _)⟩)
def cutD {α : Type} (xs : List α) (lo hi : Option Int) : List α := (xs.drop (HT.sIx xs.length 0 lo)).take (HT.sIx xs.length xs.length hi - HT.sIx xs.length 0 lo)
theorem RVs.cutV {π : List Addr} {H : Hp} {ds : List D} {vs : List V} (r : RVs K π H ds vs) (lo hi : Option Int) : RVs K π H (cutD ds lo hi) (L2.cutV vs lo hi) := by
  unfold cutD L2.cutV
  rw [r.length]
  exact (r.drop _).take _
end
section
variable {X : Cx} {E : XK} {a b : Expr} {ma mb : ME} {pos p2 : Pos}
/-- a part of a cut: an int, or left out -/
abbrev MO := XW → Env → Sto → (Option Int → Sto → Prop) → Prop
def tMO (mg : Str → Option Value) (K : PySem.W.Frag) (E : XK) (m : MO) : TO := fun σ H Q => ∃ π ρ S W R, RelS K π S H ∧ RE K π H ρ σ ∧ WOk mg K E W π H ∧ m W ρ S R ∧ ∀ o S', R o S' → ∀ π' H', RelS K π' S' H' → Ext π H π' H' → Q o H'
abbrev JO (X : Cx) (E : XK) (e : Option Expr) (m : MO) : Prop := PO X e (tMO X.mg X.K E m)
def mNo : MO := fun _ _ S R => R none S
def mPart (m : ME) : MO := fun W ρ S R => m W ρ S fun d S1 => match d with
  | .int i => R (some i) S1
  | _ => False
theorem weakO {e : Option Expr} {t t' : TO} (h : PO X e t) (w : ∀ σ H Q, t' σ H Q → t σ H Q) : PO X e t' := by
  cases h with
  | mk run => exact ⟨fun pins s σ H Q I q => run pins s σ H Q I (w _ _ _ q)⟩
theorem jo_none : JO X E none mNo := weakO po_none fun σ H Q ⟨π, ρ, S, W, R, rs, re, wk, hm, af⟩ => af _ _ hm π H rs (Ext.refl _ _)
theorem jo_some (h : JE X E a ma) : JO X E (some a) (mPart ma) := weakO (po_some h) fun σ H Q ⟨π, ρ, S, W, R, rs, re, wk, hm, af⟩ =>
  ⟨π, ρ, S, W, _, rs, re, wk, hm, fun d S1 hi v π1 H1 rs1 rv1 e1 => by
    cases rv1 <;> try exact (False.elim hi)
    case int i => exact ⟨i, rfl, af _ _ hi π1 H1 rs1 e1⟩⟩
def oCut (x : D) (lo hi : Option Int) (S : Sto) (R : Post) : Prop := match x with
  | .tup ds => R (.tup (cutD ds lo hi)) S
  | .ref n => ∃ ds, S[n]? = some (.lst ds) ∧ R (.ref S.length) (S ++ [.lst (cutD ds lo hi)])
  | .rol ds => R (.ref S.length) (S ++ [.lst (cutD ds lo hi)])
  | _ => False
def mCut (m : ME) (l h : MO) : ME := fun W ρ S R => m W ρ S fun x S1 => l W ρ S1 fun lo S2 => h W ρ S2 fun hi S3 => oCut x lo hi S3 R
theorem sIx_whole {n : Nat} {lo hi : Option Int} (h : HT.sIx n 0 lo = 0 ∧ HT.sIx n n hi = n) {α : Type} {xs : List α} (hx : xs.length = n) : cutD xs lo hi = xs := by
  unfold cutD
  rw [hx, h.1, h.2]
  simp [← hx]
theorem je_cut {lo hi : Option Expr} {l h : MO} (ha : JE X E a ma) (hl : JO X E lo l) (hh : JO X E hi h) : JE X E (.Subscript a (.Slice lo hi none p2) pos) (mCut ma l h) :=
  weakE (pe_slice (sl_tupA.or sl_list) ha hl hh) fun σ H Q ⟨π, ρ, S, W, R, rs, re, wk, hm, af⟩ =>
    ⟨π, ρ, S, W, _, rs, re, wk, hm, fun x S1 h1 v π1 H1 rs1 rv1 e1 => ⟨π1, ρ, S1, W, _, rs1, re.ext e1, wk.ext e1, h1, fun lo S2 h2 π2 H2 rs2 e2 =>
      ⟨π2, ρ, S2, W, _, rs2, re.ext (e1.trans e2), wk.ext (e1.trans e2), h2, fun hi S3 h3 π3 H3 rs3 e3 => by
        have rv3 := rv1.ext (e2.trans e3)
        have af3 := af.ext (e1.trans (e2.trans e3))
        cases rv3 with
        | @tup p xs ds ht hv =>
          refine .inl ⟨p, xs, rfl, ht, fun hw => ?_, fun _ q hq => af3.tup rs3 (hv.cutV lo hi) h3 hq⟩
          refine af3 _ _ h3 _ π3 H3 rs3 (.tup ht ?_) (Ext.refl _ _)
          rw [sIx_whole hw hv.length]
          exact hv
        | @rol p xs ds ht hv => exact .inr ⟨p, xs, rfl, ht.seq, fun q hq => af3.lst rs3 (hv.cutV lo hi) h3 hq⟩
        | ref hn =>
          obtain ⟨ds, hS, q3⟩ := h3
          obtain ⟨a', us, p1, p2, p3⟩ := rs3.lstAt hS
          cases rs3.of_ref hn p1
          exact .inr ⟨_, us, rfl, SqL.of p2, fun q hq => af3.lst rs3 (p3.cutV lo hi) q3 hq⟩
        | _ => exact h3.elim⟩⟩⟩
theorem je_ix (ha : JE X E a ma) (hb : JE X E b mb) (hs : PlainIx b) : JE X E (.Subscript a b pos) (m2 oIx ma mb) := weakE (pe_ix ix_seq ha hb hs) fun _ _ _ h => snd_two s_ix h
end
end MP

namespace MP
open PySem PySem.Spec PyProof.Rows L2

/-! ### built-ins -/
section
variable {K : PySem.W.Frag}
def bLen : FN := fun ds S R => match ds with
  | [.tup xs] => R (.int xs.length) S
  | [.rol xs] => R (.int xs.length) S
  | [.ref n] => ∃ xs, S[n]? = some (.lst xs) ∧ R (.int xs.length) S
  | [.str z] => z.length ≤ sizeLine ∧ R (.int z.length) S
  | _ => False
def rLenD (K : PySem.W.Frag) : List V → Hp → VK → Prop := fun xs H Q => (∃ p ys, xs = [.ref p] ∧ (SqL K H p ys ∨ SqT K H p ys) ∧ Q (.int ys.length) H) ∨ ∃ z, xs = [.str z] ∧ z.length ≤ sizeLine ∧ Q (.int z.length) H
theorem call_lenAll {X : Cx} : CallR X (.builtin "len") (rLenD X.K) := call_len_seq.or call_len_str
theorem s_len : SndN K (rLenD K) bLen := fun π S H xs ds R Q rs rv h af => by
  match ds, rv, h with
  | [.tup ys], .cons (.tup ht hv) .nil, h => exact .inl ⟨_, _, rfl, .inr ht, by rw [← hv.length]; exact af _ _ h _ π H rs (.int _) (Ext.refl _ _)⟩
  | [.rol ys], .cons (.rol ht hv) .nil, h => exact .inl ⟨_, _, rfl, .inl ht.seq, by rw [← hv.length]; exact af _ _ h _ π H rs (.int _) (Ext.refl _ _)⟩
  | [.ref n], .cons (.ref hn) .nil, h =>
    obtain ⟨ys, hS, q⟩ := h
    obtain ⟨a', us, p1, p2, p3⟩ := rs.lstAt hS
    cases rs.of_ref hn p1
    exact .inl ⟨_, _, rfl, .inl (SqL.of p2), by rw [← p3.length]; exact af _ _ q _ π H rs (.int _) (Ext.refl _ _)⟩
  | [.str z], .cons (.str _) .nil, h => exact .inr ⟨z, rfl, h.1, af _ _ h.2 _ π H rs (.int _) (Ext.refl _ _)⟩
def absI (i : Int) : Int := if i < 0 then -i else i
def bAbs : FN := fun ds S R => match ds with
  | [.int i] => R (.int (absI i)) S
  | _ => False
theorem s_abs : SndN K (fun xs H Q => ∃ i, xs = [.int i] ∧ Q (.int (if i < 0 then -i else i)) H) bAbs := fun π S H xs ds R Q rs rv q af => by
  match ds, rv, q with
  | [.int i], .cons (.int _) .nil, q => exact ⟨i, rfl, af _ _ q _ π H rs (.int _) (Ext.refl _ _)⟩
def bInt : FN := fun ds S R => match ds with
  | [.int i] => R (.int i) S
  | [.bl k] => R (.int (if k then 1 else 0)) S
  | _ => False
theorem s_int : SndN K (fun xs H Q => (∃ i, xs = [.int i] ∧ Q (.int i) H) ∨ ∃ k, xs = [.bl k] ∧ Q (.int (if k then 1 else 0)) H) bInt := fun π S H xs ds R Q rs rv h af => by
  match ds, rv, h with
  | [.int i], .cons (.int _) .nil, h => exact .inl ⟨i, rfl, af _ _ h _ π H rs (.int _) (Ext.refl _ _)⟩
  | [.bl k], .cons (.bl _) .nil, h => exact .inr ⟨k, rfl, af _ _ h _ π H rs (.int _) (Ext.refl _ _)⟩
def maxI (i j : Int) : Int := if j > i then j else i
def minI (i j : Int) : Int := if j < i then j else i
def bMax2 : FN := fun ds S R => match ds with
  | [.int i, .int j] => R (.int (maxI i j)) S
  | _ => False
def bMin2 : FN := fun ds S R => match ds with
  | [.int i, .int j] => R (.int (minI i j)) S
  | _ => False
theorem s_max2 : SndN K (fun xs H Q => ∃ i j, xs = [.int i, .int j] ∧ Q (.int (if j > i then j else i)) H) bMax2 := fun π S H xs ds R Q rs rv q af => by
  match ds, rv, q with
  | [.int i, .int j], .cons (.int _) (.cons (.int _) .nil), q => exact ⟨i, j, rfl, af _ _ q _ π H rs (.int _) (Ext.refl _ _)⟩
theorem s_min2 : SndN K (fun xs H Q => ∃ i j, xs = [.int i, .int j] ∧ Q (.int (if j < i then j else i)) H) bMin2 := fun π S H xs ds R Q rs rv q af => by
  match ds, rv, q with
  | [.int i, .int j], .cons (.int _) (.cons (.int _) .nil), q => exact ⟨i, j, rfl, af _ _ q _ π H rs (.int _) (Ext.refl _ _)⟩
/-- tuple(x), list(x) -/
def bTuple : FN := fun ds S R => match ds with
  | [.tup xs] => R (.tup xs) S
  | [.rol xs] => R (.tup xs) S
  | [.ref n] => ∃ xs, S[n]? = some (.lst xs) ∧ R (.tup xs) S
  | _ => False
theorem s_tuple : SndN K (fun xs H Q => ∃ p ys, xs = [.ref p] ∧ ((SqL K H p ys ∧ ∀ l, H l = none → Q (.ref l) (upd H l (.tup ys))) ∨ (SqT K H p ys ∧ Q (.ref p) H))) bTuple := fun π S H xs ds R Q rs rv h af => by
  match ds, rv, h with
  | [.tup ys], .cons (.tup ht hv) .nil, h => exact ⟨_, _, rfl, .inr ⟨ht, af _ _ h _ π H rs (.tup ht hv) (Ext.refl _ _)⟩⟩
  | [.rol ys], .cons (.rol ht hv) .nil, h => exact ⟨_, _, rfl, .inl ⟨ht.seq, fun p hp => af.tup rs hv h hp⟩⟩
  | [.ref n], .cons (.ref hn) .nil, h =>
    obtain ⟨ys, hS, q⟩ := h
    obtain ⟨a', us, p1, p2, p3⟩ := rs.lstAt hS
    cases rs.of_ref hn p1
    exact ⟨_, _, rfl, .inl ⟨SqL.of p2, fun p hp => af.tup rs p3 q hp⟩⟩
def bList : FN := fun ds S R => match ds with
  | [.tup xs] => R (.ref S.length) (S ++ [.lst xs])
  | [.rol xs] => R (.ref S.length) (S ++ [.lst xs])
  | [.ref n] => ∃ xs, S[n]? = some (.lst xs) ∧ R (.ref S.length) (S ++ [.lst xs])
  | _ => False
theorem s_list : SndN K (fun xs H Q => ∃ p ys, xs = [.ref p] ∧ (SqL K H p ys ∨ SqT K H p ys) ∧ ∀ l, H l = none → Q (.ref l) (upd H l (.lst ys))) bList := fun π S H xs ds R Q rs rv h af => by
  match ds, rv, h with
  | [.tup ys], .cons (.tup ht hv) .nil, h => exact ⟨_, _, rfl, .inr ht, fun p hp => af.lst rs hv h hp⟩
  | [.rol ys], .cons (.rol ht hv) .nil, h => exact ⟨_, _, rfl, .inl ht.seq, fun p hp => af.lst rs hv h hp⟩
  | [.ref n], .cons (.ref hn) .nil, h =>
    obtain ⟨ys, hS, q⟩ := h
    obtain ⟨a', us, p1, p2, p3⟩ := rs.lstAt hS
    cases rs.of_ref hn p1
    exact ⟨_, _, rfl, .inl (SqL.of p2), fun p hp => af.lst rs p3 q hp⟩
end

/-! ### isinstance -/
inductive PyT where
  | tuple | str | int | bool | list
def PyT.name : PyT → String
  | .tuple => "tuple" | .str => "str" | .int => "int" | .bool => "bool" | .list => "list"
def isD : D → PyT → Bool
  | .tup _, .tuple => true
  | .str _, .str => true
  | .int _, .int => true
  | .bl _, .int => true
  | .bl _, .bool => true
  | .rol _, .list => true
  | .ref _, .list => true
  | _, _ => false
theorem kit_all : ∀ T : PyT, kitB "NoneType" T.name = some false ∧ kitB "bool" T.name = some (isD (.bl true) T) ∧ kitB "int" T.name = some (isD (.int 0) T) ∧ kitB "str" T.name = some (isD (.str default) T) ∧ kitB "tuple" T.name = some (isD (.tup []) T) ∧ kitB "list" T.name = some (isD (.rol []) T)
  | .tuple => by decide +kernel
  | .str => by decide +kernel
  | .int => by decide +kernel
  | .bool => by decide +kernel
  | .list => by decide +kernel
def isOk (S : Sto) : D → Prop
  | .ref n => ∃ xs, S[n]? = some (.lst xs)
  | _ => True
def mIsi (T : PyT) (m : ME) : ME := fun W ρ S R => m W ρ S fun d S1 => isOk S1 d ∧ R (.bl (isD d T)) S1
theorem isi_ok {K : PySem.W.Frag} {π : List Addr} {S : Sto} {H : Hp} {d : D} {v : V} (rs : RelS K π S H) (r : RV K π H d v) (hl : isOk S d) (T : PyT) : ∃ t : Value, TyX K H v t ∧ PySem.W.kitOne K t (.type T.name) = some (isD d T) := by
  obtain ⟨k1, k2, k3, k4, k5, k6⟩ := kit_all T
  cases r with
  | non => exact ⟨_, .base .non, by cases T <;> exact kit_ty k1⟩
  | bl b => exact ⟨_, .base (.bl b), by cases T <;> exact kit_ty k2⟩
  | int i => exact ⟨_, .base (.int i), by cases T <;> exact kit_ty k3⟩
  | str x => exact ⟨_, .base (.str x), by cases T <;> exact kit_ty k4⟩
  | tup ht _ =>
    rcases ht with (ht | ⟨o, ht⟩) | ⟨o, its, n, h1, h2, _⟩
    · exact ⟨_, .base (.tup ht), by cases T <;> exact kit_ty k5⟩
    · exact ⟨_, .fTuple ht, by cases T <;> exact kit_ty k5⟩
    · exact ⟨_, .kTuple h1 h2, by cases T <;> exact kit_ty k5⟩
  | rol ht _ =>
    rcases ht with ⟨o, ht⟩ | ⟨o, its, n, h1, h2, _⟩
    · exact ⟨_, .base (.frz ht), by cases T <;> exact kit_ty k6⟩
    · exact ⟨_, .kList h1 h2, by cases T <;> exact kit_ty k6⟩
  | @ref n a hn =>
    obtain ⟨xs, hS⟩ := hl
    obtain ⟨a', us, p1, p2, p3⟩ := rs.lstAt hS
    cases rs.of_ref hn p1
    exact ⟨_, .base (.lst p2), by cases T <;> exact kit_ty k6⟩
section
variable {X : Cx} {E : XK} {e : Expr} {ma : ME}
theorem je_isi (T : PyT) (h : PE X e (tCB (rIsi X.K) (tCons (tM X.mg X.K E ma) (tCons (tC (.ty T.name)) tNil)))) : JE X E e (mIsi T ma) := weakE h fun σ H Q ⟨π, ρ, S, W, R, rs, re, wk, hm, af⟩ =>
  ⟨π, ρ, S, W, _, rs, re, wk, hm, fun d S1 ⟨hl, hd⟩ v π1 H1 rs1 rv1 e1 => by
    obtain ⟨t, h1, h2⟩ := isi_ok rs1 rv1 hl T
    exact ⟨v, .ty T.name, t, .type T.name, _, rfl, .ty _, h1, h2, af _ _ hd _ π1 H1 rs1 (.bl _) e1⟩⟩

/-! ### methods of lists -/
def SndM (K : PySem.W.Frag) (r : V → List V → Hp → VK → Prop) (f : D → List D → Sto → Post → Prop) : Prop := ∀ (π : List Addr) (S : Sto) (H : Hp) (x : V) (xs : List V) (d : D) (ds : List D) (R : Post) (Q : VK),
  RelS K π S H → RV K π H d x → RVs K π H ds xs → f d ds S R → After K π H R Q → r x xs H Q
def lsOk (S : Sto) : D → Prop
  | .ref n => ∃ xs, S[n]? = some (.lst xs)
  | .rol _ => True
  | _ => False
def mMeth (f : D → List D → Sto → Post → Prop) (m : ME) (n : MA) : ME := fun W ρ S R => m W ρ S fun d S1 => lsOk S1 d ∧ n W ρ S1 fun ds S2 => f d ds S2 R
def mMeth0 (f : D → List D → Sto → Post → Prop) (m : ME) : ME := fun W ρ S R => m W ρ S fun d S1 => lsOk S1 d ∧ f d [] S1 R
theorem ty_list {K : PySem.W.Frag} {π : List Addr} {S : Sto} {H : Hp} {d : D} {x : V} (rs : RelS K π S H) (r : RV K π H d x) (h : lsOk S d) : tyV K "list" x H := by
  cases r <;> try exact (False.elim h)
  case ref n a hn =>
    obtain ⟨xs, hS⟩ := h
    obtain ⟨a', us, p1, p2, p3⟩ := rs.lstAt hS
    cases rs.of_ref hn p1
    exact .inl ⟨rfl, _, SqL.of p2⟩
  case rol ht _ => exact .inl ⟨rfl, _, ht.seq⟩
theorem je_lm {r : V → List V → Hp → VK → Prop} {f : D → List D → Sto → Post → Prop} {n : MA} (F : SndM X.K r f) (h : PE X e (tBM X.K "list" r (tM X.mg X.K E ma) (tMA X.mg X.K E n))) : JE X E e (mMeth f ma n) := weakE h fun σ H Q ⟨π, ρ, S, W, R, rs, re, wk, hm, af⟩ =>
  ⟨π, ρ, S, W, _, rs, re, wk, hm, fun d S1 ⟨hl, hd⟩ v π1 H1 rs1 rv1 e1 => ⟨ty_list rs1 rv1 hl, π1, ρ, S1, W, _, rs1, re.ext e1, wk.ext e1, hd, fun ds S2 hds vs π2 H2 rs2 rv2 e2 => F π2 S2 H2 _ _ _ _ _ _ rs2 (rv1.ext e2) rv2 hds (af.ext (e1.trans e2))⟩⟩
theorem je_lm0 {r : V → List V → Hp → VK → Prop} {f : D → List D → Sto → Post → Prop} (F : SndM X.K r f) (h : PE X e (tBM0 X.K "list" r (tM X.mg X.K E ma))) : JE X E e (mMeth0 f ma) := weakE h fun σ H Q ⟨π, ρ, S, W, R, rs, re, wk, hm, af⟩ =>
  ⟨π, ρ, S, W, _, rs, re, wk, hm, fun d S1 ⟨hl, hd⟩ v π1 H1 rs1 rv1 e1 => ⟨ty_list rs1 rv1 hl, F π1 S1 H1 _ _ _ _ _ _ rs1 rv1 .nil hd (af.ext e1)⟩⟩
def lAppend : D → List D → Sto → Post → Prop := fun o ds S R => match o, ds with
  | .ref n, [y] => ∃ xs, S[n]? = some (.lst xs) ∧ xs.length < sizeLine ∧ R .non (S.set n (.lst (xs ++ [y])))
  | _, _ => False
theorem s_append {K : PySem.W.Frag} : SndM K rAppend lAppend := fun π S H x xs d ds R Q rs r rv hm af => by
  match d, ds, r, rv, hm with
  | .ref n, [y], .ref hn, .cons r1 .nil, ⟨ys, hS, hl, q⟩ =>
      obtain ⟨a', us, p1, p2, p3⟩ := rs.lstAt hS
      cases rs.of_ref hn p1
      exact ⟨_, us, _, rfl, rfl, p2, by rw [← p3.length]; exact hl, af _ _ q _ π _ (rs.write hn p2 (fun _ z => nomatch z) (fun _ _ z => nomatch z) (.lst (p3.snoc r1))) .non (Ext.write hn p2 (fun _ z => nomatch z) (fun _ _ z => nomatch z))⟩
def lPop : D → List D → Sto → Post → Prop := fun o ds S R => match o, ds with
  | .ref n, [] => ∃ xs, S[n]? = some (.lst xs) ∧ ∃ y, xs[xs.length - 1]? = some y ∧ R y (S.set n (.lst xs.dropLast))
  | _, _ => False
theorem s_pop {K : PySem.W.Frag} : SndM K rPop lPop := fun π S H x xs d ds R Q rs r rv hm af => by
  match d, ds, r, rv, hm with
  | .ref n, [], .ref hn, .nil, ⟨ys, hS, y, hl, q⟩ =>
    obtain ⟨a', us, p1, p2, p3⟩ := rs.lstAt hS
    cases rs.of_ref hn p1
    obtain ⟨v, h1, h2⟩ := p3.get hl
    have ew := Ext.write (u := .lst us.dropLast) hn p2 (fun _ z => nomatch z) (fun _ _ z => nomatch z)
    exact ⟨_, us, v, rfl, rfl, p2, by rw [← p3.length]; exact h1, af _ _ q _ π _ (rs.write hn p2 (fun _ z => nomatch z) (fun _ _ z => nomatch z) (.lst p3.dropLast)) (h2.ext ew) ew⟩
def lExtend : D → List D → Sto → Post → Prop := fun o ds S R => match o, ds with
  | .ref n, [.ref m] => ∃ xs, S[n]? = some (.lst xs) ∧ ∃ ys, S[m]? = some (.lst ys) ∧ xs.length + ys.length ≤ sizeLine ∧ R .non (S.set n (.lst (xs ++ ys)))
  | _, _ => False
theorem s_extend {K : PySem.W.Frag} : SndM K rExtend lExtend := fun π S H x xs d ds R Q rs r rv hm0 af => by
  match d, ds, r, rv, hm0 with
  | .ref n, [.ref m], .ref hn, .cons (.ref hm) .nil, ⟨us, hS, ws, hS2, hl, q⟩ =>
        obtain ⟨a', vs, p1, p2, p3⟩ := rs.lstAt hS
        cases rs.of_ref hn p1
        obtain ⟨b', zs, q1, q2, q3⟩ := rs.lstAt hS2
        cases rs.of_ref hm q1
        exact ⟨_, _, vs, zs, rfl, rfl, p2, q2, by rw [← p3.length, ← q3.length]; exact hl, af _ _ q _ π _ (rs.write hn p2 (fun _ z => nomatch z) (fun _ _ z => nomatch z) (.lst (p3.append q3))) .non (Ext.write hn p2 (fun _ z => nomatch z) (fun _ _ z => nomatch z))⟩
end

/-! ### o[i] op= e on lists -/
section
variable {X : Cx} {E : XK}
def rGetL (K : PySem.W.Frag) : R2 := rIxL K
theorem get_list : PGet X (rIxL X.K) := by
  intro pins s σ H o i ov iv Q I rx ry h
  obtain ⟨p, xs, i, z, rfl, rfl, hq, he, q⟩ := h
  cases rx
  obtain ⟨t, rfl⟩ := ry
  obtain ⟨its, r, pl, hz⟩ := I.list hq
  obtain ⟨j, h1, h2, h3, h4, h5⟩ := atI_get he
  obtain ⟨w, ew, rw'⟩ := r.get h2
  have hl := r.length
  have hn := line63
  have fin : EP X pins σ Q w s := ⟨z, H, I, rw', q⟩
  by_cases h0 : 0 ≤ i
  · have hj : i.toNat = j := by
      rw [seqIndex_of h0 h5] at h1
      exact Option.some.inj h1
    exact wpAny_getItem_list pl.isList h0 (by omega) (by rw [hj]; simpa using ew) fin
  · have hj : (i + (its.toArray.size : Int)).toNat = j := by
      rw [seqIndex_neg (by omega) h4] at h1
      rw [List.size_toArray, ← hl]
      exact Option.some.inj h1
    exact wpAny_getItem_list_neg pl.isList (by omega) (by rw [List.size_toArray] <;> omega) (by omega) (by rw [hj]; simpa using ew) fin
def oIxL : F2 := fun x y S R => match x, y with
  | .rol ds, .int i => ∃ d, atI ds i = some d ∧ R d S
  | .ref n, .int i => ∃ ds, S[n]? = some (.lst ds) ∧ ∃ d, atI ds i = some d ∧ R d S
  | _, _ => False
theorem s_ixL {K : PySem.W.Frag} : Snd2 K (rIxL K) oIxL := fun π S H x y dx dy R Q rs r1 r2 h af => by
  cases r1 <;> cases r2 <;> try exact (False.elim h)
  case rol.int a xs ds h1 v1 i =>
    obtain ⟨d, hd, q⟩ := h
    obtain ⟨v, e1, e2⟩ := v1.atI hd
    exact ⟨_, _, i, v, rfl, rfl, h1.seq, e1, af _ _ q _ π H rs e2 (Ext.refl _ _)⟩
  case ref.int n a hn i =>
    obtain ⟨ds, hS, d, hd, q⟩ := h
    obtain ⟨a', us, p1, p2, p3⟩ := rs.lstAt hS
    cases rs.of_ref hn p1
    obtain ⟨v, e1, e2⟩ := p3.atI hd
    exact ⟨_, _, i, v, rfl, rfl, SqL.of p2, e1, af _ _ q _ π H rs e2 (Ext.refl _ _)⟩
def mAugS (mo mi me : ME) (op : F2) : MS := fun W B ρ S => mo W ρ S fun o S1 => mi W ρ S1 fun i S2 => oIxL o i S2 fun x S3 => me W ρ S3 fun y S4 => op x y S4 fun z S5 => fSetL o i z S5 fun S6 => B.nx ρ S6
theorem js_augS {st : Stmt} {mo mi me : ME} {tip : TIp} {f : F2} (F : Snd2 X.K tip f) (h : PS X st (tAugS (tM X.mg X.K E mo) (tM X.mg X.K E mi) (tM X.mg X.K E me) (rIxL X.K) tip rSetL)) : JS X E st (mAugS mo mi me f) := weakS h fun G σ H ⟨π, ρ, S, W, B, rs, re, wk, hm, ft⟩ =>
  ⟨π, ρ, S, W, _, rs, re, wk, hm, fun o S1 h1 v1 π1 H1 rs1 rv1 e1 => ⟨π1, ρ, S1, W, _, rs1, re.ext e1, wk.ext e1, h1, fun i S2 h2 v2 π2 H2 rs2 rv2 e2 =>
    s_ixL π2 S2 H2 _ _ _ _ _ _ rs2 (rv1.ext e2) rv2 h2 fun x S3 h3 v3 π3 H3 rs3 rv3 e3 => ⟨π3, ρ, S3, W, _, rs3, re.ext (e1.trans (e2.trans e3)), wk.ext (e1.trans (e2.trans e3)), h3, fun y S4 h4 v4 π4 H4 rs4 rv4 e4 =>
      F π4 S4 H4 _ _ _ _ _ _ rs4 (rv3.ext e4) rv4 h4 fun z S5 h5 v5 π5 H5 rs5 rv5 e5 => by
        have e25 := e3.trans (e4.trans e5)
        exact snd_setL π5 S5 H5 _ _ _ _ _ _ _ _ rs5 (rv1.ext (e2.trans e25)) (rv2.ext e25) rv5 h5 fun S6 h6 π6 H6 rs6 e6 => ft.nx _ _ h6 _ π6 H6 rs6 (re.ext (e1.trans (e2.trans (e25.trans e6)))) (e1.trans (e2.trans (e25.trans e6)))⟩⟩⟩
/-! ### for over a list or a tuple -/
def iSeq (K : PySem.W.Frag) (tl : TE) : TI := fun σ H R => tl σ H fun x H1 => ∃ a, x = .ref a ∧ (((∃ xs, SqL K H1 a xs) ∧ R (Itl K a) H1) ∨ ((∃ xs, SqT K H1 a xs) ∧ R (Itt K a) H1))
theorem pi_seq {tg l : Expr} {tl : TE} (hl : PE X l tl) : PI X tg l (iSeq X.K tl) := by
  refine ⟨fun pins s σ H R I h => ?_⟩
  refine thn (hl.run pins s σ H _ I h) fun v s1 ⟨x, H1, I1, r1, q1⟩ => ?_
  obtain ⟨a, e, q1⟩ := q1
  subst e
  cases r1
  rcases q1 with ⟨⟨xs, hq⟩, q⟩ | ⟨⟨xs, hq⟩, q⟩
  · obtain ⟨its, rv, p, hz⟩ := I1.list hq
    refine wpAny_pyIter_list p.isList ?_
    refine ⟨s1.heap.objs.size, [s1.heap.objs.size], _, _, H1, rfl, I1.kept (t' := s1.toks) fun b o e => Heap.get?_push_of_some _ e, turn_list a _, ⟨_, Heap.get?_push_size _ rfl, rfl, rfl⟩, fun b hb => ?_, q⟩
    have e : b = s1.heap.objs.size := by simpa using hb
    subst e
    exact I1.fpOk (Nat.le_refl _) (I1.hok.fresh (Nat.le_refl _))
  · obtain ⟨its, rv, p, hz⟩ := I1.tuple hq
    refine wpAny_pyIter_tuple (show s1.heap.IsTuple a its.toArray from p) ?_
    refine ⟨s1.heap.objs.size, [s1.heap.objs.size], _, _, H1, rfl, I1.kept (t' := s1.toks) fun b o e => Heap.get?_push_of_some _ e, turn_tuple a _, ⟨_, Heap.get?_push_size _ rfl, rfl, rfl⟩, fun b hb => ?_, q⟩
    have e : b = s1.heap.objs.size := by simpa using hb
    subst e
    exact I1.fpOk (Nat.le_refl _) (I1.hok.fresh (Nat.le_refl _))
theorem ji_seq {tg l : Expr} {m : ME} (hl : JE X E l m) : JI X E tg l (mI1 fSeqI m) := weakI (pi_seq hl) fun σ H R ⟨π, ρ, S, W, RI, rs, re, wk, hm, af⟩ =>
  ⟨π, ρ, S, W, _, rs, re, wk, hm, fun d S1 hd v π1 H1 rs1 rv1 e1 => by
    cases rv1 with
    | tup ht hv =>
      refine ⟨_, rfl, .inr ⟨⟨_, ht⟩, af _ _ _ hd _ π1 H1 rs1 e1 ⟨fun i d hd π' S' H' rs e _ => ?_, fun π' S' H' rs e _ => ⟨_, e.sqt ht, by rw [hv.length]; exact Nat.le_refl _⟩⟩⟩⟩
      obtain ⟨v, h1, h2⟩ := hv.get hd
      refine ⟨⟨_, v, e.sqt ht, h1⟩, fun x H'' ⟨e1, e2⟩ => ?_⟩
      subst e1
      have := e2 _ (e.sqt ht)
      rw [h1] at this
      cases this
      exact ⟨rs, h2.ext e, Ext.refl _ _⟩
    | rol ht hv =>
      refine ⟨_, rfl, .inl ⟨⟨_, ht.seq⟩, af _ _ _ hd _ π1 H1 rs1 e1 ⟨fun i d hd π' S' H' rs e _ => ?_, fun π' S' H' rs e _ => ⟨_, (e.sqr ht).seq, by rw [hv.length]; exact Nat.le_refl _⟩⟩⟩⟩
      obtain ⟨v, h1, h2⟩ := hv.get hd
      refine ⟨⟨_, v, (e.sqr ht).seq, h1⟩, fun x H'' ⟨e1, e2⟩ => ?_⟩
      subst e1
      have := e2 _ (e.sqr ht).seq
      rw [h1] at this
      cases this
      exact ⟨rs, h2.ext e, Ext.refl _ _⟩
    | @ref n a hn =>
      obtain ⟨ds, hS, hd⟩ := hd
      obtain ⟨b, xs, h1, h2, h3⟩ := rs1.lstAt hS
      cases rs1.of_ref hn h1
      refine ⟨_, rfl, .inl ⟨⟨_, SqL.of h2⟩, af _ _ _ hd _ π1 H1 rs1 e1 ⟨fun i d hd π' S' H' rs e hG => ?_, fun π' S' H' rs e hG => ?_⟩⟩⟩
      · obtain ⟨b', xs', g1, g2, g3⟩ := rs.lstAt hG
        cases Option.some.inj ((e.get h1).symm.trans g1)
        obtain ⟨v, q1, q2⟩ := g3.get hd
        refine ⟨⟨_, v, SqL.of g2, q1⟩, fun x H'' ⟨e1, e2⟩ => ?_⟩
        subst e1
        have := e2 _ (SqL.of g2)
        rw [q1] at this
        cases this
        exact ⟨rs, q2, Ext.refl _ _⟩
      · obtain ⟨b', xs', g1, g2, g3⟩ := rs.lstAt hG
        cases Option.some.inj ((e.get h1).symm.trans g1)
        exact ⟨_, SqL.of g2, by rw [g3.length]; exact Nat.le_refl _⟩
    | _ => exact hd.elim⟩
/-! ### tuple([..]) -/
def fTupNew : FN := fun ds S R => R (.tup ds) S
theorem je_tuplc {e : Expr} {vs : List Nat} {mi : MI} {g : MG} {tg : TG} {mt : MT} {me : ME} (CT : CompT X.K tg g vs)
    (h : PE X e (tCB (fun xs H Q => ∃ p ys, xs = [.ref p] ∧ ((SqL X.K H p ys ∧ ∀ l, H l = none → Q (.ref l) (upd H l (.tup ys))) ∨ (SqT X.K H p ys ∧ Q (.ref p) H))) (tCons (tLc (tMI X.mg X.K E mi) tg (tMT X.mg X.K E0 mt) (tM X.mg X.K E0 me) vs) tNil))) : JE X E e (mN fTupNew (mItems vs mi g mt me)) :=
  weakE h fun σ H Q ⟨π, ρ, S, W, R, rs, re, wk, hm, af⟩ => by
    show tLc (tMI X.mg X.K E mi) tg (tMT X.mg X.K E0 mt) (tM X.mg X.K E0 me) vs σ H (fun x H1 => ∃ p ys, [x] = [V.ref p] ∧ ((SqL X.K H1 p ys ∧ ∀ l, H1 l = none → Q (.ref l) (upd H1 l (.tup ys))) ∨ (SqT X.K H1 p ys ∧ Q (.ref p) H1)))
    exact comp_core CT rs re wk hm fun p acc xs π' S' H' hR rs' hx rv hp hn e => ⟨p, xs, rfl, .inl ⟨SqL.of hx, fun l hl => (af.ext e).tup rs' rv hR hl⟩⟩
end
end MP

namespace MP
open PySem PySem.Spec PyProof.Rows L2

/-! ### calls of defs, by position and by keyword -/
structure Df (P : Program) (w : World) (K : PySem.W.Frag) (mg : Str → Option Value) (base : Heap) (x : Str) (st : Stmt) (k : Nat) (ps : List Str) (sp : SpD) : Prop where
  ex : ∃ f fd, FnOk P w K mg base (L2.CX P w) k f fd ps (spOf mg K sp) ∧ mg x = some (.ref f) ∧ Fun K x x st f fd
/-- where a def stands -/
def At (K : PySem.W.Frag) (mg : Str → Option Value) (x : Str) (st : Stmt) : Prop := ∃ f fd, mg x = some (.ref f) ∧ Fun K x x st f fd
theorem df_mk {P : Program} {w : World} {K : PySem.W.Frag} {mg : Str → Option Value} {base : Heap} {x : Str} {st : Stmt} {k : Nat} {ps : List Str} {sp : SpD} (a : At K mg x st)
    (h : ∀ f fd, Fun K x x st f fd → FnOk P w K mg base (L2.CX P w) k f fd ps (spOf mg K sp)) : Df P w K mg base x st k ps sp := let ⟨f, fd, g, F⟩ := a; ⟨f, fd, h f fd F, g, F⟩
theorem Df.mono {P : Program} {w : World} {K : PySem.W.Frag} {mg : Str → Option Value} {base : Heap} {x : Str} {st : Stmt} {k : Nat} {ps : List Str} {sp sp' : SpD} (D : Df P w K mg base x st k ps sp) (h : ∀ W ds S R, sp' W ds S R → sp W ds S R) : Df P w K mg base x st k ps sp' := by
  obtain ⟨f, fd, F, g, Fu⟩ := D.ex
  exact ⟨f, fd, F.imp fun vs H Q E ⟨π, S, ds, W, R, a, b, c, d, e⟩ => ⟨π, S, ds, W, R, a, b, c, h _ _ _ _ d, e⟩, g, Fu⟩
abbrev fnO (x : Str) (st : Stmt) (kV doc pm : Value) (an : Option Addr) (cdv ct : Value) : FuncData := PySem.W.fnOf x x (defArgs st) (defBody st) (defScope st) .none kV doc pm an cdv ct
def BindP (x : Str) (st : Stmt) (ps : List Str) : Prop := ∀ (kV doc pm : Value) (an : Option Addr) (cdv ct : Value) (us : List Value), us.length = ps.length → bindArgs (fnO x st kV doc pm an cdv ct) ⟨us, []⟩ = pure (ps.zip us)
/-- by keywords: nU by position, then those of ks; perm: the places in the parameters' order -/
def pick {α : Type} (perm : List Nat) (xs : List α) : List α := perm.filterMap fun i => xs[i]?
def BindK (x : Str) (st : Stmt) (ps ks : List Str) (nU : Nat) (perm : List Nat) : Prop := ∀ (kV doc pm : Value) (an : Option Addr) (cdv ct : Value) (us ws : List Value), us.length = nU → ws.length = ks.length →
  bindArgs (fnO x st kV doc pm an cdv ct) ⟨us, ks.zip ws⟩ = pure (ps.zip (pick perm (us ++ ws)))
theorem pick_vals {perm : List Nat} {xs : List V} {us : List Value} (r : Vals xs us) : Vals (pick perm xs) (pick perm us) := by
  unfold pick
  induction perm with
  | nil => exact .nil
  | cons i is ih =>
    rw [List.filterMap_cons, List.filterMap_cons]
    cases e : xs[i]? with
    | none =>
      rw [r.none_of e]
      exact ih
    | some x =>
      obtain ⟨u, h1, h2⟩ := r.get e
      rw [h1]
      exact .cons h2 ih
theorem pick_rvs {K : PySem.W.Frag} {π : List Addr} {H : Hp} {perm : List Nat} {ds : List D} {xs : List V} (r : RVs K π H ds xs) : RVs K π H (pick perm ds) (pick perm xs) := by
  unfold pick
  induction perm with
  | nil => exact .nil
  | cons i is ih =>
    rw [List.filterMap_cons, List.filterMap_cons]
    cases e : ds[i]? with
    | none =>
      have e2 : xs[i]? = none := by
        rw [List.getElem?_eq_none_iff] at e ⊢
        rw [← r.length]
        exact e
      rw [e2]
      exact ih
    | some d =>
      obtain ⟨v, h1, h2⟩ := r.get e
      rw [h1]
      exact .cons h2 ih
section
variable {X : Cx} {E : XK} {x : Str} {st : Stmt} {k : Nat} {ps ks : List Str} {sp : SpD} {p pos : Pos} {e : Expr} {es : List Expr} {me mk : MA} {kws : List Keyword}
theorem je_def (D : Df X.prog X.w X.K X.mg X.base x st k ps sp) (hb : BindP x st ps) (hr : Room k X.A) (hg : Gl X x) (hx : Passes (L2.CX X.prog X.w) X E) (ha : JA X E (e :: es) me) (hdb : (x == ("__debug__" : Str)) = false := by decide)
    (he : starEach (e :: es) X.env = (false, eval e X.env) :: starEach es X.env := by rfl) (hpl : (backTo pos (starEach es X.env)).any (·.1) = false := by rfl) : JE X E (.Call (.Name x p) (e :: es) [] pos) (mCall sp me) := by
  obtain ⟨f, fd, F, g, Fu⟩ := D.ex
  exact je_call (pe_call F hr hg g Fu.kp (Fu.binds hb) .nil hx ha hdb he hpl)
theorem je_def0 (D : Df X.prog X.w X.K X.mg X.base x st k ps sp) (hb : BindP x st ps) (hr : Room k X.A) (hg : Gl X x) (hx : Passes (L2.CX X.prog X.w) X E) (hdb : (x == ("__debug__" : Str)) = false := by decide) : JE X E (.Call (.Name x p) [] [] pos) (mCall sp mNil) := by
  obtain ⟨f, fd, F, g, Fu⟩ := D.ex
  exact je_call (weakE (pe_call0 F hr hg g Fu.kp (Fu.binds hb) .nil hx hdb) fun σ H Q ⟨vs, W, S, a, b, rs, re, wk, hm, af⟩ => by
    exact af _ _ hm [] vs H rs .nil (Ext.refl _ _))
/-- a call whose arguments are bound as told -/
theorem run_k {CX : CXT} {f : Addr} {fd : FuncData} {sp : Sp} {pins : List (Addr × Obj)} {σ : L2.St} {H : Hp} {s : Shared} {Q : VK} {us ws xs : List Value} {ys : List V} (F : FnOk X.prog X.w X.K X.mg X.base CX k f fd ps sp) (hr : Room k X.A) (hx : Passes CX X E)
    (I : Inv X pins σ H s) (hb : BindsTo s fd ⟨us, ks.zip ws⟩ (ps.zip xs)) (r : Vals ys xs) (h : sp ys H Q E) : wpAny (model X.prog X.w) X.A (call (.ref f) us (ks.zip ws)) (EP X pins σ Q) X.xe s := by
  refine wpAny_call (codeAny_mono (F.run X.A X.stack s H ⟨us, ks.zip ws⟩ xs ys Q E hr I.env0 hb r h) fun r s' hq => ?_)
  cases r with
  | error e => exact hx pins σ H s e s' I hq
  | ok fl =>
    cases fl with
    | ret u => exact I.after hq
    | next => exact False.elim hq
    | brk => exact False.elim hq
    | cont => exact False.elim hq
abbrev JK (X : Cx) (E : XK) (kws : List Keyword) (m : MA) : Prop := PK X kws (tMA X.mg X.K E m)
theorem weakK {t t' : TA} (h : PK X kws t) (w : ∀ σ H Q, t' σ H Q → t σ H Q) : PK X kws t' := ⟨fun pos pins s σ H Q I q => h.run pos pins s σ H Q I (w _ _ _ q)⟩
theorem jk_nil : JK X E [] mNil := weakK pk_nil fun σ H Q ⟨π, ρ, S, W, R, rs, re, wk, hm, af⟩ => af [] S hm [] π H rs .nil (Ext.refl _ _)
theorem jk_cons {nm : Option Str} {kpos : Pos} {m : ME} {n : MA} (ha : JE X E e m) (hs : JK X E kws n) : JK X E (⟨nm, e, kpos⟩ :: kws) (mCons m n) := weakK (pk_cons ha hs) fun σ H Q ⟨π, ρ, S, W, R, rs, re, wk, hm, af⟩ =>
  ⟨π, ρ, S, W, _, rs, re, wk, hm, fun d S1 hd v π1 H1 rs1 rv1 e1 => ⟨π1, ρ, S1, W, _, rs1, re.ext e1, wk.ext e1, hd, fun ds S2 hds vs π2 H2 rs2 rvs2 e2 => af (d :: ds) S2 hds _ π2 H2 rs2 (.cons (rv1.ext e2) rvs2) (e1.trans e2)⟩⟩
def mCallK (sp : SpD) (nU nK : Nat) (perm : List Nat) (me mk : MA) : ME := fun W ρ S R => me W ρ S fun ds S1 => mk W ρ S1 fun es S2 => ds.length = nU ∧ es.length = nK ∧ sp W (pick perm (ds ++ es)) S2 R
theorem je_defK0 {perm : List Nat} (D : Df X.prog X.w X.K X.mg X.base x st k ps sp) (hb : BindK x st ps ks 0 perm) (hr : Room k X.A) (hg : Gl X x) (hx : Passes (L2.CX X.prog X.w) X E) (hk : JK X E kws mk)
    (hall : (backToKw pos (keywordEach kws X.env)).all (·.1.isSome) = true := by rfl) (hks : (backToKw pos (keywordEach kws X.env)).filterMap (·.1) = ks := by rfl)
    (hpl : ((backTo pos (starEach [] X.env)).any (·.1) || (backToKw pos (keywordEach kws X.env)).any (·.1.isNone)) = false := by rfl) (hdb : (x == ("__debug__" : Str)) = false := by decide) :
    JE X E (.Call (.Name x p) [] kws pos) (mCallK sp 0 ks.length perm mNil mk) := by
  obtain ⟨f, fd, F, g, Fu⟩ := D.ex
  refine ⟨fun pins s σ H Q I h => ?_⟩
  obtain ⟨π, ρ, S, W, R, rs, re, wk, hm, af⟩ := h
  refine wpAny_Call_Name_kw (ld_glob I hg g ?_ hdb)
  refine PySem.W.callWith_KW0 (h₀ := X.base) I.ok.mod.kin Fu.kp hall (thn (hk.run pos pins s σ H (fun zs H1 => zs.length = ks.length ∧ spOf X.mg X.K sp (pick perm zs) H1 Q E) I ⟨π, ρ, S, W, _, rs, re, wk, hm, fun es S2 ⟨_, hl, hq⟩ zs π2 H2 rs2 rv2 e2 => ?_⟩) fun ws s2 ⟨zs, H2, I2, rz, hl, q2⟩ => ⟨I2.kIn, ?_⟩) hpl
  · exact ⟨by rw [← rv2.length]; exact hl, π2, S2, _, W, R, rs2, pick_rvs rv2, wk.ext e2, hq, af.ext e2⟩
  · rw [hks]
    obtain ⟨oc, od, kV, doc, pm, an, cdv, ct, osl, rfl, lk, hcd⟩ := Fu.ex
    exact run_k F hr hx I2 (.of_eq (hb kV doc pm an cdv ct [] ws rfl (by rw [← rz.length]; exact hl))) (pick_vals rz) q2
theorem je_defK {perm : List Nat} (D : Df X.prog X.w X.K X.mg X.base x st k ps sp) {nU : Nat} (hb : BindK x st ps ks nU perm) (hr : Room k X.A) (hg : Gl X x) (hx : Passes (L2.CX X.prog X.w) X E) (ha : JA X E (e :: es) me) (hk : JK X E kws mk)
    (hall : (backToKw pos (keywordEach kws X.env)).all (·.1.isSome) = true := by rfl) (hks : (backToKw pos (keywordEach kws X.env)).filterMap (·.1) = ks := by rfl)
    (hpl : ((backTo pos (starEach (e :: es) X.env)).any (·.1) || (backToKw pos (keywordEach kws X.env)).any (·.1.isNone)) = false := by rfl) (hdb : (x == ("__debug__" : Str)) = false := by decide) (he : starEach (e :: es) X.env = (false, eval e X.env) :: starEach es X.env := by rfl) :
    JE X E (.Call (.Name x p) (e :: es) kws pos) (mCallK sp nU ks.length perm me mk) := by
  obtain ⟨f, fd, F, g, Fu⟩ := D.ex
  refine ⟨fun pins s σ H Q I h => ?_⟩
  obtain ⟨π, ρ, S, W, R, rs, re, wk, hm, af⟩ := h
  refine wpAny_Call_Name_kw (ld_glob I hg g ?_ hdb)
  refine PySem.W.callWith_KW (h₀ := X.base) I.ok.mod.kin Fu.kp hall (thn (ha.run pos pins s σ H (fun vs H1 => tMA X.mg X.K E mk σ H1 fun zs H2 => vs.length = nU ∧ zs.length = ks.length ∧ spOf X.mg X.K sp (pick perm (vs ++ zs)) H2 Q E) I ⟨π, ρ, S, W, _, rs, re, wk, hm, fun ds S1 hd vs π1 H1 rs1 rv1 e1 =>
    ⟨π1, ρ, S1, W, _, rs1, re.ext e1, wk.ext e1, hd, fun es S2 ⟨hu, hl, hq⟩ zs π2 H2 rs2 rv2 e2 => ?_⟩⟩) fun us s1 ⟨vs, H1, I1, r, q⟩ => thn (hk.run pos pins s1 σ H1 _ I1 q) fun ws s2 ⟨zs, H2, I2, rz, hu, hl, q2⟩ => ⟨I2.kIn, ?_⟩) hpl he
  · exact ⟨by rw [← rv1.length]; exact hu, by rw [← rv2.length]; exact hl, π2, S2, _, W, R, rs2, pick_rvs ((rv1.ext e2).append rv2), wk.ext (e1.trans e2), hq, af.ext (e1.trans e2)⟩
  · rw [hks]
    obtain ⟨oc, od, kV, doc, pm, an, cdv, ct, osl, rfl, lk, hcd⟩ := Fu.ex
    exact run_k F hr hx I2 (.of_eq (hb kV doc pm an cdv ct us ws (by rw [← r.length]; exact hu) (by rw [← rz.length]; exact hl))) (pick_vals (r.append rz)) q2
end
end MP

namespace MP
open PySem PySem.Spec PyProof.Rows L2
section
variable {X : Cx} {E : XK}
theorem jts_nil : PTs X [] (tMT X.mg X.K E0 mYes) := ⟨fun pins s σ H Q I h => pts_nil.run pins s σ H Q I (by
  obtain ⟨π, ρ, S, W, R, rs, re, wk, hm, af⟩ := h
  exact af _ _ hm π H rs (Ext.refl _ _))⟩
/-- a constant of the module -/
def GC (K : PySem.W.Frag) (mg : Str → Option Value) (x : Str) (d : D) : Prop := ∃ u v, mg x = some u ∧ RelV v u ∧ ∀ π H, RV K π H d v
theorem je_glob {x : Str} {d : D} {p : Pos} (g : GC X.K X.mg x d) (hg : Gl X x) (hd : (x == ("__debug__" : Str)) = false := by decide) : JE X E (.Name x p) (mC d) := by
  obtain ⟨u, v, h1, h2, h3⟩ := g
  exact je_c (pe_glob hg h1 h2 hd) h3
end
theorem fn_of_df {P : Program} {w : World} {K : PySem.W.Frag} {mg : Str → Option Value} {base : Heap} {x : Str} {st : Stmt} {k : Nat} {ps : List Str} {sp : SpD} (D : Df P w K mg base x st k ps sp) {fa : Addr} {fd : FuncData} {oc : Value} {od : Option Addr} {sl : Array (Option Value)}
    (hm : mg x = some (.ref fa)) (l : K.lookup fa = some ⟨oc, od, .func fd, sl⟩) : FnOk P w K mg base (L2.CX P w) k fa fd ps (spOf mg K sp) := by
  obtain ⟨f, fd', F, g, Fu⟩ := D.ex
  rw [hm] at g
  cases g
  obtain ⟨_, _, _, _, _, _, _, _, _, _, lk, _⟩ := Fu.ex
  rw [l] at lk
  cases lk
  exact F
def spL (K : PySem.W.Frag) (f : SpD) : Sp := fun vs H Q _ => ∃ π S ds R, RelS K π S H ∧ RVs K π H ds vs ∧ f W0 ds S R ∧ After K π H R Q
theorem rvs_ints {K : PySem.W.Frag} {π : List Addr} {H : Hp} : ∀ ns : List Int, RVs K π H (ns.map D.int) (ns.map V.int)
  | [] => .nil
  | n :: ns => .cons (.int n) (rvs_ints ns)
/-- the law's walk, from its promise -/
theorem walk_mp {l : PySem.W.OpenLaw} {k : Nat} {q : Program} {loose : List Str} {XP : (Str → Option Value) → Heap → Prop} {YP : World → Heap → Prop} {d : DefRec} {K : Params → PySem.W.Frag} {sp : SpD}
    (hn : l.most = some 63) (hdf : d.params.defaults = []) (hr : Room k callerA)
    (hY : ∀ (w : World) (h : Heap), YP w h → (K w.params).In h)
    (F : ∀ (w : World) (mg : Str → Option Value) (fa : Addr) (h : Heap), (K w.params).In h → h.Ns mainGlobals mg → mg d.name = some (.ref fa) →
      ∃ fd : FuncData, (∀ (s : Shared) (u : Value), BindsTo s fd ⟨[u], []⟩ [("script", u)]) ∧
        ∀ base : Heap, (K w.params).In base → base.Ns mainGlobals mg → FnOk l.prog w (K w.params) mg base (L2.CX l.prog w) k fa fd ["script"] (spOf mg (K w.params) sp))
    (hsp : ∀ ns : List Int, ns.length ≤ 63 → sp W0 [.rol (ns.map D.int)] [] (fun d _ => d = .bl true)) :
    PySem.W.WalkO q loose XP YP l.row.toRowW d [] (fun f vs => PySem.call f vs) := by
  refine walk_of (l := l) (n := 63) (k := k) (x := "script") (CX := fun w => L2.CX l.prog w) (sp := fun w => spL (K w.params) sp) hn (by decide) hdf hr hY ?_ ?_ ?_
  · intro w mg fa h KX G hmg
    obtain ⟨fd, hb, hF⟩ := F w mg fa h KX G hmg
    exact ⟨fd, hb, fun base k1 k2 => (hF base k1 k2).imp fun vs H Q E ⟨π, S, ds, R, a, b, c, e⟩ => ⟨π, S, ds, W0, R, a, b, WOk.never, c, e⟩⟩
  · intro w H a ns hl hO hS
    refine ⟨[], [], [.rol (ns.map D.int)], _, ⟨rfl, .nil, fun n o h => by simp at h⟩, .cons (.rol ?_ (rvs_ints ns)) .nil, hsp ns hl, fun d S' hd v π' H' rs' rv' e' => ?_⟩
    · rcases hS with h | h
      · rcases hO a with z | ⟨ob, xs, z⟩
        · rcases h with h | ⟨o, h⟩
          · rw [z] at h; cases h
          · rw [z] at h; cases h
        · rcases h with h | ⟨o, h⟩
          · rw [z] at h; cases h
          · exact .inl ⟨o, h⟩
      · exact .inr h
    · subst hd
      cases rv'
      rfl
  · intro w H s e s' h
    obtain ⟨_, _, _, _, _, _, _, _, _, _, _, _, z⟩ := h
    exact z.elim
end MP

namespace MP
open PySem PySem.Spec PyProof.Rows L2
/-! ### reading denotations -/
/-- any step that can't go wrong -/
theorem CMul.r {i j : Int} (h : -(2 ^ 64) < j ∧ j < 2 ^ 64) : CMul i j := .inr h
theorem CMul.l {i j : Int} (h : -(2 ^ 64) < i ∧ i < 2 ^ 64) : CMul i j := .inl h
theorem CDivW.small {i j : Int} (h : 0 < j) (h2 : j < 2 ^ 200) : CDivW i j := by
  refine wide_div h (b := 200) ?_ (by decide) (by decide)
  omega
/-! ### loops by a word -/
theorem mLoop_inv {g : MG} {mb : MS} {G : Sto → Prop} {W : XW} {B : ES} {ds : List D} (I : Nat → Env → Sto → Prop)
    (step : ∀ (i : Nat) (d : D) (ρ : Env) (S : Sto) (N : Env → Sto → Prop), ds[i]? = some d → I i ρ S → (∀ ρ' S', I (i + 1) ρ' S' → N ρ' S') → G S ∧ g W d ρ S fun ρ' S' => mb W { B with nx := N, ct := N, bk := B.nx } ρ' S')
    (fin : ∀ ρ S, I ds.length ρ S → G S ∧ B.nx ρ S) {ρ : Env} {S : Sto} (h0 : I 0 ρ S) : mLoop g mb G W B ds ρ S := by
  have go : ∀ (k i : Nat) (ρ : Env) (S : Sto), i + k = ds.length → I i ρ S → mLoop g mb G W B (ds.drop i) ρ S := by
    intro k
    induction k with
    | zero =>
      intro i ρ S hi h
      have : i = ds.length := by omega
      subst this
      rw [List.drop_length]
      exact fin ρ S h
    | succ k ih =>
      intro i ρ S hi h
      have hlt : i < ds.length := by omega
      rw [List.drop_eq_getElem_cons hlt]
      exact step i ds[i] ρ S _ (List.getElem?_eq_getElem hlt) h fun ρ' S' h' => ih (i + 1) ρ' S' (by omega) h'
  simpa using go ds.length 0 ρ S (by omega) h0
theorem cLoop_inv {g : MG} {mt : MT} {me : ME} {G : Sto → Prop} {ρ : Env} {ds : List D} {R : List D → Sto → Prop} (I : Nat → List D → Sto → Prop)
    (step : ∀ (i : Nat) (d : D) (acc : List D) (S : Sto) (N : List D → Sto → Prop), ds[i]? = some d → I i acc S → (∀ acc' S', I (i + 1) acc' S' → N acc' S') →
      G S ∧ g W0 d ρ S fun ρ' S1 => mt W0 ρ' S1 fun k S2 => Br k (me W0 ρ' S2 fun y S3 => acc.length < sizeLine ∧ N (acc ++ [y]) S3) (N acc S2))
    (fin : ∀ acc S, I ds.length acc S → G S ∧ R acc S) {acc : List D} {S : Sto} (h0 : I 0 acc S) : cLoop g mt me G ρ ds acc S R := by
  have go : ∀ (k i : Nat) (acc : List D) (S : Sto), i + k = ds.length → I i acc S → cLoop g mt me G ρ (ds.drop i) acc S R := by
    intro k
    induction k with
    | zero =>
      intro i acc S hi h
      have : i = ds.length := by omega
      subst this
      rw [List.drop_length]
      exact fin acc S h
    | succ k ih =>
      intro i acc S hi h
      have hlt : i < ds.length := by omega
      rw [List.drop_eq_getElem_cons hlt]
      exact step i ds[i] acc S (fun a s => cLoop g mt me G ρ (ds.drop (i + 1)) a s R) (List.getElem?_eq_getElem hlt) h fun acc' S' h' => ih (i + 1) acc' S' (by omega) h'
  simpa using go ds.length 0 acc S (by omega) h0
theorem mWhile_inv {t : MT} {mb : MS} {W : XW} {B : ES} (I : Env → Sto → Prop) (μ : Env → Sto → Nat)
    (step : ∀ (ρ : Env) (S : Sto) (N : Env → Sto → Prop), I ρ S → (∀ ρ' S', I ρ' S' → μ ρ' S' < μ ρ S → N ρ' S') → t W ρ S fun k S1 => Br k (mb W { B with nx := N, ct := N, bk := B.nx } ρ S1) (B.nx ρ S1))
    {ρ : Env} {S : Sto} (h0 : I ρ S) : mWhile t mb W B ρ S := by
  have go : ∀ (n : Nat) (ρ : Env) (S : Sto), I ρ S → μ ρ S < n → mWh t mb W B n ρ S := by
    intro n
    induction n with
    | zero => intro ρ S _ h; omega
    | succ n ih =>
      intro ρ S h hl
      exact step ρ S _ h fun ρ' S' h' hm => ih ρ' S' h' (by omega)
  exact ⟨_, go (μ ρ S + 1) ρ S h0 (Nat.lt_succ_self _)⟩
/-- statements on end, by what holds between them -/
theorem seq_cut {m n : MS} {W : XW} {B : ES} {ρ : Env} {S : Sto} (I : Env → Sto → Prop) (h1 : ∀ N : Env → Sto → Prop, (∀ ρ' S', I ρ' S' → N ρ' S') → m W { B with nx := N } ρ S) (h2 : ∀ ρ' S', I ρ' S' → n W B ρ' S') : mSeq m n W B ρ S := h1 _ h2
theorem mSeq_set {i : Nat} {m : ME} {n : MS} {W : XW} {B : ES} {ρ : Env} {S : Sto} : mSeq (mSet i m) n W B ρ S = m W ρ S fun d S1 => n W B (ρ.set i (some d)) S1 := rfl
theorem mSeq_expr {m : ME} {n : MS} {W : XW} {B : ES} {ρ : Env} {S : Sto} : mSeq (mExpr m) n W B ρ S = m W ρ S fun _ S1 => n W B ρ S1 := rfl
theorem if_cut {t : MT} {m n : ME} {W : XW} {ρ : Env} {S : Sto} {R : Post} (P : D → Sto → Prop) (h1 : ∀ R' : Post, (∀ d S', P d S' → R' d S') → mIf t m n W ρ S R') (h2 : ∀ d S', P d S' → R d S') : mIf t m n W ρ S R := h1 R h2
/-- any expression, by what holds of its value -/
theorem e_cut {m : ME} {W : XW} {ρ : Env} {S : Sto} {R : Post} (P : D → Sto → Prop) (h1 : ∀ R' : Post, (∀ d S', P d S' → R' d S') → m W ρ S R') (h2 : ∀ d S', P d S' → R d S') : m W ρ S R := h1 R h2
/-- .. that leaves the store -/
theorem e_same {m : ME} {W : XW} {ρ : Env} {S : Sto} {R : Post} (P : D → Prop) (h1 : ∀ R' : Post, (∀ d, P d → R' d S) → m W ρ S R') (h2 : ∀ d, P d → R d S) : m W ρ S R := h1 (fun d S' => R d S' ) fun d h => h2 d h
end MP

namespace MP
open PySem PySem.Spec PyProof.Rows L2
/-! ### operators by data -/
/-- a rule by data, as one by values -/
def rD (K : PySem.W.Frag) (o : F2) : R2 := fun x y H Q => ∃ π S dx dy R, RelS K π S H ∧ RV K π H dx x ∧ RV K π H dy y ∧ o dx dy S R ∧ After K π H R Q
theorem s_rD {K : PySem.W.Frag} {o : F2} : Snd2 K (rD K o) o := fun π S H x y dx dy R Q rs r1 r2 h af => ⟨π, S, dx, dy, R, rs, r1, r2, h, af⟩
theorem EP.of {X : Cx} {pins : List (Addr × Obj)} {σ : L2.St} {H : Hp} {Q : VK} {s : Shared} {v : V} {u : Value} (I : Inv X pins σ H s) (r : RelV v u) (q : Q v H) : EP X pins σ Q u s := ⟨v, H, I, r, q⟩
/-- a < b of alike data -/
def ltD (a b : D) : Bool := PySem.W.dataLt (toPy a) (toPy b)
def likeD (a b : D) : Bool := PySem.W.alike (toPy a) (toPy b)
def oLtD : F2
  | .int i, .int j, S, R => R (.bl (decide (i < j))) S
  | .tup xs, .tup ys, S, R => (pd 60 (.tup xs) = true ∧ pd 60 (.tup ys) = true ∧ likeD (.tup xs) (.tup ys) = true) ∧ R (.bl (ltD (.tup xs) (.tup ys))) S
  | _, _, _, _ => False
theorem op_ltD {X : Cx} (hu : X.A.units + 64 < cLine) : OpR X (compareOp .Lt) (rD X.K oLtD) := by
  rintro pins s σ H x y v u Q I rx ry ⟨π, S, dx, dy, R, rs, r1, r2, h, af⟩
  cases r1 <;> cases r2 <;> try exact (False.elim h)
  case int.int i j =>
    obtain ⟨t, rfl⟩ := rx
    obtain ⟨t', rfl⟩ := ry
    exact lt_int (EP.of (v := .bl _) I rfl (af _ _ h _ π H rs (.bl _) (Ext.refl _ _)))
  case tup.tup a xs ds h1 v1 b ys es h2 v2 =>
    obtain ⟨⟨p1, p2, al⟩, q⟩ := h
    obtain ⟨as, e1⟩ := Dp.reads I (toPy (.tup ds)) _ _ (RV.dp (.tup h1 v1) (pd_all p1).1) rx
    obtain ⟨bs, e2⟩ := Dp.reads I (toPy (.tup es)) _ _ (RV.dp (.tup h2 v2) (pd_all p2).1) ry
    have hd := (pd_all p1).2.2
    have hne : toPy (.tup ds) ≠ .none := by simp [toPy]
    refine PySem.W.rcLt_alike _ _ X.A s v u as bs e1 e2 al hne ?_ _ _ _ _ (EP.of (v := .bl _) I rfl (af _ _ q _ π H rs (.bl _) (Ext.refl _ _)))
    have := Nat.min_le_left (toPy (.tup ds)).depth (toPy (.tup es)).depth
    omega
/-- x in y: pure data -/
def dIn (x : D) (ys : List D) : Bool := ys.any fun y => deq y x
def inR (g : Bool → Bool) : F2 := fun x y S R => match y with
  | .tup ys => (pd 30 x = true ∧ pd 30 (.tup ys) = true) ∧ R (.bl (g (dIn x ys))) S
  | .rol ys => (pd 30 x = true ∧ pd 30 (.rol ys) = true) ∧ R (.bl (g (dIn x ys))) S
  | .ref n => ∃ ys, S[n]? = some (.lst ys) ∧ (pd 30 x = true ∧ pd 30 (.rol ys) = true) ∧ R (.bl (g (dIn x ys))) S
  | _ => False
abbrev oIn : F2 := inR fun b => b
abbrev oNotIn : F2 := inR fun b => !b
theorem any_eqv {x : D} (hx : scD 0 x = true) : ∀ ys : List D, scDs 0 ys = true → (toPys ys).any (fun y => PyData.eqv y (toPy x)) = dIn x ys
  | [], _ => rfl
  | y :: ys, h => by
    have h' : scD 0 y = true ∧ scDs 0 ys = true := by simpa [scDs] using h
    show (PyData.eqv (toPy y) (toPy x) || (toPys ys).any _) = (deq y x || dIn x ys)
    rw [eqv_deq y x h'.1 hx, any_eqv hx ys h'.2]
theorem pd_plain {n : Nat} {d : D} (h : pd n d = true) : (toPy d).plain = true := PyData.plain_of_canLay0 _ (pd_all h).2.1
theorem op_inDD {X : Cx} (hu : X.A.units + 64 < cLine) : OpR X (compareOp .In) (rD X.K oIn) := by
  rintro pins s σ H x y v u Q I rx ry ⟨π, S, dx, dy, R, rs, r1, r2, h, af⟩
  have main : ∀ {ys : List D}, pd 30 dx = true → pd 30 (.tup ys) = true → ∃ as bs, Reads s.heap v (toPy dx) as ∧ (toPy dx).plain = true ∧ PyData.plainAll (toPys ys) = true ∧ X.A.units + 1 + min (PyData.depthAll (toPys ys)) (toPy dx).depth < cLine ∧ bs = as := fun {ys} p1 p2 => by
    obtain ⟨as, e1⟩ := Dp.reads I (toPy dx) _ _ (RV.dp r1 (pd_all p1).1) rx
    have q2 := pd_plain p2
    have hd := (pd_all p1).2.2
    refine ⟨as, as, e1, pd_plain p1, by simpa [toPy, PyData.plain] using q2, ?_, rfl⟩
    have := Nat.min_le_right (PyData.depthAll (toPys ys)) (toPy dx).depth
    omega
  have fin : ∀ {ys : List D}, pd 30 dx = true → scDs 0 ys = true → R (.bl (dIn dx ys)) S → EP X pins σ Q (.bool ((toPys ys).any fun y => PyData.eqv y (toPy dx))) s := fun {ys} p1 p2 q => by
    rw [any_eqv (pd_all p1).1 ys p2]
    exact EP.of (v := .bl _) I rfl (af _ _ q _ π H rs (.bl _) (Ext.refl _ _))
  cases r2 <;> try exact (False.elim h)
  case tup a ys es h2 v2 =>
    obtain ⟨⟨p1, p2⟩, q⟩ := h
    obtain ⟨as, _, e1, e2, e3, e4, _⟩ := main p1 p2
    have sc := (pd_all p2).1
    obtain ⟨bs, e5⟩ := Dp.reads I (toPy (.tup es)) _ _ (RV.dp (.tup h2 v2) sc) ry
    simp only [toPy] at e5
    exact SeqAt.in_tuple_data e5 e1 e3 e2 e4 (fin p1 (by simpa [scD] using sc) q)
  case rol a ys es h2 v2 =>
    obtain ⟨⟨p1, p2⟩, q⟩ := h
    obtain ⟨as, _, e1, e2, e3, e4, _⟩ := main (ys := es) p1 (by simpa [pd] using p2)
    have sc := (pd_all p2).1
    obtain ⟨bs, e5⟩ := Dp.reads I (toPy (.rol es)) _ _ (RV.dp (.rol h2 v2) sc) ry
    simp only [toPy] at e5
    exact SeqAt.in_list_data e5 e1 e3 e2 e4 (fin p1 (by simpa [scD] using sc) q)
  case ref n a hn =>
    obtain ⟨es, hS, ⟨p1, p2⟩, q⟩ := h
    obtain ⟨a', us, g1, g2, g3⟩ := rs.lstAt hS
    cases rs.of_ref hn g1
    obtain ⟨as, _, e1, e2, e3, e4, _⟩ := main (ys := es) p1 (by simpa [pd] using p2)
    have sc := (pd_all p2).1
    obtain ⟨bs, e5⟩ := Dp.reads I (.list (toPys es)) _ _ (.lst (SqL.of g2) (g3.dp (by simpa [scD] using sc))) ry
    exact SeqAt.in_list_data e5 e1 e3 e2 e4 (fin p1 (by simpa [scD] using sc) q)
theorem op_notInDD {X : Cx} (hu : X.A.units + 64 < cLine) : OpR X (compareOp .NotIn) (rD X.K oNotIn) := by
  rintro pins s σ H x y v u Q I rx ry ⟨π, S, dx, dy, R, rs, r1, r2, h, af⟩
  have main : ∀ {ys : List D}, pd 30 dx = true → pd 30 (.tup ys) = true → ∃ as bs, Reads s.heap v (toPy dx) as ∧ (toPy dx).plain = true ∧ PyData.plainAll (toPys ys) = true ∧ X.A.units + 1 + min (PyData.depthAll (toPys ys)) (toPy dx).depth < cLine ∧ bs = as := fun {ys} p1 p2 => by
    obtain ⟨as, e1⟩ := Dp.reads I (toPy dx) _ _ (RV.dp r1 (pd_all p1).1) rx
    have q2 := pd_plain p2
    have hd := (pd_all p1).2.2
    refine ⟨as, as, e1, pd_plain p1, by simpa [toPy, PyData.plain] using q2, ?_, rfl⟩
    have := Nat.min_le_right (PyData.depthAll (toPys ys)) (toPy dx).depth
    omega
  have fin : ∀ {ys : List D}, pd 30 dx = true → scDs 0 ys = true → R (.bl (!dIn dx ys)) S → EP X pins σ Q (.bool (!(toPys ys).any fun y => PyData.eqv y (toPy dx))) s := fun {ys} p1 p2 q => by
    rw [any_eqv (pd_all p1).1 ys p2]
    exact EP.of (v := .bl _) I rfl (af _ _ q _ π H rs (.bl _) (Ext.refl _ _))
  cases r2 <;> try exact (False.elim h)
  case tup a ys es h2 v2 =>
    obtain ⟨⟨p1, p2⟩, q⟩ := h
    obtain ⟨as, _, e1, e2, e3, e4, _⟩ := main p1 p2
    have sc := (pd_all p2).1
    obtain ⟨bs, e5⟩ := Dp.reads I (toPy (.tup es)) _ _ (RV.dp (.tup h2 v2) sc) ry
    simp only [toPy] at e5
    exact SeqAt.notIn_tuple_data e5 e1 e3 e2 e4 (fin p1 (by simpa [scD] using sc) q)
  case rol a ys es h2 v2 =>
    obtain ⟨⟨p1, p2⟩, q⟩ := h
    obtain ⟨as, _, e1, e2, e3, e4, _⟩ := main (ys := es) p1 (by simpa [pd] using p2)
    have sc := (pd_all p2).1
    obtain ⟨bs, e5⟩ := Dp.reads I (toPy (.rol es)) _ _ (RV.dp (.rol h2 v2) sc) ry
    simp only [toPy] at e5
    exact SeqAt.notIn_list_data e5 e1 e3 e2 e4 (fin p1 (by simpa [scD] using sc) q)
  case ref n a hn =>
    obtain ⟨es, hS, ⟨p1, p2⟩, q⟩ := h
    obtain ⟨a', us, g1, g2, g3⟩ := rs.lstAt hS
    cases rs.of_ref hn g1
    obtain ⟨as, _, e1, e2, e3, e4, _⟩ := main (ys := es) p1 (by simpa [pd] using p2)
    have sc := (pd_all p2).1
    obtain ⟨bs, e5⟩ := Dp.reads I (.list (toPys es)) _ _ (.lst (SqL.of g2) (g3.dp (by simpa [scD] using sc))) ry
    exact SeqAt.notIn_list_data e5 e1 e3 e2 e4 (fin p1 (by simpa [scD] using sc) q)
/-! ### reversed -/
section
variable {X : Cx} {E : XK}
theorem rev_get {α : Type} {xs : List α} {i : Nat} (h : i < xs.length) : xs.reverse[i]? = xs[xs.length - 1 - i]? := by
  rw [List.getElem?_reverse h]
def fRevI : D → Sto → (List D → (Sto → Prop) → Sto → Prop) → Prop
  | .tup ds, S, R => R ds.reverse (fun _ => True) S
  | .rol ds, S, R => R ds.reverse (fun _ => True) S
  | .ref n, S, R => ∃ ds, S[n]? = some (.lst ds) ∧ R ds.reverse (fun S' => S'[n]? = some (.lst ds)) S
  | _, _, _ => False
theorem ji_rev {tg it : Expr} {m : ME} (h : PI X tg it (RT.iRevA X.K (tM X.mg X.K E m))) : JI X E tg it (mI1 fRevI m) := weakI h fun σ H R ⟨π, ρ, S, W, RI, rs, re, wk, hm, af⟩ =>
  ⟨π, ρ, S, W, _, rs, re, wk, hm, fun d S1 hd v π1 H1 rs1 rv1 e1 => by
    cases rv1 with
    | @tup a xs ds ht hv =>
      refine ⟨a, xs, rfl, .inr ⟨ht, af _ _ _ hd _ π1 H1 rs1 e1 ⟨fun i d hd π' S' H' rs e _ => ?_, fun π' S' H' rs e _ => ?_⟩⟩⟩
      · have hi : i < ds.length := by
          have := (List.getElem?_eq_some_iff.mp hd).1
          simpa using this
        rw [rev_get hi] at hd
        obtain ⟨v, h1, h2⟩ := hv.get hd
        rw [hv.length] at h1
        refine ⟨⟨by rw [← hv.length]; exact hi, _, v, e.sqt ht, h1⟩, fun x H'' ⟨e1, e2⟩ => ?_⟩
        subst e1
        have := e2 _ (e.sqt ht)
        rw [h1] at this
        cases this
        exact ⟨rs, h2.ext e, Ext.refl _ _⟩
      · show xs.length ≤ ds.reverse.length
        rw [List.length_reverse, hv.length]
        exact Nat.le_refl _
    | @rol a xs ds ht hv =>
      refine ⟨a, xs, rfl, .inl ⟨ht.seq, af _ _ _ hd _ π1 H1 rs1 e1 ⟨fun i d hd π' S' H' rs e _ => ?_, fun π' S' H' rs e _ => ?_⟩⟩⟩
      · have hi : i < ds.length := by
          have := (List.getElem?_eq_some_iff.mp hd).1
          simpa using this
        rw [rev_get hi] at hd
        obtain ⟨v, h1, h2⟩ := hv.get hd
        rw [hv.length] at h1
        refine ⟨⟨by rw [← hv.length]; exact hi, _, v, (e.sqr ht).seq, h1⟩, fun x H'' ⟨e1, e2⟩ => ?_⟩
        subst e1
        have := e2 _ (e.sqr ht).seq
        rw [h1] at this
        cases this
        exact ⟨rs, h2.ext e, Ext.refl _ _⟩
      · show xs.length ≤ ds.reverse.length
        rw [List.length_reverse, hv.length]
        exact Nat.le_refl _
    | @ref n a hn =>
      obtain ⟨ds, hS, hd⟩ := hd
      obtain ⟨b, xs, h1, h2, h3⟩ := rs1.lstAt hS
      cases rs1.of_ref hn h1
      refine ⟨_, xs, rfl, .inl ⟨SqL.of h2, af _ _ _ hd _ π1 H1 rs1 e1 ⟨fun i d hd π' S' H' rs e hG => ?_, fun π' S' H' rs e hG => ?_⟩⟩⟩
      · obtain ⟨b', xs', g1, g2, g3⟩ := rs.lstAt hG
        cases Option.some.inj ((e.get h1).symm.trans g1)
        have hi : i < ds.length := by
          have := (List.getElem?_eq_some_iff.mp hd).1
          simpa using this
        rw [rev_get hi] at hd
        obtain ⟨v, q1, q2⟩ := g3.get hd
        rw [h3.length] at q1
        refine ⟨⟨by rw [← h3.length]; exact hi, _, v, SqL.of g2, q1⟩, fun x H'' ⟨e1, e2⟩ => ?_⟩
        subst e1
        have := e2 _ (SqL.of g2)
        rw [q1] at this
        cases this
        exact ⟨rs, q2, Ext.refl _ _⟩
      · show xs.length ≤ ds.reverse.length
        rw [List.length_reverse, h3.length]
        exact Nat.le_refl _
    | _ => exact hd.elim⟩
/-! ### l.index(x), there -/
def lIndex : D → List D → Sto → Post → Prop := fun o ds S R => match o, ds with
  | .ref n, [y] => ∃ xs, S[n]? = some (.lst xs) ∧ (pd 30 y = true ∧ pd 30 (.rol xs) = true) ∧ ∃ j, xs.findIdx? (fun x => deq x y) = some j ∧ R (.int (j : Nat)) S
  | _, _ => False
theorem toPys_get : ∀ {xs : List D} {j : Nat} {z : PyData}, (toPys xs)[j]? = some z → ∃ x, xs[j]? = some x ∧ z = toPy x
  | [], _, _, h => by simp [toPys] at h
  | x :: xs, 0, z, h => ⟨x, rfl, by simpa [toPys] using h.symm⟩
  | x :: xs, j + 1, z, h => by
    obtain ⟨y, h1, h2⟩ := toPys_get (xs := xs) (j := j) (z := z) (by simpa [toPys] using h)
    exact ⟨y, by simpa using h1, h2⟩
theorem toPys_at : ∀ {xs : List D} {j : Nat} {x : D}, xs[j]? = some x → (toPys xs)[j]? = some (toPy x)
  | [], _, _, h => by simp at h
  | x :: xs, 0, y, h => by
    have : x = y := by simpa using h
    rw [this]
    rfl
  | x :: xs, j + 1, y, h => by
    show (toPys xs)[j]? = _
    exact toPys_at (by simpa using h)
theorem scDs_get {n : Nat} : ∀ {xs : List D} {j : Nat} {x : D}, scDs n xs = true → xs[j]? = some x → scD n x = true
  | [], _, _, _, h => by simp at h
  | x :: xs, 0, y, s, h => by
    have s' : scD n x = true ∧ scDs n xs = true := by simpa [scDs] using s
    have : x = y := by simpa using h
    rw [← this]
    exact s'.1
  | x :: xs, j + 1, y, s, h => by
    have s' : scD n x = true ∧ scDs n xs = true := by simpa [scDs] using s
    exact scDs_get s'.2 (by simpa using h)
theorem s_index {K : PySem.W.Frag} : SndM K (rIndexD K) lIndex := fun π S H x xs d ds R Q rs r rv hm af => by
  match d, ds, r, rv, hm with
  | .ref n, [y], .ref hn, .cons r1 .nil, ⟨ys, hS, ⟨p1, p2⟩, j, hj, q⟩ =>
    obtain ⟨a', us, g1, g2, g3⟩ := rs.lstAt hS
    cases rs.of_ref hn g1
    have sc := (pd_all p2).1
    have scs : scDs 0 ys = true := by simpa [scD] using sc
    have s1 := pd_shaped p2 (by decide)
    simp only [toPy] at s1
    obtain ⟨hlt, hyes, hno⟩ := List.findIdx?_eq_some_iff_getElem.mp hj
    have hyj : ys[j]? = some ys[j] := List.getElem?_eq_getElem hlt
    refine ⟨_, _, toPy y, toPys ys, j, toPy ys[j], rfl, rfl, .lst (SqL.of g2) (g3.dp scs), r1.dp (pd_all p1).1, s1, pd_shaped p1 (by decide), toPys_at hyj, ?_, fun m z' hm hz => ?_, af _ _ q _ π H rs (.int _) (Ext.refl _ _)⟩
    · rw [eqv_deq _ _ (scDs_get scs hyj) (pd_all p1).1]
      exact hyes
    · obtain ⟨x', h1, h2⟩ := toPys_get hz
      have hml : m < ys.length := by omega
      have : x' = ys[m] := Option.some.inj (h1.symm.trans (List.getElem?_eq_getElem hml))
      subst this
      rw [h2, eqv_deq _ _ (scDs_get scs h1) (pd_all p1).1]
      have := hno m hm
      simpa using this
end
/-! ### the module's tuples -/
theorem rv_tupK {K : PySem.W.Frag} {π : List Addr} {H : Hp} {a : Addr} {o : Obj} {its : List Value} {n : Nat} {xs : List V} {ds : List D} (l : K.lookup a = some o) (hc : o.cls = .type "tuple") (hd : o.data = .seq its.toArray n) (hz : its.length ≤ sizeLine) (rv : Vals xs its) (r : RVs K π H ds xs) : RV K π H (.tup ds) (.ref a) :=
  .tup (.inr ⟨o, its.toArray, n, l, hc, hd, by simpa using hz, by simpa using rv⟩) r
/-! ### min, max of a list of ints -/
def bMinL : FN := fun ds S R => match ds with
  | [.ref n] => ∃ ns : List Int, S[n]? = some (.lst (ns.map D.int)) ∧ 0 < ns.length ∧ ∀ m, m ∈ ns → (∀ y, y ∈ ns → m ≤ y) → R (.int m) S
  | _ => False
theorem rvs_ints_inv {K : PySem.W.Frag} {π : List Addr} {H : Hp} : ∀ {ns : List Int} {xs : List V}, RVs K π H (ns.map D.int) xs → xs = ns.map V.int
  | [], _, .nil => rfl
  | n :: ns, _, .cons (.int _) t => by rw [rvs_ints_inv t]; rfl
theorem s_minL {K : PySem.W.Frag} : SndN K (rMin K) bMinL := fun π S H xs ds R Q rs rv h af => by
  match ds, rv, h with
  | [.ref n], .cons (.ref hn) .nil, ⟨ns, hS, h0, q⟩ =>
    obtain ⟨a', us, g1, g2, g3⟩ := rs.lstAt hS
    cases rs.of_ref hn g1
    have := rvs_ints_inv g3
    subst this
    exact ⟨_, ns, rfl, SqL.of g2, h0, fun m h1 h2 => af _ _ (q m h1 h2) _ π H rs (.int _) (Ext.refl _ _)⟩
def bMaxL : FN := fun ds S R => match ds with
  | [.ref n] => ∃ ns : List Int, S[n]? = some (.lst (ns.map D.int)) ∧ 0 < ns.length ∧ ∀ m, m ∈ ns → (∀ y, y ∈ ns → y ≤ m) → R (.int m) S
  | _ => False
theorem s_maxL {K : PySem.W.Frag} : SndN K (rMax K) bMaxL := fun π S H xs ds R Q rs rv h af => by
  match ds, rv, h with
  | [.ref n], .cons (.ref hn) .nil, ⟨ns, hS, h0, q⟩ =>
    obtain ⟨a', us, g1, g2, g3⟩ := rs.lstAt hS
    cases rs.of_ref hn g1
    have := rvs_ints_inv g3
    subst this
    exact ⟨_, ns, rfl, SqL.of g2, h0, fun m h1 h2 => af _ _ (q m h1 h2) _ π H rs (.int _) (Ext.refl _ _)⟩
theorem _root_.L2.Room.units65 {k : Nat} {A : Around} (r : Room k A) : A.units + 65 < cLine := by have := r.un; omega
end MP

namespace MP
open PySem PySem.Spec PyProof.Rows L2
/-! ### tuple * 1, () * n: the tuple itself -/
theorem tuple_mulS (l : Addr) (items : Array Value) (n : Nat) (dd : Option Addr) (sl : Array (Option Value)) (x : Int) (u : Tok) (c0 : (decide (x < -(2 ^ 63)) || decide (x ≥ 2 ^ 63)) = false) (c1 : (items.isEmpty || x == 1) = true) :
    Meets (Builtin.«tuple.__mul__» ⟨[.ref l, .int x u], []⟩) (fun _ R s => s.heap.get? l = some { cls := .type "tuple", dict := dd, data := .seq items n, slots := sl } ∧ R (.ok (.ret (Value.ref l))) s) :=
  .of_wp fun prog w A R s h => by
    obtain ⟨hp, g, d, tk, os⟩ := s
    obtain ⟨hl, h⟩ := h
    have f1 := AutoSeq1.idx_int
    wp_walk using wpAny_loadPart' hl
    repeat (first
      | (refine wpAny_ite_false (decide_eq_false (by rw [c0]; exact Bool.false_ne_true)) ?_; wp_walk using wpAny_loadPart' hl)
      | (refine wpAny_ite_true (decide_eq_true (by rw [c1])) ?_; wp_walk using wpAny_loadPart' hl))
    exact ⟨_, rfl, h⟩
def rRepS (K : PySem.W.Frag) : R2 := fun x y H Q => ∃ l k xs, x = .ref l ∧ y = .int k ∧ SqT K H l xs ∧ (xs = [] ∨ k = 1) ∧ (-(2 ^ 63) ≤ k ∧ k < 2 ^ 63) ∧ Q (.ref l) H
theorem op_repS {X : Cx} : OpR X (binaryOp .Mult) (rRepS X.K) := by
  intro pins s σ H x y v u Q I rx ry h
  obtain ⟨l, k, xs, rfl, rfl, hT, hne, hk, q⟩ := h
  cases rx
  obtain ⟨t, rfl⟩ := ry
  obtain ⟨its, r, ⟨⟨cls, dd, data, sl⟩, ho, hc, n, hd⟩, hs⟩ := I.tuple hT
  simp only at hc hd
  subst hc hd
  have hle : its.length = xs.length := r.length.symm
  have c0 : (decide (k < -(2 ^ 63)) || decide (k ≥ 2 ^ 63)) = false := by
    rw [decide_eq_false (by omega), decide_eq_false (by omega)] <;> rfl
  have c1 : (its.toArray.isEmpty || k == 1) = true := by
    rcases hne with e | e
    · rw [e] at hle
      have : its = [] := List.eq_nil_of_length_eq_zero hle
      rw [this]
      rfl
    · rw [e]
      simp
  exact wpAny_binaryOp_repeat_ref (T := "tuple") (U := "int") (by decide) ⟨_, ho, rfl⟩ (fun s' => typeIs_int s' k t) noFill_tuple_mul F.fills_int_mul F.slot_int_rmul repeat_tuple F.slot_int_index.lookup
    (call_meets F.slot_int_rmul (typeIs_int s k t) F.entry_int_rmul (F.args_int_rmul_2 _ _) (int_rmul_tuple k t l its.toArray n dd sl)
      ⟨ho, rfl, ⟨_, ho, rfl⟩, call_meets F.slot_tuple_mul ⟨_, ho, rfl⟩ F.entry_tuple_mul (F.args_tuple_mul_2 _ _) (tuple_mulS l its.toArray n dd sl k t c0 c1) ⟨ho, ⟨.ref l, H, I, rfl, q⟩⟩⟩)
def oMulT : F2
  | .int i, .int j, S, R => (CMul i j ∨ CMulW i j) ∧ R (.int (i * j)) S
  | .tup xs, .int k, S, R => (1 ≤ k ∧ k ≤ 1000 ∧ xs.length ≤ 1000) ∧ R (.tup (List.replicate k.toNat xs).flatten) S
  | .ref n, .int k, S, R => ∃ xs, S[n]? = some (.lst xs) ∧ (-(2 ^ 63) ≤ k ∧ k < 2 ^ 63 ∧ xs.length * k.toNat ≤ sizeLine) ∧ R (.ref S.length) (S ++ [.lst (List.replicate k.toNat xs).flatten])
  | _, _, _, _ => False
def rMulT (K : PySem.W.Frag) : R2 := fun x y H Q => rMulD K x y H Q ∨ rRepS K x y H Q
theorem op_mulT {X : Cx} : OpR X (binaryOp .Mult) (rMulT X.K) := op_mulD.or op_repS
theorem rep_nil {α : Type} : ∀ n : Nat, (List.replicate n ([] : List α)).flatten = [] := fun n => by simp
theorem s_mulT {K : PySem.W.Frag} : Snd2 K (rMulT K) oMulT := fun π S H x y dx dy R Q rs r1 r2 h af => by
  cases dx <;> cases dy <;> try exact (False.elim h)
  case int.int i j => exact .inl (s_mul π S H x y (.int i) (.int j) R Q rs r1 r2 h af)
  case tup.int ds k =>
    obtain ⟨⟨c1, c2, c3⟩, q⟩ := h
    by_cases e : ds = [] ∨ k = 1
    · cases r1
      cases r2
      rename_i a xs ht hv
      have eq : (List.replicate k.toNat ds).flatten = ds := by
        rcases e with e | e
        · rw [e, rep_nil]
        · rw [e]
          show (List.replicate 1 ds).flatten = ds
          simp
      rw [eq] at q
      refine .inr ⟨a, k, xs, rfl, rfl, ht, ?_, ⟨by omega, by omega⟩, af _ _ q _ π H rs (.tup ht hv) (Ext.refl _ _)⟩
      rcases e with e | e
      · subst e
        cases hv
        exact .inl rfl
      · exact .inr e
    · have e1 : ds ≠ [] := fun z => e (.inl z)
      have e2 : k ≠ 1 := fun z => e (.inr z)
      exact .inl (s_mul π S H x y (.tup ds) (.int k) R Q rs r1 r2 ⟨⟨e1, by omega, c2, c3⟩, q⟩ af)
  case ref.int n k => exact .inl (s_mul π S H x y (.ref n) (.int k) R Q rs r1 r2 h af)
end MP

namespace MP
open PySem PySem.Spec PyProof.Rows L2
def top (i : Nat) : Stmt := PySem.Challenge.pw_spoolarms_k10_conjugators.main.body.getD i (.Pass ⟨0, 0, 0, 0⟩)
theorem mulC {i : Int} {j : Int} (h : (decide (-(2 ^ 64) < j) && decide (j < 2 ^ 64)) = true) : CMul i j ∨ CMulW i j := .inl (.inr (by simpa using h))
theorem mulS {i j : Int} (h : -(2 ^ 64) < i ∧ i < 2 ^ 64) : CMul i j ∨ CMulW i j := .inl (.inl h)
theorem divC {i : Int} {j : Int} (h : (decide (0 < j) && decide (j < 2 ^ 200)) = true) : CDivW i j := by
  simp only [Bool.and_eq_true, decide_eq_true_eq] at h
  exact CDivW.small h.1 h.2
/-- the drawing state, but for its cells -/
def GoodS (st : List D) : Prop := ∃ (i big cnt turn seed : Int) (mixed : Bool), st = [.ref 0, .int i, .int big, .int cnt, .int turn, .int seed, .bl mixed] ∧ 0 ≤ i
/-- the store of a law: the script's cells, the drawing state, what the law made -/
def Stt (cs : List Int) (st : List D) (T : Sto) : Sto := .lst (cs.map D.int) :: .lst st :: T
theorem Stt.at (cs : List Int) (st : List D) (T : Sto) (k : Nat) : (Stt cs st T)[k + 2]? = T[k]? := rfl
theorem Stt.len (cs : List Int) (st : List D) (T : Sto) : (Stt cs st T).length = T.length + 2 := rfl
theorem Stt.app (cs : List Int) (st : List D) (T U : Sto) : Stt cs st T ++ U = Stt cs st (T ++ U) := rfl
theorem atI_ofNat {α : Type} {xs : List α} {i : Int} (h : 0 ≤ i) : atI xs i = xs[i.toNat]? := by
  unfold atI ixN
  rw [if_pos h]
  by_cases h2 : i < xs.length
  · rw [if_pos h2]; rfl
  · rw [if_neg h2]
    exact (List.getElem?_eq_none (by omega)).symm
theorem atI_zero {α : Type} {x : α} {xs : List α} : atI (x :: xs) 0 = some x := by rw [atI_ofNat (by decide)]; rfl
theorem atI_mem {α : Type} {xs : List α} {i : Int} (h : 0 ≤ i) (h2 : i < xs.length) : ∃ d, atI xs i = some d ∧ d ∈ xs := by
  have hl : i.toNat < xs.length := by omega
  exact ⟨xs[i.toNat], by rw [atI_ofNat h, List.getElem?_eq_getElem hl], List.getElem_mem hl⟩
theorem ints_at {ns : List Int} {i : Nat} {d : D} (h : (ns.map D.int)[i]? = some d) : ∃ c : Int, d = .int c := by
  rw [List.getElem?_map] at h
  cases e : ns[i]? with
  | none => rw [e] at h; simp at h
  | some c => rw [e] at h; simp at h; exact ⟨c, h.symm⟩
theorem side_line {n : Nat} (h : decide (n ≤ 16777216) = true) : n ≤ sizeLine := by
  rw [sizeLine_eq]
  exact of_decide_eq_true h

/-- pure data without lists, at most n deep -/
def td : Nat → D → Bool
  | _, .non => true
  | _, .bl _ => true
  | _, .int _ => true
  | _, .str x => PyData.strOk x
  | n + 1, .tup ds => decide (ds.length ≤ 1000000) && ds.all (td n)
  | 0, .tup _ => false
  | _, .rol _ => false
  | _, .ref _ => false
theorem td_int (n : Nat) (i : Int) : td n (.int i) = true := by cases n <;> rfl
theorem td_pd : ∀ {n : Nat} {d : D}, td n d = true → pd n d = true
  | 0, d, h => by cases d <;> simp_all [td, pd]
  | n + 1, d, h => by
    cases d with
    | tup ds =>
      simp only [td, pd, List.all_eq_true, Bool.and_eq_true] at h ⊢
      exact fun x hx => td_pd (h.2 x hx)
    | _ => simp_all [td, pd]
theorem pd_mono : ∀ {n m : Nat} {d : D}, n ≤ m → pd n d = true → pd m d = true
  | 0, m, d, _, h => by cases d <;> simp_all [pd]
  | n + 1, 0, d, hn, h => by omega
  | n + 1, m + 1, d, hn, h => by
    cases d with
    | tup ds =>
      simp only [pd, List.all_eq_true] at h ⊢
      exact fun x hx => pd_mono (by omega) (h x hx)
    | rol ds =>
      simp only [pd, List.all_eq_true] at h ⊢
      exact fun x hx => pd_mono (by omega) (h x hx)
    | _ => simp_all [pd]
theorem td_mono : ∀ {n m : Nat} {d : D}, n ≤ m → td n d = true → td m d = true
  | 0, m, d, _, h => by cases d <;> simp_all [td]
  | n + 1, 0, d, hn, h => by omega
  | n + 1, m + 1, d, hn, h => by
    cases d with
    | tup ds =>
      simp only [td, List.all_eq_true, Bool.and_eq_true] at h ⊢
      exact ⟨h.1, fun x hx => td_mono (by omega) (h.2 x hx)⟩
    | _ => simp_all [td]

theorem Drop.nil {R : Post} {d : D} {S : Sto} (h : R d []) (hd : scD 0 d = true) : Drop [] R d S := .inr ⟨0, Nat.zero_le _, hd, fun i o z => by simp at z, by simpa using h⟩
theorem at_snoc {T : Sto} {o : O} : (T ++ [o])[T.length]? = some o := by simp
theorem at_app {T U : Sto} {k : Nat} {o : O} (h : T[k]? = some o) : (T ++ U)[k]? = some o := by
  rw [List.getElem?_append_left (List.getElem?_eq_some_iff.mp h).1, h]
theorem at_set {T : Sto} {k : Nat} {o u : O} (h : T[k]? = some o) : (T.set k u)[k]? = some u := by
  rw [List.getElem?_set_self (List.getElem?_eq_some_iff.mp h).1]
theorem all_snoc {P : D → Prop} {xs : List D} {y : D} (h : ∀ x ∈ xs, P x) (hy : P y) : ∀ x ∈ xs ++ [y], P x := fun x hx => by
  rcases List.mem_append.mp hx with z | z
  · exact h x z
  · simp at z
    rw [z]
    exact hy
theorem all_app {P : D → Prop} {xs ys : List D} (h : ∀ x ∈ xs, P x) (hy : ∀ x ∈ ys, P x) : ∀ x ∈ xs ++ ys, P x := fun x hx => by
  rcases List.mem_append.mp hx with z | z
  · exact h x z
  · exact hy x z
theorem snoc_ne {xs : List D} {y : D} : xs ++ [y] ≠ [] := by simp
theorem atI_last' {xs : List D} (h : xs ≠ []) : ∃ d, atI xs (-1) = some d ∧ d ∈ xs := by
  refine ⟨xs.getLast h, ?_, List.getLast_mem h⟩
  have := atI_last xs.dropLast (xs.getLast h)
  rwa [List.dropLast_concat_getLast h] at this
theorem s2 {a b : D} : ([a, b] : List D).length ≤ sizeLine := side_line rfl
theorem s3' {a b c : D} : ([a, b, c] : List D).length ≤ sizeLine := side_line rfl

/-- a word as data -/
abbrev wd (ws : List Int) : D := .tup (ws.map D.int)
/-- letters: not 0, at most p -/
def Lets (p : Int) (ws : List Int) : Prop := ∀ x ∈ ws, x ≠ 0 ∧ -p ≤ x ∧ x ≤ p
theorem Lets.nil {p : Int} : Lets p [] := fun x hx => nomatch hx
theorem Lets.snoc {p : Int} {ws : List Int} {y : Int} (h : Lets p ws) (hy : y ≠ 0 ∧ -p ≤ y ∧ y ≤ p) : Lets p (ws ++ [y]) := fun x hx => by
  rcases List.mem_append.mp hx with z | z
  · exact h x z
  · simp at z
    rw [z]
    exact hy
theorem Lets.app {p : Int} {ws us : List Int} (h : Lets p ws) (h' : Lets p us) : Lets p (ws ++ us) := fun x hx => by
  rcases List.mem_append.mp hx with z | z
  · exact h x z
  · exact h' x z
theorem Lets.sub {p : Int} {ws us : List Int} (h : Lets p ws) (s : ∀ x ∈ us, x ∈ ws) : Lets p us := fun x hx => h x (s x hx)
theorem Lets.mono {p q : Int} {ws : List Int} (h : Lets p ws) (hq : p ≤ q) : Lets q ws := fun x hx => by
  have := h x hx
  omega
theorem td_wd {n : Nat} {ws : List Int} (h : ws.length ≤ 1000000) : td (n + 1) (wd ws) = true := by
  simp only [wd, td, List.length_map, h, decide_true, Bool.true_and, List.all_map, List.all_eq_true]
  exact fun x _ => td_int n x
theorem wd_line {ws : List Int} (h : ws.length ≤ 1000000) : (ws.map D.int).length ≤ sizeLine := by
  rw [List.length_map, sizeLine_eq]
  omega
theorem cutD_map {α β : Type} (f : α → β) (xs : List α) (lo hi : Option Int) : cutD (xs.map f) lo hi = (cutD xs lo hi).map f := by
  unfold cutD
  rw [List.length_map, List.map_take, List.map_drop]
theorem atI_map {α β : Type} {f : α → β} {xs : List α} {i : Int} {x : α} (h : atI xs i = some x) : atI (xs.map f) i = some (f x) := by
  unfold atI at h ⊢
  rw [List.length_map]
  cases e : ixN xs.length i with
  | none => rw [e] at h; cases h
  | some k =>
    rw [e] at h
    have h : xs[k]? = some x := h
    show (xs.map f)[k]? = _
    rw [List.getElem?_map, h]
    rfl
theorem scDs_ints {n : Nat} : ∀ ws : List Int, scDs n (ws.map D.int) = true
  | [] => rfl
  | w :: ws => by
    show (true && scDs n (ws.map D.int)) = true
    rw [scDs_ints ws]
    rfl
theorem scD_wd {n : Nat} {ws : List Int} : scD n (wd ws) = true := scDs_ints ws

/-! words, freely reduced: the stack (last letter first) -/
def pu : List Int → Int → List Int
  | y :: t, x => if y = -x then t else x :: y :: t
  | [], x => [x]
def stk (w : List Int) : List Int := w.foldl pu []
def red (w : List Int) : List Int := (stk w).reverse
def inv (w : List Int) : List Int := w.reverse.map fun x => -x
/-- no letter beside its opposite -/
def Rd (l : List Int) : Prop := ∀ (a b : List Int) (x y : Int), l = a ++ x :: y :: b → y ≠ -x
theorem Rd.nil : Rd [] := fun a b x y h => by simp at h
theorem Rd.right {l s : List Int} (h : Rd (l ++ s)) : Rd s := fun a b x y e => h (l ++ a) b x y (by rw [e]; simp)
theorem Rd.tail {x : Int} {s : List Int} (h : Rd (x :: s)) : Rd s := Rd.right (l := [x]) h
theorem Rd.cons {x : Int} {s : List Int} (h : Rd s) (hx : ∀ y t, s = y :: t → y ≠ -x) : Rd (x :: s) := fun a b u v e => by
  cases a with
  | nil =>
    simp at e
    obtain ⟨rfl, rfl⟩ := e
    exact hx _ _ rfl
  | cons c a =>
    simp at e
    exact h a b u v e.2
theorem pu_cons (y : Int) (t : List Int) (x : Int) : pu (y :: t) x = if y = -x then t else x :: y :: t := rfl
theorem Rd.push {s : List Int} {x : Int} (h : Rd s) : Rd (pu s x) := by
  cases s with
  | nil => exact Rd.cons h fun y t e => by simp at e
  | cons y t =>
    rw [pu_cons]
    by_cases n : y = -x
    · rw [if_pos n]
      exact h.tail
    · rw [if_neg n]
      exact h.cons fun z u e => by simp at e; rw [← e.1]; exact n
theorem pu_pu {s : List Int} {x : Int} (h : Rd s) : pu (pu s x) (-x) = s := by
  cases s with
  | nil => simp [pu]
  | cons y t =>
    rw [pu_cons]
    by_cases e : y = -x
    · rw [if_pos e, e]
      cases t with
      | nil => rfl
      | cons z u =>
        have : z ≠ -y := h [] u _ _ rfl
        rw [pu_cons, if_neg (by omega)]
    · rw [if_neg e, pu_cons, if_pos (by omega)]
theorem Rd.fold {s : List Int} (w : List Int) (h : Rd s) : Rd (w.foldl pu s) := by
  induction w generalizing s with
  | nil => exact h
  | cons x w ih => exact ih h.push
theorem stk_rd (w : List Int) : Rd (stk w) := Rd.nil.fold w
theorem stk_snoc (w : List Int) (x : Int) : stk (w ++ [x]) = pu (stk w) x := by
  unfold stk
  rw [List.foldl_append]
  rfl
theorem snoc_ind {P : List Int → Prop} (h0 : P []) (h1 : ∀ w x, P w → P (w ++ [x])) (w : List Int) : P w := by
  have : ∀ (n : Nat) (w : List Int), w.length = n → P w := by
    intro n
    induction n with
    | zero => intro w h; rw [List.length_eq_zero_iff.mp h]; exact h0
    | succ n ih =>
      intro w h
      have hne : w ≠ [] := fun e => by rw [e] at h; simp at h
      rw [← List.dropLast_concat_getLast hne]
      exact h1 _ _ (ih _ (by rw [List.length_dropLast]; omega))
  exact this _ w rfl
/-- the reduced word moves every reduced stack as the word does -/
theorem fold_red (w : List Int) {s : List Int} (hs : Rd s) : (red w).foldl pu s = w.foldl pu s := by
  induction w using snoc_ind with
  | h0 => rfl
  | h1 w x ih =>
    have hw := stk_rd w
    unfold red at ih ⊢
    rw [stk_snoc, List.foldl_append, ← ih]
    have hfr : Rd ((stk w).reverse.foldl pu s) := hs.fold _
    generalize stk w = k at hw hfr
    cases k with
    | nil => rfl
    | cons y t =>
      have e0 : (y :: t).reverse.foldl pu s = pu (t.reverse.foldl pu s) y := by simp
      rw [pu_cons]
      by_cases e : y = -x
      · rw [if_pos e, e0]
        have : x = -y := by omega
        rw [this]
        show _ = pu (pu (t.reverse.foldl pu s) y) (-y)
        rw [pu_pu (hs.fold _)]
      · rw [if_neg e, List.reverse_cons, List.foldl_append]
theorem stk_app (a b : List Int) : stk (a ++ b) = b.foldl pu (stk a) := by
  unfold stk
  rw [List.foldl_append]
theorem red_red (w : List Int) : red (red w) = red w := by
  show (stk (red w)).reverse = (stk w).reverse
  unfold stk
  rw [fold_red w Rd.nil]
theorem red_left (a b : List Int) : red (red a ++ b) = red (a ++ b) := by
  show (stk _).reverse = (stk _).reverse
  rw [stk_app, stk_app]
  unfold stk
  rw [fold_red a Rd.nil]
theorem red_right (a b : List Int) : red (a ++ red b) = red (a ++ b) := by
  show (stk _).reverse = (stk _).reverse
  rw [stk_app, stk_app, fold_red b (stk_rd a)]
theorem fold_inv (w : List Int) {s : List Int} (h : Rd s) : (inv w).foldl pu (w.foldl pu s) = s := by
  induction w generalizing s with
  | nil => rfl
  | cons x w ih =>
    have e : inv (x :: w) = inv w ++ [-x] := by simp [inv]
    rw [e, List.foldl_append]
    show pu ((inv w).foldl pu (w.foldl pu (pu s x))) (-x) = s
    rw [ih h.push]
    exact pu_pu h
theorem inv_inv (w : List Int) : inv (inv w) = w := by
  unfold inv
  rw [← List.map_reverse, List.reverse_reverse, List.map_map]
  exact (List.map_congr_left fun x _ => Int.neg_neg x).trans (List.map_id _)
theorem red_inv_right (w : List Int) : red (w ++ inv w) = [] := by
  show (stk _).reverse = _
  rw [stk_app]
  unfold stk
  rw [fold_inv w Rd.nil]
  rfl
theorem red_inv_left (w : List Int) : red (inv w ++ w) = [] := by
  have := red_inv_right (inv w)
  rwa [inv_inv] at this
theorem fold_rd (l : List Int) : ∀ {s : List Int}, Rd (l.reverse ++ s) → l.foldl pu s = l.reverse ++ s := by
  induction l with
  | nil => intro s _; rfl
  | cons x l ih =>
    intro s h
    have h' : Rd (l.reverse ++ x :: s) := by simpa using h
    have e : pu s x = x :: s := by
      cases s with
      | nil => rfl
      | cons y t =>
        have := h'.right [] t x y rfl
        rw [pu_cons, if_neg this]
    rw [List.foldl_cons, e, ih h']
    simp
theorem rd_rev {l : List Int} (h : Rd l) : Rd l.reverse := fun a b x y e => by
  have e2 : l = b.reverse ++ y :: x :: a.reverse := by
    rw [← List.reverse_reverse l, e]
    simp
  have := h _ _ _ _ e2
  omega
theorem rd_neg {l : List Int} (h : Rd l) : Rd (l.map fun x => -x) := fun a b x y e => by
  have e2 : l = a.map (fun x => -x) ++ (-x) :: (-y) :: b.map (fun x => -x) := by
    have : (l.map fun x => -x).map (fun x => -x) = l := by
      rw [List.map_map]
      exact (List.map_congr_left fun x _ => Int.neg_neg x).trans (List.map_id _)
    rw [← this, e]
    simp
  have := h _ _ _ _ e2
  omega
theorem red_rd (w : List Int) : Rd (red w) := rd_rev (stk_rd w)
theorem rd_inv {l : List Int} (h : Rd l) : Rd (inv l) := rd_neg (rd_rev h)
theorem red_of_rd {l : List Int} (h : Rd l) : red l = l := by
  show (stk l).reverse = l
  unfold stk
  rw [fold_rd l (s := []) (by simpa using rd_rev h)]
  simp
theorem red_inv (w : List Int) : red (inv w) = inv (red w) := by
  have h1 : w.foldl pu (stk (inv w)) = [] := by
    have := red_inv_left w
    have e : (stk (inv w ++ w)).reverse = [] := this
    rw [stk_app] at e
    simpa using e
  rw [← fold_red w (stk_rd _)] at h1
  have h2 := fold_inv (red w) (stk_rd (inv w))
  rw [h1] at h2
  have h3 : stk (inv (red w)) = stk (inv w) := h2
  show (stk (inv w)).reverse = _
  rw [← h3]
  exact red_of_rd (rd_inv (red_rd w))
theorem len_pu (s : List Int) (x : Int) : (pu s x).length ≤ s.length + 1 := by
  cases s with
  | nil => simp [pu]
  | cons y t =>
    rw [pu_cons]
    split <;> simp <;> omega
theorem len_stk (w : List Int) : (stk w).length ≤ w.length := by
  induction w using snoc_ind with
  | h0 => exact Nat.zero_le _
  | h1 w x ih =>
    rw [stk_snoc, List.length_append, List.length_singleton]
    have := len_pu (stk w) x
    omega
theorem len_red (w : List Int) : (red w).length ≤ w.length := by
  unfold red
  rw [List.length_reverse]
  exact len_stk w
theorem len_inv (w : List Int) : (inv w).length = w.length := by simp [inv]
theorem stk_take {w : List Int} {i : Nat} {x : Int} (h : w[i]? = some x) : stk (w.take (i + 1)) = pu (stk (w.take i)) x := by
  rw [List.take_add_one, h]
  exact stk_snoc _ _
theorem len_stk_take (w : List Int) (i : Nat) : (stk (w.take i)).length ≤ w.length := Nat.le_trans (len_stk _) (by rw [List.length_take]; omega)
theorem cutD_init {α : Type} (l : List α) (y : α) : cutD (l ++ [y]) none (some (-1)) = l := by
  unfold cutD HT.sIx
  simp
  have : ((-1 : Int) + (l.length + 1)).toNat = l.length := by omega
  rw [this]
  simp
theorem set_snoc {T : Sto} {o u : O} : (T ++ [o]).set T.length u = T ++ [u] := by simp
theorem map_int_get {ws : List Int} {i : Nat} {d : D} (h : (ws.map D.int)[i]? = some d) : ∃ x, ws[i]? = some x ∧ d = .int x := by
  rw [List.getElem?_map] at h
  cases e : ws[i]? with
  | none => rw [e] at h; simp at h
  | some x => rw [e] at h; simp at h; exact ⟨x, rfl, h.symm⟩
theorem rev_cons_int (y : Int) (t : List Int) : (y :: t).reverse.map D.int = t.reverse.map D.int ++ [D.int y] := by simp
/-- a stack as a row of the program -/
abbrev rowD (t : List Int) : List D := t.reverse.map D.int

/-! the ends that meet, the core -/
def meet (r : List Int) (n : Nat) : Bool := decide (1 + 2 * n < r.length) && (r.getD n 0 == -(r.getD (r.length - 1 - n) 0))
def stepC (r : List Int) (n : Nat) : Nat := if meet r n = true then n + 1 else n
def cutI (r : List Int) : Nat → Nat
  | 0 => 0
  | i + 1 => stepC r (cutI r i)
def cutN (r : List Int) : Nat := cutI r r.length
def mid (r : List Int) (n : Nat) : List Int := (r.drop n).take (r.length - 2 * n)
theorem meet_lt {r : List Int} {n : Nat} (h : meet r n = true) : 1 + 2 * n < r.length := by
  unfold meet at h
  rw [Bool.and_eq_true] at h
  exact of_decide_eq_true h.1
theorem cutI_two (r : List Int) : ∀ i, 2 * cutI r i ≤ r.length
  | 0 => Nat.zero_le _
  | i + 1 => by
    have := cutI_two r i
    unfold cutI stepC
    split
    · rename_i h
      have := meet_lt h
      omega
    · exact this
theorem cutI_le (r : List Int) : ∀ i, cutI r i ≤ i
  | 0 => Nat.le_refl _
  | i + 1 => by
    have := cutI_le r i
    unfold cutI stepC
    split <;> omega
theorem cutI_or (r : List Int) : ∀ i, cutI r i = i ∨ meet r (cutI r i) = false
  | 0 => .inl rfl
  | i + 1 => by
    have e : cutI r (i + 1) = stepC r (cutI r i) := rfl
    by_cases h : meet r (cutI r i) = true
    · have e2 : cutI r (i + 1) = cutI r i + 1 := by rw [e, stepC, if_pos h]
      rcases cutI_or r i with q | q
      · exact .inl (by omega)
      · rw [h] at q; cases q
    · have e2 : cutI r (i + 1) = cutI r i := by rw [e, stepC, if_neg h]
      rw [e2]
      exact .inr (by simpa using h)
theorem cutI_all (r : List Int) : ∀ i m, m < cutI r i → meet r m = true
  | 0, m, h => by simp [cutI] at h
  | i + 1, m, h => by
    unfold cutI stepC at h
    split at h
    · rename_i q
      by_cases e : m = cutI r i
      · rw [e]; exact q
      · exact cutI_all r i m (by omega)
    · exact cutI_all r i m h
theorem cutN_two (r : List Int) : 2 * cutN r ≤ r.length := cutI_two r _
theorem cutN_not (r : List Int) : meet r (cutN r) = false := by
  rcases cutI_or r r.length with q | q
  · have := cutI_two r r.length
    cases h : meet r (cutN r) with
    | false => rfl
    | true =>
      have a := meet_lt h
      unfold cutN at a
      omega
  · exact q
theorem cutI_stop {r : List Int} {i : Nat} (h : meet r (cutI r i) = false) : ∀ j, i ≤ j → cutI r j = cutI r i := by
  intro j hj
  induction j with
  | zero =>
    have : i = 0 := by omega
    rw [this]
  | succ j ih =>
    by_cases e : i = j + 1
    · rw [e]
    · have q := ih (by omega)
      show stepC r (cutI r j) = _
      rw [q, stepC, if_neg (by rw [h]; decide)]
theorem mid_zero (r : List Int) : mid r 0 = r := by simp [mid]
theorem mid_len {r : List Int} {n : Nat} (h : 2 * n ≤ r.length) : (mid r n).length = r.length - 2 * n := by
  unfold mid
  rw [List.length_take, List.length_drop]
  omega
theorem getD_get {r : List Int} {n : Nat} (h : n < r.length) : r.getD n 0 = r[n] := by
  rw [List.getD_eq_getElem?_getD, List.getElem?_eq_getElem h]
  rfl
theorem mid_step {r : List Int} {n : Nat} (h : 1 + 2 * n < r.length) : mid r n = r.getD n 0 :: (mid r (n + 1) ++ [r.getD (r.length - 1 - n) 0]) := by
  have e1 : r.drop n = r[n] :: r.drop (n + 1) := List.drop_eq_getElem_cons (by omega)
  have e2 : r.length - 2 * n = (r.length - 2 * (n + 1) + 1) + 1 := by omega
  unfold mid
  rw [e1, e2, List.take_succ_cons, getD_get (by omega)]
  congr 1
  rw [List.take_add_one]
  congr 1
  rw [List.getElem?_drop, show n + 1 + (r.length - 2 * (n + 1)) = r.length - 1 - n by omega, List.getElem?_eq_getElem (by omega), getD_get (by omega)]
  rfl
theorem inv_snoc (w : List Int) (x : Int) : inv (w ++ [x]) = -x :: inv w := by simp [inv]
theorem inv_app (a b : List Int) : inv (a ++ b) = inv b ++ inv a := by simp [inv]
theorem parts_of {r : List Int} : ∀ n, 2 * n ≤ r.length → (∀ m, m < n → meet r m = true) → r = r.take n ++ mid r n ++ inv (r.take n)
  | 0, _, _ => by rw [mid_zero]; simp [inv]
  | n + 1, h, hm => by
    have ih := parts_of n (by omega) (fun m h => hm m (by omega))
    have q := hm n (by omega)
    have hl := meet_lt q
    have e1 : r.take (n + 1) = r.take n ++ [r.getD n 0] := by
      rw [List.take_add_one, List.getElem?_eq_getElem (by omega), getD_get (by omega)]
      rfl
    have e2 : r.getD (r.length - 1 - n) 0 = -(r.getD n 0) := by
      unfold meet at q
      rw [Bool.and_eq_true] at q
      have := eq_of_beq q.2
      omega
    rw [mid_step hl, e2] at ih
    rw [e1, inv_snoc]
    exact ih.trans (by simp)
def tip (w : List Int) : List Int := (red w).take (cutN (red w))
def core (w : List Int) : List Int := mid (red w) (cutN (red w))
theorem parts (w : List Int) : red w = tip w ++ core w ++ inv (tip w) := parts_of _ (cutN_two _) (fun m h => cutI_all _ _ m h)
theorem len_core (w : List Int) : (core w).length ≤ w.length := by
  have a := mid_len (cutN_two (red w))
  have b := len_red w
  unfold core
  omega
theorem len_tip (w : List Int) : (tip w).length ≤ w.length := by
  have b := len_red w
  unfold tip
  rw [List.length_take]
  omega
/-! rotations -/
def IsRot (a b : List Int) : Prop := ∃ u v, a = u ++ v ∧ b = v ++ u
theorem IsRot.refl (a : List Int) : IsRot a a := ⟨[], a, rfl, by simp⟩
theorem IsRot.symm {a b : List Int} (h : IsRot a b) : IsRot b a := let ⟨u, v, h1, h2⟩ := h; ⟨v, u, h2, h1⟩
theorem IsRot.trans {a b c : List Int} (h : IsRot a b) (h' : IsRot b c) : IsRot a c := by
  obtain ⟨u, v, rfl, rfl⟩ := h
  obtain ⟨p, q, e, rfl⟩ := h'
  rcases List.append_eq_append_iff.mp e with ⟨m, e1, e2⟩ | ⟨m, e1, e2⟩
  · exact ⟨m, q ++ v, by rw [e2]; simp, by rw [e1]; simp⟩
  · exact ⟨u ++ p, m, by rw [e1]; simp, by rw [e2]; simp⟩
theorem IsRot.len {a b : List Int} (h : IsRot a b) : a.length = b.length := by
  obtain ⟨u, v, rfl, rfl⟩ := h
  simp [Nat.add_comm]
def rot (c : List Int) (k : Nat) : List Int := c.drop k ++ c.take k
theorem rot_is (c : List Int) (k : Nat) : IsRot c (rot c k) := ⟨c.take k, c.drop k, (List.take_append_drop k c).symm, rfl⟩
theorem is_rot {c b : List Int} (h : IsRot c b) : ∃ k, k ≤ c.length ∧ b = rot c k := by
  obtain ⟨u, v, rfl, rfl⟩ := h
  exact ⟨u.length, by simp, by simp [rot]⟩
theorem rot_full (c : List Int) : rot c c.length = rot c 0 := by simp [rot]
theorem is_rot_lt {c b : List Int} (h : IsRot c b) (hc : c ≠ []) : ∃ k, k < c.length ∧ b = rot c k := by
  obtain ⟨k, hk, rfl⟩ := is_rot h
  have := List.length_pos_iff.mpr hc
  by_cases e : k = c.length
  · exact ⟨0, this, by rw [e, rot_full]⟩
  · exact ⟨k, by omega, rfl⟩
/-! the order of rows of one length -/
def kL : List Int → List Int → Bool
  | x :: xs, y :: ys => if x = y then kL xs ys else decide (x < y)
  | _, _ => false
theorem kL_trans : ∀ {a b c : List Int}, a.length = b.length → b.length = c.length → kL a b = true → kL b c = true → kL a c = true
  | [], [], [], _, _, h, _ => by simp [kL] at h
  | x :: a, y :: b, z :: c, h1, h2, h3, h4 => by
    rw [kL] at h3 h4 ⊢
    by_cases e1 : x = y
    · rw [if_pos e1] at h3
      by_cases e2 : y = z
      · rw [if_pos e2] at h4
        rw [if_pos (by omega)]
        exact kL_trans (by simpa using h1) (by simpa using h2) h3 h4
      · rw [if_neg e2] at h4
        rw [if_neg (by omega), e1]
        exact h4
    · rw [if_neg e1] at h3
      have h3 := of_decide_eq_true h3
      by_cases e2 : y = z
      · rw [if_neg (by omega)]
        exact decide_eq_true (by omega)
      · rw [if_neg e2] at h4
        have h4 := of_decide_eq_true h4
        rw [if_neg (by omega)]
        exact decide_eq_true (by omega)
theorem kL_tri : ∀ {a b : List Int}, a.length = b.length → kL a b = false → kL b a = false → a = b
  | [], [], _, _, _ => rfl
  | x :: a, y :: b, h, h1, h2 => by
    rw [kL] at h1 h2
    by_cases e : x = y
    · rw [if_pos e] at h1
      rw [if_pos e.symm] at h2
      rw [e, kL_tri (by simpa using h) h1 h2]
    · rw [if_neg e] at h1
      rw [if_neg (fun q => e q.symm)] at h2
      have h1 := of_decide_eq_false h1
      have h2 := of_decide_eq_false h2
      omega
theorem kL_irr : ∀ {a : List Int}, kL a a = false
  | [] => rfl
  | x :: a => by rw [kL, if_pos rfl]; exact kL_irr
/-- b is the least rotation of c, by ranks f -/
def Least (f : Int → Int) (c b : List Int) : Prop := IsRot c b ∧ ∀ d, IsRot c d → kL (d.map f) (b.map f) = false
theorem Least.same {f : Int → Int} (hf : ∀ x y, f x = f y → x = y) {c c' b b' : List Int} (h : Least f c b) (h' : Least f c' b') (r : IsRot c c') : b = b' := by
  have e1 := h.2 b' (r.trans h'.1)
  have e2 := h'.2 b (r.symm.trans h.1)
  have hl : b.length = b'.length := by rw [← h.1.len, ← h'.1.len, r.len]
  have e := kL_tri (by simpa using hl) e2 e1
  exact (List.map_inj_right (fun x y q => hf x y q)).mp e
theorem Least.rot {f : Int → Int} {c c' b : List Int} (h : Least f c b) (h' : Least f c' b) : IsRot c c' := h.1.trans h'.1.symm
/-! words that move stacks alike -/
def Acts (a b : List Int) : Prop := ∀ s, Rd s → a.foldl pu s = b.foldl pu s
theorem Acts.red_eq {a b : List Int} (h : Acts a b) : red a = red b := by
  show (stk a).reverse = (stk b).reverse
  unfold stk
  rw [h [] Rd.nil]
theorem Acts.refl (a : List Int) : Acts a a := fun _ _ => rfl
theorem Acts.symm {a b : List Int} (h : Acts a b) : Acts b a := fun s hs => (h s hs).symm
theorem Acts.trans {a b c : List Int} (h : Acts a b) (h' : Acts b c) : Acts a c := fun s hs => (h s hs).trans (h' s hs)
theorem Acts.app {a b c d : List Int} (h : Acts a b) (h' : Acts c d) : Acts (a ++ c) (b ++ d) := fun s hs => by
  rw [List.foldl_append, List.foldl_append, h s hs]
  exact h' _ (hs.fold b)
theorem Acts.red (a : List Int) : Acts (red a) a := fun s hs => fold_red a hs
theorem Acts.inv_right (a : List Int) : Acts (a ++ inv a) [] := fun s hs => by
  rw [List.foldl_append, fold_inv a hs]
  rfl
theorem Acts.inv_left (a : List Int) : Acts (inv a ++ a) [] := by
  have := Acts.inv_right (inv a)
  rwa [inv_inv] at this
theorem Acts.inv {a b : List Int} (h : Acts a b) : Acts (inv a) (inv b) := by
  have h1 : Acts (MP.inv a ++ (b ++ MP.inv b)) (MP.inv a ++ []) := (Acts.refl _).app (Acts.inv_right b)
  have h2 : Acts (MP.inv a ++ a ++ MP.inv b) (MP.inv a ++ b ++ MP.inv b) := ((Acts.refl _).app h).app (Acts.refl _)
  have h3 : Acts (MP.inv a ++ a ++ MP.inv b) ([] ++ MP.inv b) := (Acts.inv_left a).app (Acts.refl _)
  rw [List.append_nil, ← List.append_assoc] at h1
  exact (h1.symm.trans h2.symm).trans h3
theorem Acts.drop_mid (a b c : List Int) : Acts (a ++ (MP.inv b ++ b) ++ c) (a ++ c) := by
  have := ((Acts.refl a).app (Acts.inv_left b)).app (Acts.refl c)
  rwa [List.append_nil] at this
theorem Acts.drop_mid' (a b c : List Int) : Acts (a ++ (b ++ MP.inv b) ++ c) (a ++ c) := by
  have := ((Acts.refl a).app (Acts.inv_right b)).app (Acts.refl c)
  rwa [List.append_nil] at this
/-- the word that carries one core's rotation to the other -/
theorem carry {w1 w2 e1 e2 u v : List Int} (h1 : Acts w1 (e1 ++ (u ++ v) ++ inv e1)) (h2 : Acts w2 (e2 ++ (v ++ u) ++ inv e2)) :
    Acts (e2 ++ (inv u ++ inv e1) ++ w1 ++ inv (e2 ++ (inv u ++ inv e1))) w2 := by
  have a1 : Acts (e2 ++ (inv u ++ inv e1) ++ w1 ++ inv (e2 ++ (inv u ++ inv e1))) (e2 ++ (inv u ++ inv e1) ++ (e1 ++ (u ++ v) ++ inv e1) ++ inv (e2 ++ (inv u ++ inv e1))) := ((Acts.refl _).app h1).app (Acts.refl _)
  have e0 : inv (e2 ++ (inv u ++ inv e1)) = e1 ++ u ++ inv e2 := by rw [inv_app, inv_app, inv_inv, inv_inv]
  rw [e0] at a1 ⊢
  have e3 : e2 ++ (inv u ++ inv e1) ++ (e1 ++ (u ++ v) ++ inv e1) ++ (e1 ++ u ++ inv e2) = (e2 ++ inv u) ++ (inv e1 ++ e1) ++ (u ++ v ++ inv e1 ++ (e1 ++ u ++ inv e2)) := by simp
  have e4 : (e2 ++ inv u) ++ (u ++ v ++ inv e1 ++ (e1 ++ u ++ inv e2)) = e2 ++ (inv u ++ u) ++ (v ++ inv e1 ++ (e1 ++ u ++ inv e2)) := by simp
  have e5 : e2 ++ (v ++ inv e1 ++ (e1 ++ u ++ inv e2)) = (e2 ++ v) ++ (inv e1 ++ e1) ++ (u ++ inv e2) := by simp
  have e6 : (e2 ++ v) ++ (u ++ inv e2) = e2 ++ (v ++ u) ++ inv e2 := by simp
  have a2 := Acts.drop_mid (e2 ++ inv u) e1 (u ++ v ++ inv e1 ++ (e1 ++ u ++ inv e2))
  rw [← e3, e4] at a2
  have a3 := Acts.drop_mid e2 u (v ++ inv e1 ++ (e1 ++ u ++ inv e2))
  rw [e5] at a3
  have a4 := Acts.drop_mid (e2 ++ v) e1 (u ++ inv e2)
  rw [e6] at a4
  exact (((a1.trans a2).trans a3).trans a4).trans h2.symm
/-! cuts and keys -/
theorem cut_take {α : Type} {xs : List α} {n : Nat} (h : n ≤ xs.length) : cutD xs none (some (n : Int)) = xs.take n := by
  unfold cutD
  rw [HT.sIx_nat, HT.sIx_none, Nat.min_eq_left h]
  simp
theorem cut_drop {α : Type} {xs : List α} {n : Nat} (h : n ≤ xs.length) : cutD xs (some (n : Int)) none = xs.drop n := by
  unfold cutD
  rw [HT.sIx_nat, HT.sIx_none, Nat.min_eq_left h]
  exact List.take_of_length_le (by rw [List.length_drop]; omega)
theorem cut_mid {α : Type} {xs : List α} {n m : Nat} (h : n ≤ m) (hm : m ≤ xs.length) : cutD xs (some (n : Int)) (some (m : Int)) = (xs.drop n).take (m - n) := by
  unfold cutD
  rw [HT.sIx_nat, HT.sIx_nat, Nat.min_eq_left hm, Nat.min_eq_left (by omega)]
theorem cut_ends {α : Type} (a b : α) (m : List α) : cutD (a :: (m ++ [b])) (some 1) (some (-1)) = m := by
  have h := cut_mid (xs := a :: (m ++ [b])) (n := 1) (m := m.length + 1) (by omega) (by simp)
  have e : cutD (a :: (m ++ [b])) (some 1) (some (-1)) = cutD (a :: (m ++ [b])) (some ((1 : Nat) : Int)) (some ((m.length + 1 : Nat) : Int)) := by
    unfold cutD HT.sIx
    simp
    have : ((-1 : Int) + (m.length + 1 + 1)).toNat = m.length + 1 := by omega
    rw [this, if_neg (by omega)]
  rw [e, h]
  simp
theorem at_int {ws : List Int} {i : Nat} {x : Int} (h : ws[i]? = some x) {k : Int} (hk : k = (i : Int)) : atI (ws.map D.int) k = some (.int x) := by
  rw [hk, atI_ofNat (by omega), Int.toNat_natCast, List.getElem?_map, h]
  rfl
theorem deqs_ints : ∀ a b : List Int, deqs (a.map D.int) (b.map D.int) = (a == b)
  | [], [] => rfl
  | [], _ :: _ => rfl
  | _ :: _, [] => rfl
  | x :: a, y :: b => by
    show ((x == y) && deqs (a.map D.int) (b.map D.int)) = _
    rw [deqs_ints a b]
    rfl
theorem deq_wd (a b : List Int) : deq (wd a) (wd b) = (a == b) := deqs_ints a b
theorem pd_wd {n : Nat} {a : List Int} : pd (n + 1) (wd a) = true := by
  simp only [wd, pd, List.all_map, List.all_eq_true]
  intro x _
  cases n <;> rfl
/-- a key: the length, the ranks -/
def keyF (f : Int → Int) (ws : List Int) : D := .tup [.int ws.length, wd (ws.map f)]
def precF (f : Int → Int) (a b : List Int) : Bool := if a.length = b.length then kL (a.map f) (b.map f) else decide (a.length < b.length)
theorem alike_ints : ∀ xs ys : List Int, PySem.W.alikeAll (toPys (xs.map D.int)) (toPys (ys.map D.int)) = true
  | [], _ => rfl
  | _ :: _, [] => rfl
  | x :: xs, y :: ys => by
    show (true && PySem.W.alikeAll (toPys (xs.map D.int)) (toPys (ys.map D.int))) = true
    rw [alike_ints xs ys]
    rfl
theorem lex_ints : ∀ xs ys : List Int, xs.length = ys.length → PyProof.Rows.lexLt PyProof.Rows.itemOrd (PySem.W.keyToksAll (toPys (xs.map D.int)) ++ [.inl 0]) (PySem.W.keyToksAll (toPys (ys.map D.int)) ++ [.inl 0]) = kL xs ys
  | [], [], _ => by decide
  | x :: xs, y :: ys, h => by
    show PyProof.Rows.lexLt PyProof.Rows.itemOrd (.inl 1 :: .inl x :: (PySem.W.keyToksAll (toPys (xs.map D.int)) ++ [.inl 0])) (.inl 1 :: .inl y :: (PySem.W.keyToksAll (toPys (ys.map D.int)) ++ [.inl 0])) = _
    rw [PyProof.Rows.lex_self (O := PyProof.Rows.itemOrd)]
    by_cases e : x = y
    · subst e
      rw [PyProof.Rows.lex_self (O := PyProof.Rows.itemOrd), lex_ints xs ys (by simpa using h), kL, if_pos rfl]
    · rw [PyProof.Rows.lex_diff (O := PyProof.Rows.itemOrd) (by simpa using e), kL, if_neg e]
      rfl
theorem lt_keys (f : Int → Int) (a b : List Int) : ltD (keyF f a) (keyF f b) = precF f a b := by
  show PyProof.Rows.lexLt PyProof.Rows.itemOrd (.inl 1 :: .inl (a.length : Int) :: .inl 1 :: (PySem.W.keyToksAll (toPys ((a.map f).map D.int)) ++ [.inl 0])) (.inl 1 :: .inl (b.length : Int) :: .inl 1 :: (PySem.W.keyToksAll (toPys ((b.map f).map D.int)) ++ [.inl 0])) = _
  rw [PyProof.Rows.lex_self (O := PyProof.Rows.itemOrd), precF]
  by_cases e : a.length = b.length
  · rw [e, PyProof.Rows.lex_self (O := PyProof.Rows.itemOrd), PyProof.Rows.lex_self (O := PyProof.Rows.itemOrd), lex_ints _ _ (by simpa using e), if_pos rfl]
  · rw [PyProof.Rows.lex_diff (O := PyProof.Rows.itemOrd) (by simp; omega), if_neg e]
    show decide ((a.length : Int) < b.length) = _
    congr 1
    simp
theorem pd_key {f : Int → Int} {a : List Int} : pd 60 (keyF f a) = true := by
  simp [keyF, wd, pd]
theorem like_keys (f : Int → Int) (a b : List Int) : likeD (keyF f a) (keyF f b) = true := by
  show (true && (PySem.W.alikeAll (toPys ((a.map f).map D.int)) (toPys ((b.map f).map D.int)) && true)) = true
  rw [alike_ints]
  rfl
theorem meet_yes {r : List Int} {n : Nat} {a b : Int} (h : 1 + 2 * n < r.length) (ha : r[n]? = some a) (hb : r[r.length - 1 - n]? = some b) (e : a = -b) : meet r n = true := by
  unfold meet
  rw [List.getD_eq_getElem?_getD, List.getD_eq_getElem?_getD, ha, hb, decide_eq_true h]
  simp [e]
theorem meet_no {r : List Int} {n : Nat} {a b : Int} (ha : r[n]? = some a) (hb : r[r.length - 1 - n]? = some b) (e : a ≠ -b) : meet r n = false := by
  unfold meet
  rw [List.getD_eq_getElem?_getD, List.getD_eq_getElem?_getD, ha, hb]
  simp [e]
theorem meet_end {r : List Int} {n : Nat} (h : ¬ 1 + 2 * n < r.length) : meet r n = false := by
  unfold meet
  rw [decide_eq_false h]
  rfl

/-! ### append_letter -/
abbrev s_append_letter : Stmt := top 1
theorem sc_append_letter : FnScope ["row", "letter"] ["row", "letter"] (defScope s_append_letter) := ⟨rfl, rfl, rfl, by decide +kernel, rfl, by decide +kernel, by decide +kernel⟩
theorem b_append_letter : BindP "append_letter" s_append_letter ["row", "letter"] := fun _ _ _ _ _ _ us hl => match us, hl with | [_, _], _ => rfl
def m_append_letter : MS := (mIfS (mAndT (mTru (mVar 0)) (mTB (m2 oEq (m2 oIx (mVar 0) (m1 oNeg (mC (.int 1)))) (m1 oNeg (mVar 1))))) (mExpr (mMeth0 lPop (mVar 0))) (mExpr (mMeth lAppend (mVar 0) (mCons (mVar 1) mNil))))
def sp_append_letter : SpD := fun _ ds S R => ∃ (n : Nat) (t : List Int) (x : Int), ds = [.ref n, .int x] ∧ S[n]? = some (.lst (rowD t)) ∧ t.length < 1000000 ∧ R .non (S.set n (.lst (rowD (pu t x))))
theorem len_append_letter : ∀ W ds T R, sp_append_letter W ds T R → ds.length = 2 := by
  rintro W ds T R ⟨_, _, _, rfl, _⟩
  rfl
theorem law_append_letter : ∀ W ds T R, sp_append_letter W ds T R → m_append_letter W { nx := fun _ T' => Drop T R .non T', rt := Drop T R } (startD ["row", "letter"] ds) T := by
  rintro W ds T R ⟨n, t, x, rfl, hn, hl, h⟩
  have hll : (rowD t).length < sizeLine := by
    rw [List.length_map, List.length_reverse, sizeLine_eq]
    omega
  refine ⟨_, hn, ?_⟩
  cases t with
  | nil => exact br_f (br_f ⟨⟨_, hn⟩, _, hn, hll, .keep h⟩)
  | cons y t =>
    have e0 : rowD (y :: t) = rowD t ++ [D.int y] := rev_cons_int y t
    have e9 : (rowD (y :: t)).isEmpty = false := by rw [e0]; simp
    refine ⟨fun _ => ⟨_, hn, .int y, by rw [e0]; exact atI_last _ _, ?_⟩, fun e => absurd e (by rw [e9]; decide)⟩
    refine ⟨fun e => ?_, fun e => ?_⟩
    · have e : y = -x := of_decide_eq_true e
      rw [pu_cons, if_pos e] at h
      refine ⟨⟨_, hn⟩, _, hn, .int y, by rw [e0]; simp, ?_⟩
      have e1 : (rowD (y :: t)).dropLast = rowD t := by rw [e0]; simp
      rw [e1]
      exact .keep h
    · have e : ¬ y = -x := of_decide_eq_false e
      rw [pu_cons, if_neg e] at h
      refine ⟨⟨_, hn⟩, _, hn, hll, ?_⟩
      rw [show rowD (x :: y :: t) = rowD (y :: t) ++ [D.int x] from rev_cons_int x (y :: t)] at h
      exact .keep h

theorem ok_append_letter {P : Program} {w : World} {K : PySem.W.Frag} {mg : Str → Option Value} {base : Heap}    (a : At K mg "append_letter" s_append_letter) : Df P w K mg base "append_letter" s_append_letter 1 ["row", "letter"] sp_append_letter :=
  df_mk a fun f fd F => fn_ok (m := m_append_letter) F sc_append_letter len_append_letter (fun cdv A outer s H E hr =>
    (jss_one (js_if (jw_pt (jw_and (jt_tru (je_var 0 (pv 0))) (jw_and1 (jt_cmp (op_eqD hr.units) s_eq (je_ix (je_var 0 (pv 0)) (je_un un_neg s_neg je_int) (fun _ _ => rfl)) (je_un un_neg s_neg (je_var 1 (pv 1))) (nomark _))))) (jss_one (js_expr (je_lm0 s_pop (pe_bm0 PySem.F.plainAttrs_list PySem.F.slot_list_pop PySem.F.type_list_pop mt_pop (je_var 0 (pv 0)))))) (jss_one (js_expr (je_lm s_append (pe_bm PySem.F.plainAttrs_list PySem.F.slot_list_append PySem.F.type_list_append mt_append (je_var 0 (pv 0)) (ja_cons (je_var 1 (pv 1)) ja_nil)))))))) law_append_letter
/-! ### reduced -/
abbrev s_reduced : Stmt := top 2
theorem sc_reduced : FnScope ["word", "row", "letter"] ["word"] (defScope s_reduced) := ⟨rfl, rfl, rfl, by decide +kernel, rfl, by decide +kernel, by decide +kernel⟩
theorem b_reduced : BindP "reduced" s_reduced ["word"] := fun _ _ _ _ _ _ us hl => match us, hl with | [_], _ => rfl
def m_reduced : MS := (mSeq (mSet 1 (mN fLst mNil)) (mSeq (mFor (mI1 fSeqI (mVar 0)) (mgName 2) (mExpr (mCall sp_append_letter (mCons (mVar 1) (mCons (mVar 2) mNil))))) (mRet (mN bTuple (mCons (mVar 1) mNil)))))
def sp_reduced : SpD := fun _ ds S R => ∃ w : List Int, ds = [wd w] ∧ w.length ≤ 100000 ∧ R (wd (red w)) S
theorem len_reduced : ∀ W ds T R, sp_reduced W ds T R → ds.length = 1 := by
  rintro W ds T R ⟨_, rfl, _⟩
  rfl
theorem law_reduced : ∀ W ds T R, sp_reduced W ds T R → m_reduced W { nx := fun _ T' => Drop T R .non T', rt := Drop T R } (startD ["word", "row", "letter"] ds) T := by
  rintro W ds T R ⟨w, rfl, hl, h⟩
  refine ⟨side_line rfl, ?_⟩
  refine mLoop_inv (fun i ρ S => S = T ++ [.lst (rowD (stk (w.take i)))] ∧ ∃ a : Option D, ρ = [some (wd w), some (.ref T.length), a]) ?_ ?_ ⟨rfl, _, rfl⟩
  · rintro i d ρ S N hd ⟨rfl, a, rfl⟩ hN
    obtain ⟨x, hx, rfl⟩ := map_int_get hd
    have := len_stk_take w i
    refine ⟨trivial, T.length, _, x, rfl, at_snoc, by omega, hN _ _ ⟨?_, _, rfl⟩⟩
    rw [set_snoc, stk_take hx]
  · rintro ρ S ⟨rfl, a, rfl⟩
    refine ⟨trivial, _, at_snoc, Drop.all ?_ ?_⟩
    · rw [List.length_map, List.take_length]
      exact h
    · exact scD_wd

theorem ok_reduced {P : Program} {w : World} {K : PySem.W.Frag} {mg : Str → Option Value} {base : Heap} (z_tuple : mg "tuple" = none) (D_append_letter : Df P w K mg base "append_letter" s_append_letter 1 ["row", "letter"] sp_append_letter)  (a : At K mg "reduced" s_reduced) : Df P w K mg base "reduced" s_reduced 2 ["word"] sp_reduced :=
  df_mk a fun f fd F => fn_ok (m := m_reduced) F sc_reduced len_reduced (fun cdv A outer s H E hr =>
    (jss_cons (js_set (i := 1) sc_reduced.nd rfl (by first | exact .inl rfl | exact .inr rfl) (je_lst ja_nil))
      (jss_cons (js_for ownE rfl (ji_seq (je_var 0 (pv 0))) (jg_name (pg_name (i := 2) sc_reduced.nd rfl (by first | exact .inl rfl | exact .inr rfl))) (jss_one (js_expr (je_def D_append_letter b_append_letter (hr.mono (by decide)) (by rfl) passE (ja_cons (je_var 1 (pv 1)) (ja_cons (je_var 2 (pv 2)) ja_nil))))))
      (jss_one (js_ret (je_of_cb s_tuple (pe_callTy call_tuple_of (by rfl) z_tuple (by decide +kernel) (ja_cons (je_var 1 (pv 1)) ja_nil)))))))) law_reduced
/-! ### inverse -/
abbrev s_inverse : Stmt := top 3
theorem sc_inverse : FnScope ["word", "letter"] ["word"] (defScope s_inverse) := ⟨rfl, rfl, rfl, by decide +kernel, rfl, by decide +kernel, by decide +kernel⟩
theorem b_inverse : BindP "inverse" s_inverse ["word"] := fun _ _ _ _ _ _ us hl => match us, hl with | [_], _ => rfl
def m_inverse : MS := (mRet (mN fTupNew (mItems [1] (mI1 fRevI (mCall sp_reduced (mCons (mVar 0) mNil))) (mgName 1) mYes (m1 oNeg (mVar 1)))))
def sp_inverse : SpD := fun _ ds S R => ∃ w : List Int, ds = [wd w] ∧ w.length ≤ 100000 ∧ R (wd (inv (red w))) S
theorem len_inverse : ∀ W ds T R, sp_inverse W ds T R → ds.length = 1 := by
  rintro W ds T R ⟨_, rfl, _⟩
  rfl
theorem law_inverse : ∀ W ds T R, sp_inverse W ds T R → m_inverse W { nx := fun _ T' => Drop T R .non T', rt := Drop T R } (startD ["word", "letter"] ds) T := by
  rintro W ds T R ⟨w, rfl, hl, h⟩
  refine ⟨w, rfl, hl, ?_⟩
  have hr := len_red w
  have e0 : ((red w).map D.int).reverse = (red w).reverse.map D.int := by simp
  refine cLoop_inv (fun i acc S => S = T ∧ acc = (((red w).reverse.take i).map fun x => -x).map D.int) ?_ ?_ ⟨rfl, rfl⟩
  · rintro i d acc S N hd ⟨rfl, rfl⟩ hN
    rw [e0] at hd
    obtain ⟨x, hx, rfl⟩ := map_int_get hd
    refine ⟨trivial, br_t ⟨?_, hN _ _ ⟨rfl, ?_⟩⟩⟩
    · rw [List.length_map, List.length_map, List.length_take, List.length_reverse, sizeLine_eq]
      omega
    · rw [List.take_add_one, hx]
      simp
  · rintro acc S ⟨rfl, rfl⟩
    refine ⟨trivial, .keep ?_⟩
    rw [e0, List.length_map, List.take_length]
    exact h

theorem ok_inverse {P : Program} {w : World} {K : PySem.W.Frag} {mg : Str → Option Value} {base : Heap} (z_reversed : mg "reversed" = none) (z_tuple : mg "tuple" = none) (D_reduced : Df P w K mg base "reduced" s_reduced 2 ["word"] sp_reduced)  (a : At K mg "inverse" s_inverse) : Df P w K mg base "inverse" s_inverse 3 ["word"] sp_inverse :=
  df_mk a fun f fd F => fn_ok (m := m_inverse) F sc_inverse len_inverse (fun cdv A outer s H E hr =>
    (jss_one (js_ret (je_tuplc (compT_name (by decide)) (pe_callTy call_tuple_of (by rfl) z_tuple (by decide +kernel) (pa_cons (pe_lc (own := [("letter", 1)]) (g := gName 1) rfl sc_inverse.nd  (ji_rev (RT.pi_revA (by rfl) z_reversed (je_def D_reduced b_reduced (hr.mono (by decide)) (by rfl) passE (ja_cons (je_var 0 (pv 0)) ja_nil)))) (blkOk_by (own := [("letter", 1)]) (N := ["word", "letter"]) (sc := defScope s_inverse) (by decide +kernel)) (fun _ _ _ _ _ => (pg_name (i := 1) sc_inverse.nd rfl (Or.inl rfl))) (fun _ _ _ _ _ => jts_nil) (fun _ _ _ _ _ => (je_un un_neg s_neg (je_var 1 (pv 1))))) pa_nil)))))) law_inverse
/-! ### combined -/
abbrev s_combined : Stmt := top 4
theorem sc_combined : FnScope ["first", "second"] ["first", "second"] (defScope s_combined) := ⟨rfl, rfl, rfl, by decide +kernel, rfl, by decide +kernel, by decide +kernel⟩
theorem b_combined : BindP "combined" s_combined ["first", "second"] := fun _ _ _ _ _ _ us hl => match us, hl with | [_, _], _ => rfl
def m_combined : MS := (mRet (mCall sp_reduced (mCons (m2 oAdd (mVar 0) (mVar 1)) mNil)))
def sp_combined : SpD := fun _ ds S R => ∃ a b : List Int, ds = [wd a, wd b] ∧ (a.length ≤ 50000 ∧ b.length ≤ 50000) ∧ R (wd (red (a ++ b))) S
theorem len_combined : ∀ W ds T R, sp_combined W ds T R → ds.length = 2 := by
  rintro W ds T R ⟨_, _, rfl, _⟩
  rfl
theorem law_combined : ∀ W ds T R, sp_combined W ds T R → m_combined W { nx := fun _ T' => Drop T R .non T', rt := Drop T R } (startD ["first", "second"] ds) T := by
  rintro W ds T R ⟨a, b, rfl, ⟨ha, hb⟩, h⟩
  refine ⟨?_, a ++ b, by simp [wd], by rw [List.length_append]; omega, .keep h⟩
  rw [List.length_map, List.length_map, sizeLine_eq]
  omega

theorem ok_combined {P : Program} {w : World} {K : PySem.W.Frag} {mg : Str → Option Value} {base : Heap}  (D_reduced : Df P w K mg base "reduced" s_reduced 2 ["word"] sp_reduced)  (a : At K mg "combined" s_combined) : Df P w K mg base "combined" s_combined 3 ["first", "second"] sp_combined :=
  df_mk a fun f fd F => fn_ok (m := m_combined) F sc_combined len_combined (fun cdv A outer s H E hr =>
    (jss_one (js_ret (je_def D_reduced b_reduced (hr.mono (by decide)) (by rfl) passE (ja_cons (je_op op_addD s_add (je_var 0 (pv 0)) (je_var 1 (pv 1))) ja_nil))))) law_combined
/-! ### cyclic_parts -/
abbrev s_cyclic_parts : Stmt := top 6
theorem sc_cyclic_parts : FnScope ["word", "row", "cut"] ["word"] (defScope s_cyclic_parts) := ⟨rfl, rfl, rfl, by decide +kernel, rfl, by decide +kernel, by decide +kernel⟩
theorem b_cyclic_parts : BindP "cyclic_parts" s_cyclic_parts ["word"] := fun _ _ _ _ _ _ us hl => match us, hl with | [_], _ => rfl
def m_cyclic_parts : MS := (mSeq (mSet 1 (mCall sp_reduced (mCons (mVar 0) mNil))) (mSeq (mSet 2 (mC (.int 0))) (mSeq (mWhile (mAndT (mTB (m2 oGt (m2 oSub (mN bLen (mCons (mVar 1) mNil)) (m2 oMul (mC (.int 2)) (mVar 2))) (mC (.int 1)))) (mTB (m2 oEq (m2 oIx (mVar 1) (mVar 2)) (m1 oNeg (m2 oIx (mVar 1) (m2 oSub (m2 oSub (mN bLen (mCons (mVar 1) mNil)) (mC (.int 1))) (mVar 2))))))) (mAug 2 (mC (.int 1)) oAddI)) (mRet (mN fTup (mCons (mCut (mVar 1) mNo (mPart (mVar 2))) (mCons (mCut (mVar 1) (mPart (mVar 2)) (mPart (m2 oSub (mN bLen (mCons (mVar 1) mNil)) (mVar 2)))) mNil)))))))
def sp_cyclic_parts : SpD := fun _ ds S R => ∃ w : List Int, ds = [wd w] ∧ w.length ≤ 100000 ∧ R (.tup [wd (tip w), wd (core w)]) S
theorem len_cyclic_parts : ∀ W ds T R, sp_cyclic_parts W ds T R → ds.length = 1 := by
  rintro W ds T R ⟨_, rfl, _⟩
  rfl
theorem law_cyclic_parts : ∀ W ds T R, sp_cyclic_parts W ds T R → m_cyclic_parts W { nx := fun _ T' => Drop T R .non T', rt := Drop T R } (startD ["word", "row", "cut"] ds) T := by
  rintro W ds T R ⟨w, rfl, hl, h⟩
  refine ⟨w, rfl, hl, ?_⟩
  have hr := len_red w
  unfold tip core at h
  generalize red w = r at hr h
  have rlm : (r.map D.int).length = r.length := List.length_map _
  refine mWhile_inv (fun ρ S => S = T ∧ ∃ n : Nat, ρ = [some (wd w), some (wd r), some (.int n)] ∧ n = cutI r n ∧ n ≤ r.length) (fun ρ S => match ρ with | [_, _, some (.int n)] => r.length - n.toNat | _ => 0) ?_ ⟨rfl, 0, rfl, rfl, Nat.zero_le _⟩
  rintro ρ S N ⟨rfl, n, rfl, hn, hnl⟩ hN
  have fin : meet r n = false → sizeLine ≥ 2 ∧ Drop S R (.tup [.tup (cutD (r.map D.int) none (some (n : Int))), .tup (cutD (r.map D.int) (some (n : Int)) (some (((r.map D.int).length : Int) - n)))]) S := fun q => by
    have e : cutN r = n := (cutI_stop (i := n) (by rw [← hn]; exact q) r.length hnl).trans hn.symm
    have h2 := cutN_two r
    rw [e] at h2
    rw [e] at h
    refine ⟨s2 (a := .non) (b := .non), .keep ?_⟩
    have e2 : ((r.map D.int).length : Int) - n = ((r.length - n : Nat) : Int) := by rw [rlm]; omega
    rw [e2, cutD_map, cutD_map, cut_take hnl, cut_mid (by omega) (by omega)]
    have e3 : (r.drop n).take (r.length - n - n) = mid r n := by unfold mid; congr 1; omega
    rw [e3]
    exact h
  refine ⟨mulS (by decide), fun e => ?_, fun e => ?_⟩
  · have e : (1 : Int) < (r.map D.int).length - 2 * n := of_decide_eq_true e
    rw [rlm] at e
    have hlt : 1 + 2 * n < r.length := by omega
    have ha : r[n]? = some r[n] := List.getElem?_eq_getElem (by omega)
    have hb : r[r.length - 1 - n]? = some r[r.length - 1 - n] := List.getElem?_eq_getElem (by omega)
    generalize r[n] = a at ha
    generalize r[r.length - 1 - n] = b at hb
    refine ⟨.int a, at_int ha rfl, .int b, at_int hb (by rw [rlm]; omega), fun e2 => ?_, fun e2 => ?_⟩
    · have e2 : a = -b := of_decide_eq_true e2
      have m := meet_yes hlt ha hb e2
      refine hN _ _ ⟨rfl, n + 1, rfl, ?_, by omega⟩ ?_
      · show n + 1 = stepC r (cutI r n)
        rw [← hn, stepC, if_pos m]
      · show r.length - ((n : Int) + 1).toNat < r.length - (n : Int).toNat
        omega
    · have e2 : ¬ a = -b := of_decide_eq_false e2
      exact fin (meet_no ha hb e2)
  · have e : ¬ (1 : Int) < (r.map D.int).length - 2 * n := of_decide_eq_false e
    rw [rlm] at e
    exact br_f (fin (meet_end (by omega)))

theorem ok_cyclic_parts {P : Program} {w : World} {K : PySem.W.Frag} {mg : Str → Option Value} {base : Heap} (z_len : mg "len" = none) (D_reduced : Df P w K mg base "reduced" s_reduced 2 ["word"] sp_reduced)  (a : At K mg "cyclic_parts" s_cyclic_parts) : Df P w K mg base "cyclic_parts" s_cyclic_parts 3 ["word"] sp_cyclic_parts :=
  df_mk a fun f fd F => fn_ok (m := m_cyclic_parts) F sc_cyclic_parts len_cyclic_parts (fun cdv A outer s H E hr =>
    (jss_cons (js_set (i := 1) sc_cyclic_parts.nd rfl (by first | exact .inl rfl | exact .inr rfl) (je_def D_reduced b_reduced (hr.mono (by decide)) (by rfl) passE (ja_cons (je_var 0 (pv 0)) ja_nil)))
      (jss_cons (js_set (i := 2) sc_cyclic_parts.nd rfl (by first | exact .inl rfl | exact .inr rfl) je_int)
      (jss_cons (js_while ownE (jw_pt (jw_and (jt_cmp op_gt s_gt (je_op op_sub s_sub (je_of_cb s_len (pe_callB call_lenAll (by rfl) z_len (by decide +kernel) (ja_cons (je_var 1 (pv 1)) ja_nil))) (je_op op_mulD s_mul je_int (je_var 2 (pv 2)))) je_int (nomark _)) (jw_and1 (jt_cmp (op_eqD hr.units) s_eq (je_ix (je_var 1 (pv 1)) (je_var 2 (pv 2)) (fun _ _ => rfl)) (je_un un_neg s_neg (je_ix (je_var 1 (pv 1)) (je_op op_sub s_sub (je_op op_sub s_sub (je_of_cb s_len (pe_callB call_lenAll (by rfl) z_len (by decide +kernel) (ja_cons (je_var 1 (pv 1)) ja_nil))) je_int) (je_var 2 (pv 2))) (fun _ _ => rfl))) (nomark _))))) (jss_one (js_augBy (ps_aug (i := 2) sc_cyclic_parts.nd rfl (by first | exact .inl rfl | exact .inr rfl) je_int ip_add) s_iadd)))
      (jss_one (js_ret (je_tup (ja_cons (je_cut (je_var 1 (pv 1)) jo_none (jo_some (je_var 2 (pv 2)))) (ja_cons (je_cut (je_var 1 (pv 1)) (jo_some (je_var 2 (pv 2))) (jo_some (je_op op_sub s_sub (je_of_cb s_len (pe_callB call_lenAll (by rfl) z_len (by decide +kernel) (ja_cons (je_var 1 (pv 1)) ja_nil))) (je_var 2 (pv 2))))) ja_nil))))))))) law_cyclic_parts
/-! ### rotations -/
abbrev s_rotations : Stmt := top 7
theorem sc_rotations : FnScope ["core", "n"] ["core"] (defScope s_rotations) := ⟨rfl, rfl, rfl, by decide +kernel, rfl, by decide +kernel, by decide +kernel⟩
theorem b_rotations : BindP "rotations" s_rotations ["core"] := fun _ _ _ _ _ _ us hl => match us, hl with | [_], _ => rfl
def m_rotations : MS := (mSeq (mIfS (mNotT (mTru (mVar 0))) (mRet (mN fLst (mCons (mN fTup mNil) mNil))) mSkip) (mRet (mN fNew (mItems [1] (mRng1 (mCons (mN bLen (mCons (mVar 0) mNil)) mNil)) (mgName 1) mYes (m2 oAdd (mCut (mVar 0) (mPart (mVar 1)) mNo) (mCut (mVar 0) mNo (mPart (mVar 1))))))))
def rots (c : List Int) : List (List Int) := if c = [] then [[]] else (List.range c.length).map (rot c)
def sp_rotations : SpD := fun _ ds S R => ∃ c : List Int, ds = [wd c] ∧ c.length ≤ 100000 ∧ R (.ref S.length) (S ++ [.lst ((rots c).map wd)])
theorem len_rotations : ∀ W ds T R, sp_rotations W ds T R → ds.length = 1 := by
  rintro W ds T R ⟨_, rfl, _⟩
  rfl
theorem rot_row {c : List Int} {k : Nat} (hk : k ≤ c.length) : cutD (c.map D.int) (some (k : Int)) none ++ cutD (c.map D.int) none (some (k : Int)) = (rot c k).map D.int := by
  rw [cutD_map, cutD_map, cut_take hk, cut_drop hk, ← List.map_append]
  rfl
theorem rot_line {c : List Int} {lo hi lo' hi' : Option Int} (h : c.length ≤ 100000) : (cutD (c.map D.int) lo hi).length + (cutD (c.map D.int) lo' hi').length ≤ sizeLine := by
  have g : ∀ lo hi, (cutD (c.map D.int) lo hi).length ≤ 100000 := fun lo hi => by
    unfold cutD
    rw [List.length_take, List.length_drop, List.length_map]
    omega
  have := g lo hi
  have := g lo' hi'
  rw [sizeLine_eq]
  omega
theorem law_rotations : ∀ W ds T R, sp_rotations W ds T R → m_rotations W { nx := fun _ T' => Drop T R .non T', rt := Drop T R } (startD ["core", "n"] ds) T := by
  rintro W ds T R ⟨c, rfl, hl, h⟩
  cases c with
  | nil => exact br_t ⟨side_line rfl, side_line rfl, .keep h⟩
  | cons x c =>
    generalize hc : x :: c = cs at h hl
    have hne : cs ≠ [] := by rw [← hc]; simp
    have e0 : rots cs = (List.range cs.length).map (rot cs) := by unfold rots; rw [if_neg hne]
    rw [e0] at h
    have he : (cs.map D.int).isEmpty = false := by rw [← hc]; rfl
    have clm : (cs.map D.int).length = cs.length := List.length_map _
    refine ⟨fun e => absurd e (by show ¬ (!(!(cs.map D.int).isEmpty)) = true; rw [he]; decide), fun _ => ?_⟩
    refine ⟨⟨by rw [clm]; omega, by rw [clm]; omega⟩, ?_⟩
    refine cLoop_inv (fun i acc S => S = T ∧ acc = ((List.range i).map (rot cs)).map wd) ?_ ?_ ⟨rfl, rfl⟩
    · rintro i d acc S N hd ⟨rfl, rfl⟩ hN
      obtain ⟨hi, rfl⟩ := rangeD_get hd
      rw [clm] at hi
      have hi : i < cs.length := by omega
      rw [show (0 : Int) + (i : Int) = (i : Int) by omega]
      refine ⟨trivial, br_t ⟨rot_line hl, ?_, ?_⟩⟩
      · rw [List.length_map, List.length_map, List.length_range, sizeLine_eq]
        omega
      · rw [rot_row (by omega)]
        refine hN _ _ ⟨rfl, ?_⟩
        rw [List.range_succ]
        simp
    · rintro acc S ⟨rfl, rfl⟩
      rw [rangeD_length, clm]
      exact ⟨trivial, .keep h⟩

theorem ok_rotations {P : Program} {w : World} {K : PySem.W.Frag} {mg : Str → Option Value} {base : Heap} (z_len : mg "len" = none) (z_range : mg "range" = none)   (a : At K mg "rotations" s_rotations) : Df P w K mg base "rotations" s_rotations 1 ["core"] sp_rotations :=
  df_mk a fun f fd F => fn_ok (m := m_rotations) F sc_rotations len_rotations (fun cdv A outer s H E hr =>
    (jss_cons (js_if (jt_not (jt_tru (je_var 0 (pv 0)))) (jss_one (js_ret (je_lst (ja_cons (je_tup ja_nil) ja_nil)))) jss_nil)
      (jss_one (js_ret (je_lc (compT_name (by decide)) (pe_lc (own := [("n", 1)]) (g := gName 1) rfl sc_rotations.nd  (ji_rng1 (pi_range1 (by rfl) z_range (ja_cons (je_of_cb s_len (pe_callB call_lenAll (by rfl) z_len (by decide +kernel) (ja_cons (je_var 0 (pv 0)) ja_nil))) ja_nil))) (blkOk_by (own := [("n", 1)]) (N := ["core", "n"]) (sc := defScope s_rotations) (by decide +kernel)) (fun _ _ _ _ _ => (pg_name (i := 1) sc_rotations.nd rfl (Or.inl rfl))) (fun _ _ _ _ _ => jts_nil) (fun _ _ _ _ _ => (je_op op_addD s_add (je_cut (je_var 0 (pv 0)) (jo_some (je_var 1 (pv 1))) jo_none) (je_cut (je_var 0 (pv 0)) jo_none (jo_some (je_var 1 (pv 1)))))))))))) law_rotations
/-! ### conjugator -/
abbrev s_conjugator : Stmt := top 8
theorem sc_conjugator : FnScope ["first", "second", "first_end", "first_core", "second_end", "second_core", "rows", "n", "bridge"] ["first", "second"] (defScope s_conjugator) := ⟨rfl, rfl, rfl, by decide +kernel, rfl, by decide +kernel, by decide +kernel⟩
theorem b_conjugator : BindP "conjugator" s_conjugator ["first", "second"] := fun _ _ _ _ _ _ us hl => match us, hl with | [_, _], _ => rfl
theorem bk_conjugator_0_second_first : BindK "conjugator" s_conjugator ["first", "second"] ["second", "first"] 0 [1, 0] := fun _ _ _ _ _ _ us ws h1 h2 => match us, ws, h1, h2 with | [], [_, _], _, _ => rfl
def m_conjugator : MS := (mSeq (mAsg (mCall sp_cyclic_parts (mCons (mVar 0) mNil)) (mgTup 2 (mgCons (mgName 2) (mgCons (mgName 3) mgNil)))) (mSeq (mAsg (mCall sp_cyclic_parts (mCons (mVar 1) mNil)) (mgTup 2 (mgCons (mgName 4) (mgCons (mgName 5) mgNil)))) (mSeq (mIfS (mTB (m2 oNe (mN bLen (mCons (mVar 3) mNil)) (mN bLen (mCons (mVar 5) mNil)))) (mRet (mC .non)) mSkip) (mSeq (mSet 6 (mCall sp_rotations (mCons (mVar 3) mNil))) (mSeq (mFor (mRng1 (mCons (mN bLen (mCons (mVar 6) mNil)) mNil)) (mgName 7) (mIfS (mTB (m2 oEq (m2 oIx (mVar 6) (mVar 7)) (mVar 5))) (mSeq (mSet 8 (mCall sp_combined (mCons (mCall sp_inverse (mCons (mCut (mVar 3) mNo (mPart (mVar 7))) mNil)) (mCons (mCall sp_inverse (mCons (mVar 2) mNil)) mNil)))) (mRet (mCall sp_combined (mCons (mVar 4) (mCons (mVar 8) mNil))))) mSkip)) (mRet (mC .non)))))))
def toldW (a b u : List Int) : List Int := red (tip b ++ red (inv (red u) ++ inv (red (tip a))))
def sp_conjugator : SpD := fun _ ds S R => ∃ a b : List Int, ds = [wd a, wd b] ∧ (a.length ≤ 10000 ∧ b.length ≤ 10000) ∧ (¬ IsRot (core a) (core b) → R .non S) ∧ (∀ u v, core a = u ++ v → core b = v ++ u → R (wd (toldW a b u)) S)
theorem len_conjugator : ∀ W ds T R, sp_conjugator W ds T R → ds.length = 2 := by
  rintro W ds T R ⟨_, _, rfl, _⟩
  rfl
theorem rots_get {c : List Int} {i : Nat} (h : i < (rots c).length) : (rots c)[i]? = some (rot c i) ∧ i ≤ c.length := by
  unfold rots at h ⊢
  by_cases e : c = []
  · rw [if_pos e] at h ⊢
    have : i = 0 := by simpa using h
    subst this
    rw [e]
    exact ⟨rfl, Nat.zero_le _⟩
  · rw [if_neg e] at h ⊢
    simp at h
    refine ⟨?_, by omega⟩
    rw [List.getElem?_map, List.getElem?_range h]
    rfl
theorem rots_all {c d : List Int} (h : IsRot c d) : ∃ j : Nat, (rots c)[j]? = some d := by
  unfold rots
  by_cases e : c = []
  · rw [if_pos e]
    refine ⟨0, ?_⟩
    have : d = [] := List.eq_nil_of_length_eq_zero (by rw [← h.len, e]; rfl)
    rw [this]
    rfl
  · rw [if_neg e]
    obtain ⟨k, hk, rfl⟩ := is_rot_lt h e
    refine ⟨k, ?_⟩
    rw [List.getElem?_map, List.getElem?_range hk]
    rfl
theorem rots_len (c : List Int) : (rots c).length ≤ c.length + 1 := by
  unfold rots
  split
  · simp
  · simp
theorem law_conjugator : ∀ W ds T R, sp_conjugator W ds T R → m_conjugator W { nx := fun _ T' => Drop T R .non T', rt := Drop T R } (startD ["first", "second", "first_end", "first_core", "second_end", "second_core", "rows", "n", "bridge"] ds) T := by
  rintro W ds T R ⟨a, b, rfl, ⟨ha, hb⟩, h1, h2⟩
  have ca := len_core a
  have cb := len_core b
  have ta := len_tip a
  have tb := len_tip b
  refine ⟨a, rfl, by omega, rfl, b, rfl, by omega, rfl, fun e => ?_, fun e => ?_⟩
  · have e : (!decide ((((core a).map D.int).length : Int) = ((core b).map D.int).length)) = true := e
    rw [List.length_map, List.length_map] at e
    refine .keep (h1 fun q => ?_)
    rw [q.len] at e
    simp at e
  · refine ⟨core a, rfl, by omega, _, at_snoc, ?_⟩
    have rl := rots_len (core a)
    have rlm : ((rots (core a)).map wd).length = (rots (core a)).length := List.length_map _
    refine ⟨⟨by rw [rlm]; omega, by rw [rlm]; omega⟩, ?_⟩
    refine mLoop_inv (fun i ρ S => S = T ++ [.lst ((rots (core a)).map wd)] ∧ ∃ x : Option D, ρ = [some (wd a), some (wd b), some (wd (tip a)), some (wd (core a)), some (wd (tip b)), some (wd (core b)), some (.ref T.length), x, none] ∧ ∀ j q, j < i → (rots (core a))[j]? = some q → q ≠ core b) ?_ ?_ ⟨rfl, _, rfl, fun j q hj => by omega⟩
    · rintro i d ρ S N hd ⟨rfl, x, rfl, hj⟩ hN
      obtain ⟨hi, rfl⟩ := rangeD_get hd
      rw [rlm] at hi
      obtain ⟨g1, g2⟩ := rots_get (c := core a) (i := i) (by omega)
      rw [show (0 : Int) + (i : Int) = (i : Int) by omega]
      have ax : atI ((rots (core a)).map wd) (i : Int) = some (wd (rot (core a) i)) := by
        rw [atI_ofNat (by omega), Int.toNat_natCast, List.getElem?_map, g1]
        rfl
      refine ⟨trivial, _, at_snoc, wd (rot (core a) i), ax, ⟨pd_wd, pd_wd⟩, fun e => ?_, fun e => ?_⟩
      · have e : deq (wd (rot (core a) i)) (wd (core b)) = true := e
        rw [deq_wd] at e
        have e : rot (core a) i = core b := eq_of_beq e
        have lu : ((core a).take i).length ≤ 10000 := by rw [List.length_take]; omega
        have r1 := len_red ((core a).take i)
        have r2 := len_red (tip a)
        have r3 := len_red (inv (red ((core a).take i)) ++ inv (red (tip a)))
        rw [List.length_append, len_inv, len_inv] at r3
        have l1 : (inv (red ((core a).take i))).length ≤ 50000 := by rw [len_inv]; omega
        have l2 : (inv (red (tip a))).length ≤ 50000 := by rw [len_inv]; omega
        refine ⟨(core a).take i, by rw [cutD_map, cut_take g2], by omega, tip a, rfl, by omega, inv (red ((core a).take i)), inv (red (tip a)), rfl, ⟨l1, l2⟩, tip b, _, rfl, ⟨by omega, by omega⟩, Drop.all ?_ scD_wd⟩
        exact h2 ((core a).take i) ((core a).drop i) (List.take_append_drop _ _).symm e.symm
      · have e : deq (wd (rot (core a) i)) (wd (core b)) = false := e
        rw [deq_wd] at e
        refine hN _ _ ⟨rfl, _, rfl, fun j q hj' hq => ?_⟩
        by_cases z : j = i
        · rw [z, g1] at hq
          cases hq
          simpa using e
        · exact hj j q (by omega) hq
    · rintro ρ S ⟨rfl, x, rfl, hj⟩
      refine ⟨trivial, Drop.all (h1 fun q => ?_) rfl⟩
      obtain ⟨j, hjq⟩ := rots_all q
      refine hj j _ ?_ hjq rfl
      rw [rangeD_length, rlm]
      have := (List.getElem?_eq_some_iff.mp hjq).1
      omega

theorem ok_conjugator {P : Program} {w : World} {K : PySem.W.Frag} {mg : Str → Option Value} {base : Heap} (z_len : mg "len" = none) (z_range : mg "range" = none) (D_cyclic_parts : Df P w K mg base "cyclic_parts" s_cyclic_parts 3 ["word"] sp_cyclic_parts) (D_rotations : Df P w K mg base "rotations" s_rotations 1 ["core"] sp_rotations) (D_combined : Df P w K mg base "combined" s_combined 3 ["first", "second"] sp_combined) (D_inverse : Df P w K mg base "inverse" s_inverse 3 ["word"] sp_inverse)  (a : At K mg "conjugator" s_conjugator) : Df P w K mg base "conjugator" s_conjugator 4 ["first", "second"] sp_conjugator :=
  df_mk a fun f fd F => fn_ok (m := m_conjugator) F sc_conjugator len_conjugator (fun cdv A outer s H E hr =>
    (jss_cons (js_asg (je_def D_cyclic_parts b_cyclic_parts (hr.mono (by decide)) (by rfl) passE (ja_cons (je_var 0 (pv 0)) ja_nil)) (jg_tup rfl (jgs_cons (jg_name (pg_name (i := 2) sc_conjugator.nd rfl (by first | exact .inl rfl | exact .inr rfl))) (jgs_cons (jg_name (pg_name (i := 3) sc_conjugator.nd rfl (by first | exact .inl rfl | exact .inr rfl))) jgs_nil))))
      (jss_cons (js_asg (je_def D_cyclic_parts b_cyclic_parts (hr.mono (by decide)) (by rfl) passE (ja_cons (je_var 1 (pv 1)) ja_nil)) (jg_tup rfl (jgs_cons (jg_name (pg_name (i := 4) sc_conjugator.nd rfl (by first | exact .inl rfl | exact .inr rfl))) (jgs_cons (jg_name (pg_name (i := 5) sc_conjugator.nd rfl (by first | exact .inl rfl | exact .inr rfl))) jgs_nil))))
      (jss_cons (js_if (jt_cmp (op_neD hr.units) s_ne (je_of_cb s_len (pe_callB call_lenAll (by rfl) z_len (by decide +kernel) (ja_cons (je_var 3 (pv 3)) ja_nil))) (je_of_cb s_len (pe_callB call_lenAll (by rfl) z_len (by decide +kernel) (ja_cons (je_var 5 (pv 5)) ja_nil))) (nomark _)) (jss_one (js_ret je_non)) jss_nil)
      (jss_cons (js_set (i := 6) sc_conjugator.nd rfl (by first | exact .inl rfl | exact .inr rfl) (je_def D_rotations b_rotations (hr.mono (by decide)) (by rfl) passE (ja_cons (je_var 3 (pv 3)) ja_nil)))
      (jss_cons (js_for ownE rfl (ji_rng1 (pi_range1 (by rfl) z_range (ja_cons (je_of_cb s_len (pe_callB call_lenAll (by rfl) z_len (by decide +kernel) (ja_cons (je_var 6 (pv 6)) ja_nil))) ja_nil))) (jg_name (pg_name (i := 7) sc_conjugator.nd rfl (by first | exact .inl rfl | exact .inr rfl))) (jss_one (js_if (jt_cmp (op_eqD hr.units) s_eq (je_ix (je_var 6 (pv 6)) (je_var 7 (pv 7)) (fun _ _ => rfl)) (je_var 5 (pv 5)) (nomark _)) (jss_cons (js_set (i := 8) sc_conjugator.nd rfl (by first | exact .inl rfl | exact .inr rfl) (je_def D_combined b_combined (hr.mono (by decide)) (by rfl) passE (ja_cons (je_def D_inverse b_inverse (hr.mono (by decide)) (by rfl) passE (ja_cons (je_cut (je_var 3 (pv 3)) jo_none (jo_some (je_var 7 (pv 7)))) ja_nil)) (ja_cons (je_def D_inverse b_inverse (hr.mono (by decide)) (by rfl) passE (ja_cons (je_var 2 (pv 2)) ja_nil)) ja_nil))))
      (jss_one (js_ret (je_def D_combined b_combined (hr.mono (by decide)) (by rfl) passE (ja_cons (je_var 4 (pv 4)) (ja_cons (je_var 8 (pv 8)) ja_nil)))))) jss_nil)))
      (jss_one (js_ret je_non)))))))) law_conjugator
/-! ### _law_mix -/
abbrev s__law_mix : Stmt := top 10
theorem sc__law_mix : FnScope ["number", "turn", "one", "two"] ["number", "turn"] (defScope s__law_mix) := ⟨rfl, rfl, rfl, by decide +kernel, rfl, by decide +kernel, by decide +kernel⟩
theorem b__law_mix : BindP "_law_mix" s__law_mix ["number", "turn"] := fun _ _ _ _ _ _ us hl => match us, hl with | [_, _], _ => rfl
def m__law_mix : MS := (mSeq (mSet 2 (m2 oMod (mN bInt (mCons (m2 oAdd (m2 oAdd (m2 oMul (mVar 0) (mC (.int 69069))) (m2 oMul (mVar 1) (mC (.int 48271)))) (mC (.int 31337))) mNil)) (mC (.int 2147483647)))) (mSeq (mSet 3 (m2 oMod (mN bInt (mCons (m2 oAdd (m2 oAdd (m2 oMul (mVar 2) (mVar 2)) (m2 oMul (mVar 1) (mC (.int 16807)))) (m2 oDiv (mVar 2) (mC (.int 5)))) mNil)) (mC (.int 2147483629)))) (mRet (m2 oMod (mN bInt (mCons (m2 oAdd (m2 oAdd (m2 oMul (mVar 3) (mC (.int 40692))) (m2 oDiv (mVar 3) (mC (.int 977)))) (m2 oMul (mVar 1) (mC (.int 7)))) mNil)) (mC (.int 998244353))))))
def sp__law_mix : SpD := fun _ ds S R => ∃ n t, ds = [.int n, .int t] ∧ ∀ v, 0 ≤ v → v < 998244353 → R (.int v) S
theorem len__law_mix : ∀ W ds T R, sp__law_mix W ds T R → ds.length = 2 := by
  rintro W ds T R ⟨n, t, rfl, _⟩
  rfl
theorem law__law_mix : ∀ W ds T R, sp__law_mix W ds T R → m__law_mix W { nx := fun _ T' => Drop T R .non T', rt := Drop T R } (startD ["number", "turn", "one", "two"] ds) T := by
  rintro W ds T R ⟨n, t, rfl, h⟩
  refine ⟨mulC (by decide), mulC (by decide), posC (by decide), ?_⟩
  generalize hx : (n * 69069 + t * 48271 + 31337) % 2147483647 = x
  have h1 : 0 ≤ x := by omega
  have h2 : x < 2147483647 := by omega
  refine ⟨mulS (by omega), mulC (by decide), divC (by decide), posC (by decide), mulC (by decide), divC (by decide), mulC (by decide), posC (by decide), .keep (h _ (by omega) (by omega))⟩

theorem ok__law_mix {P : Program} {w : World} {K : PySem.W.Frag} {mg : Str → Option Value} {base : Heap} (z_int : mg "int" = none)   (a : At K mg "_law_mix" s__law_mix) : Df P w K mg base "_law_mix" s__law_mix 1 ["number", "turn"] sp__law_mix :=
  df_mk a fun f fd F => fn_ok (m := m__law_mix) F sc__law_mix len__law_mix (fun cdv A outer s H E hr =>
    (jss_cons (js_set (i := 2) sc__law_mix.nd rfl (by first | exact .inl rfl | exact .inr rfl) (je_op op_mod s_mod (je_of_cb s_int (pe_callTy call_int1 (by rfl) z_int (by decide +kernel) (ja_cons (je_op op_addD s_add (je_op op_addD s_add (je_op op_mulD s_mul (je_var 0 (pv 0)) je_int) (je_op op_mulD s_mul (je_var 1 (pv 1)) je_int)) je_int) ja_nil))) je_int))
      (jss_cons (js_set (i := 3) sc__law_mix.nd rfl (by first | exact .inl rfl | exact .inr rfl) (je_op op_mod s_mod (je_of_cb s_int (pe_callTy call_int1 (by rfl) z_int (by decide +kernel) (ja_cons (je_op op_addD s_add (je_op op_addD s_add (je_op op_mulD s_mul (je_var 2 (pv 2)) (je_var 2 (pv 2))) (je_op op_mulD s_mul (je_var 1 (pv 1)) je_int)) (je_op op_fdivW s_div (je_var 2 (pv 2)) je_int)) ja_nil))) je_int))
      (jss_one (js_ret (je_op op_mod s_mod (je_of_cb s_int (pe_callTy call_int1 (by rfl) z_int (by decide +kernel) (ja_cons (je_op op_addD s_add (je_op op_addD s_add (je_op op_mulD s_mul (je_var 3 (pv 3)) je_int) (je_op op_fdivW s_div (je_var 3 (pv 3)) je_int)) (je_op op_mulD s_mul (je_var 1 (pv 1)) je_int)) ja_nil))) je_int)))))) law__law_mix
/-! ### _law_begin -/
abbrev s__law_begin : Stmt := top 11
theorem sc__law_begin : FnScope ["script", "seed", "cell", "mixed"] ["script"] (defScope s__law_begin) := ⟨rfl, rfl, rfl, by decide +kernel, rfl, by decide +kernel, by decide +kernel⟩
theorem b__law_begin : BindP "_law_begin" s__law_begin ["script"] := fun _ _ _ _ _ _ us hl => match us, hl with | [_], _ => rfl
def m__law_begin : MS := (mSeq (mSet 1 (mN bLen (mCons (mVar 0) mNil))) (mSeq (mFor (mI1 fSeqI (mVar 0)) (mgName 2) (mSet 1 (mCall sp__law_mix (mCons (m2 oAdd (mVar 1) (mVar 2)) (mCons (mC (.int 3)) mNil))))) (mSeq (mSet 3 (mOrV (m2 oEq (mN bLen (mCons (mVar 0) mNil)) (mC (.int 0))) (mAndV (m2 oLtI (mN bAbs (mCons (m2 oIx (mVar 0) (mC (.int 0))) mNil)) (m2 oPow (mC (.int 10)) (mC (.int 18)))) (m2 oEq (m2 oMod (mN bInt (mCons (m2 oIx (mVar 0) (mC (.int 0))) mNil)) (mC (.int 2))) (mC (.int 1)))))) (mRet (mN fLst (mCons (mN bList (mCons (mVar 0) mNil)) (mCons (mC (.int 0)) (mCons (mC (.int 0)) (mCons (mC (.int 0)) (mCons (mC (.int 0)) (mCons (mVar 1) (mCons (mVar 3) mNil))))))))))))
def sp__law_begin : SpD := fun _ ds S R => ∃ ns : List Int, ds = [.rol (ns.map D.int)] ∧ S = [] ∧ ∀ st, GoodS st → R (.ref 1) (Stt ns st [])
theorem len__law_begin : ∀ W ds T R, sp__law_begin W ds T R → ds.length = 1 := by
  rintro W ds T R ⟨n, rfl, _⟩
  rfl
theorem law__law_begin : ∀ W ds T R, sp__law_begin W ds T R → m__law_begin W { nx := fun _ T' => Drop T R .non T', rt := Drop T R } (startD ["script", "seed", "cell", "mixed"] ds) T := by
  rintro W ds T R ⟨ns, rfl, rfl, h⟩
  refine mLoop_inv (fun i ρ S => S = [] ∧ ∃ (x : Option D) (v : Int), ρ = [some (.rol (ns.map D.int)), some (.int v), x, none]) ?_ ?_ ⟨rfl, none, ns.length, by simp [startD]⟩
  · rintro i d ρ S N hd ⟨rfl, x, v, rfl⟩ hN
    obtain ⟨c, rfl⟩ := ints_at hd
    exact ⟨trivial, _, _, rfl, fun v h1 h2 => hN _ _ ⟨rfl, _, _, rfl⟩⟩
  · rintro ρ S ⟨rfl, x, v, rfl⟩
    refine ⟨trivial, ?_⟩
    have fin : ∀ b : Bool, Drop [] R (D.ref 1) [O.lst (List.map D.int ns), O.lst [D.ref 0, D.int 0, D.int 0, D.int 0, D.int 0, D.int v, D.bl b]] := fun b => .keep (h _ ⟨_, _, _, _, _, _, rfl, by omega⟩)
    have fin : ∀ b : Bool, 7 ≤ sizeLine ∧ Drop [] R (D.ref 1) [O.lst (List.map D.int ns), O.lst [D.ref 0, D.int 0, D.int 0, D.int 0, D.int 0, D.int v, D.bl b]] := fun b => ⟨side_line (by decide), fin b⟩
    refine ⟨fun h => fin true, fun h0 => ?_⟩
    cases ns with
    | nil => exact absurd h0 (by simp)
    | cons n ns => exact ⟨_, atI_zero, ⟨by decide, by decide, by decide⟩, fun h => ⟨_, atI_zero, posC (by decide), fin _⟩, fun h => fin _⟩

theorem ok__law_begin {P : Program} {w : World} {K : PySem.W.Frag} {mg : Str → Option Value} {base : Heap} (z_len : mg "len" = none) (z_abs : mg "abs" = none) (z_int : mg "int" = none) (z_list : mg "list" = none) (D__law_mix : Df P w K mg base "_law_mix" s__law_mix 1 ["number", "turn"] sp__law_mix)  (a : At K mg "_law_begin" s__law_begin) : Df P w K mg base "_law_begin" s__law_begin 2 ["script"] sp__law_begin :=
  df_mk a fun f fd F => fn_ok (m := m__law_begin) F sc__law_begin len__law_begin (fun cdv A outer s H E hr =>
    (jss_cons (js_set (i := 1) sc__law_begin.nd rfl (by first | exact .inl rfl | exact .inr rfl) (je_of_cb s_len (pe_callB call_lenAll (by rfl) z_len (by decide +kernel) (ja_cons (je_var 0 (pv 0)) ja_nil))))
      (jss_cons (js_for ownE rfl (ji_seq (je_var 0 (pv 0))) (jg_name (pg_name (i := 2) sc__law_begin.nd rfl (by first | exact .inl rfl | exact .inr rfl))) (jss_one (js_set (i := 1) sc__law_begin.nd rfl (by first | exact .inl rfl | exact .inr rfl) (je_def D__law_mix b__law_mix (hr.mono (by decide)) (by rfl) passE (ja_cons (je_op op_addD s_add (je_var 1 (pv 1)) (je_var 2 (pv 2))) (ja_cons je_int ja_nil))))))
      (jss_cons (js_set (i := 3) sc__law_begin.nd rfl (by first | exact .inl rfl | exact .inr rfl) (je_or (je_cmp (op_eqD hr.units) s_eq (je_of_cb s_len (pe_callB call_lenAll (by rfl) z_len (by decide +kernel) (ja_cons (je_var 0 (pv 0)) ja_nil))) je_int (nomark _)) (je_one (je_and (je_cmp op_lt s_lt (je_of_cb s_abs (pe_callB call_abs (by rfl) z_abs (by decide +kernel) (ja_cons (je_ix (je_var 0 (pv 0)) je_int (fun _ _ => rfl)) ja_nil))) (je_op op_pow s_pow je_int je_int) (nomark _)) (je_one (je_cmp (op_eqD hr.units) s_eq (je_op op_mod s_mod (je_of_cb s_int (pe_callTy call_int1 (by rfl) z_int (by decide +kernel) (ja_cons (je_ix (je_var 0 (pv 0)) je_int (fun _ _ => rfl)) ja_nil))) je_int) je_int (nomark _)))))))
      (jss_one (js_ret (je_lst (ja_cons (je_of_cb s_list (pe_callTy call_list_of (by rfl) z_list (by decide +kernel) (ja_cons (je_var 0 (pv 0)) ja_nil))) (ja_cons je_int (ja_cons je_int (ja_cons je_int (ja_cons je_int (ja_cons (je_var 1 (pv 1)) (ja_cons (je_var 3 (pv 3)) ja_nil)))))))))))))) law__law_begin
/-! ### _law_draw -/
abbrev s__law_draw : Stmt := top 12
theorem sc__law_draw : FnScope ["state", "limit", "cell", "value"] ["state", "limit"] (defScope s__law_draw) := ⟨rfl, rfl, rfl, by decide +kernel, rfl, by decide +kernel, by decide +kernel⟩
theorem b__law_draw : BindP "_law_draw" s__law_draw ["state", "limit"] := fun _ _ _ _ _ _ us hl => match us, hl with | [_, _], _ => rfl
def m__law_draw : MS := (mSeq (mAsg (m2 oAdd (m2 oIx (mVar 0) (mC (.int 4))) (mC (.int 1))) (mgSub (mVar 0) (mC (.int 4)) fSetL)) (mSeq (mIfS (mAndT (mTB (m2 oEq (m2 oIx (mVar 0) (mC (.int 3))) (mC (.int 0)))) (mAndT (mNotT (mTru (m2 oIx (mVar 0) (mC (.int 6))))) (mTB (m2 oLtI (m2 oIx (mVar 0) (mC (.int 1))) (mN bLen (mCons (m2 oIx (mVar 0) (mC (.int 0))) mNil)))))) (mSeq (mSet 2 (mN bAbs (mCons (m2 oIx (m2 oIx (mVar 0) (mC (.int 0))) (m2 oIx (mVar 0) (mC (.int 1)))) mNil))) (mSeq (mAsg (m2 oAdd (m2 oIx (mVar 0) (mC (.int 1))) (mC (.int 1))) (mgSub (mVar 0) (mC (.int 1)) fSetL)) (mSeq (mIfS (mTB (m2 oLtI (mVar 2) (m2 oPow (mC (.int 10)) (mC (.int 18))))) (mRet (m2 oMod (mN bInt (mCons (mCall sp__law_mix (mCons (mVar 2) (mCons (m2 oIx (mVar 0) (mC (.int 4))) mNil))) mNil)) (mVar 1))) mSkip) (mSeq (mAsg (mVar 2) (mgSub (mVar 0) (mC (.int 2)) fSetL)) (mAsg (mC (.int 60)) (mgSub (mVar 0) (mC (.int 3)) fSetL)))))) mSkip) (mSeq (mIfS (mTB (m2 oEq (m2 oIx (mVar 0) (mC (.int 3))) (mC (.int 0)))) (mRet (m2 oMod (mN bInt (mCons (mCall sp__law_mix (mCons (m2 oIx (mVar 0) (mC (.int 5))) (mCons (m2 oIx (mVar 0) (mC (.int 4))) mNil))) mNil)) (mVar 1))) mSkip) (mSeq (mSet 3 (m2 oMod (mN bInt (mCons (m2 oIx (mVar 0) (mC (.int 2))) mNil)) (mVar 1))) (mSeq (mAsg (m2 oDiv (m2 oIx (mVar 0) (mC (.int 2))) (mVar 1)) (mgSub (mVar 0) (mC (.int 2)) fSetL)) (mSeq (mAsg (m2 oSub (m2 oIx (mVar 0) (mC (.int 3))) (mC (.int 1))) (mgSub (mVar 0) (mC (.int 3)) fSetL)) (mSeq (mIfS (mTB (m2 oEq (m2 oIx (mVar 0) (mC (.int 2))) (mC (.int 0)))) (mAsg (mC (.int 0)) (mgSub (mVar 0) (mC (.int 3)) fSetL)) mSkip) (mRet (mVar 3)))))))))
def sp__law_draw : SpD := fun _ ds S R => ∃ (lim : Int) (cs : List Int) (st : List D) (T : Sto), ds = [.ref 1, .int lim] ∧ S = Stt cs st T ∧ GoodS st ∧ (0 < lim ∧ lim < 2 ^ 200) ∧
  ∀ v st', GoodS st' → 0 ≤ v → v < lim → R (.int v) (Stt cs st' T)
theorem len__law_draw : ∀ W ds T R, sp__law_draw W ds T R → ds.length = 2 := by
  rintro W ds T R ⟨_, _, _, _, rfl, _⟩
  rfl
theorem law__law_draw : ∀ W ds T R, sp__law_draw W ds T R → m__law_draw W { nx := fun _ T' => Drop T R .non T', rt := Drop T R } (startD ["state", "limit", "cell", "value"] ds) T := by
  rintro W ds T R ⟨lim, cs, st, T, rfl, rfl, ⟨i, big, cnt, turn, seed, mixed, rfl, hi⟩, ⟨hl, hl2⟩, h⟩
  have m1 : ∀ x : Int, 0 ≤ x % lim := fun x => Int.emod_nonneg _ (by omega)
  have m2' : ∀ x : Int, x % lim < lim := fun x => Int.emod_lt_of_pos _ hl
  have dl : ∀ x : Int, CDivW x lim := fun x => CDivW.small hl hl2
  have fin : ∀ (T0 : Sto) (v i big cnt turn : Int), 0 ≤ i → 0 ≤ v → v < lim → Drop T0 R (.int v) (.lst (cs.map D.int) :: .lst [.ref 0, .int i, .int big, .int cnt, .int turn, .int seed, .bl mixed] :: T) :=
    fun T0 v i big cnt turn h0 h1 h2 => .keep (h v [.ref 0, .int i, .int big, .int cnt, .int turn, .int seed, .bl mixed] ⟨_, _, _, _, _, _, rfl, h0⟩ h1 h2)
  refine ⟨_, rfl, _, rfl, _, rfl, _, rfl, ?_⟩
  dsimp only
  refine seq_cut (fun ρ S => ∃ (c : Option D) (i big cnt : Int), 0 ≤ i ∧ ρ = [some (.ref 1), some (.int lim), c, none] ∧ S = .lst (cs.map D.int) :: .lst [.ref 0, .int i, .int big, .int cnt, .int (turn + 1), .int seed, .bl mixed] :: T) (fun N hN => ?_) ?_
  · have skip : N [some (.ref 1), some (.int lim), none, none] (.lst (cs.map D.int) :: .lst [.ref 0, .int i, .int big, .int cnt, .int (turn + 1), .int seed, .bl mixed] :: T) := hN _ _ ⟨_, _, _, _, hi, rfl, rfl⟩
    refine ⟨_, rfl, _, rfl, fun h1 => ⟨_, rfl, _, rfl, fun h2 => ⟨_, rfl, _, rfl, _, rfl, _, rfl, _, rfl, fun h3 => ?_, fun _ => skip⟩, fun _ => br_f skip⟩, fun _ => br_f skip⟩
    have h3' : i < cs.length := by simpa using of_decide_eq_true h3
    obtain ⟨c, hc⟩ : ∃ c : Int, atI (cs.map D.int) i = some (.int c) := by
      obtain ⟨d, h1, h2⟩ := atI_mem (xs := cs.map D.int) hi (by simpa using h3')
      obtain ⟨c, _, rfl⟩ := List.mem_map.mp h2
      exact ⟨c, h1⟩
    refine ⟨_, rfl, _, rfl, _, rfl, _, rfl, _, rfl, _, hc, ?_⟩
    refine ⟨_, rfl, _, rfl, _, rfl, _, rfl, ?_⟩
    refine ⟨⟨by decide, by decide, by decide⟩, fun h4 => ⟨_, rfl, _, rfl, _, _, rfl, fun v h5 h6 => ⟨hl, fin _ _ _ _ _ _ (by omega) (m1 _) (m2' _)⟩⟩, fun h4 => ⟨_, rfl, _, rfl, _, rfl, _, rfl, hN _ _ ⟨_, _, _, _, ?_, rfl, rfl⟩⟩⟩
    omega
  rintro ρ S ⟨c, i, big, cnt, hi, rfl, rfl⟩
  generalize turn + 1 = turn
  refine ⟨_, rfl, _, rfl, fun h1 => ⟨_, rfl, _, rfl, _, rfl, _, rfl, _, _, rfl, fun v h5 h6 => ⟨hl, fin _ _ _ _ _ _ (by omega) (m1 _) (m2' _)⟩⟩, fun h1 => ⟨_, rfl, _, rfl, hl, _, rfl, _, rfl, dl _, _, rfl, _, rfl, _, rfl, _, rfl, _, rfl, _, rfl, _, rfl, _, rfl, fun h2 => ⟨_, rfl, _, rfl, fin _ _ _ _ _ _ (by omega) (m1 _) (m2' _)⟩, fun h2 => fin _ _ _ _ _ _ (by omega) (m1 _) (m2' _)⟩⟩

theorem ok__law_draw {P : Program} {w : World} {K : PySem.W.Frag} {mg : Str → Option Value} {base : Heap} (z_len : mg "len" = none) (z_abs : mg "abs" = none) (z_int : mg "int" = none) (D__law_mix : Df P w K mg base "_law_mix" s__law_mix 1 ["number", "turn"] sp__law_mix)  (a : At K mg "_law_draw" s__law_draw) : Df P w K mg base "_law_draw" s__law_draw 2 ["state", "limit"] sp__law_draw :=
  df_mk a fun f fd F => fn_ok (m := m__law_draw) F sc__law_draw len__law_draw (fun cdv A outer s H E hr =>
    (jss_cons (js_asg (je_op op_addD s_add (je_ix (je_var 0 (pv 0)) je_int (fun _ _ => rfl)) je_int) (jg_sub (je_var 0 (pv 0)) je_int set_list snd_setL))
      (jss_cons (js_if (jw_pt (jw_and (jt_cmp (op_eqD hr.units) s_eq (je_ix (je_var 0 (pv 0)) je_int (fun _ _ => rfl)) je_int (nomark _)) (jw_and (jt_not (jt_tru (je_ix (je_var 0 (pv 0)) je_int (fun _ _ => rfl)))) (jw_and1 (jt_cmp op_lt s_lt (je_ix (je_var 0 (pv 0)) je_int (fun _ _ => rfl)) (je_of_cb s_len (pe_callB call_lenAll (by rfl) z_len (by decide +kernel) (ja_cons (je_ix (je_var 0 (pv 0)) je_int (fun _ _ => rfl)) ja_nil))) (nomark _)))))) (jss_cons (js_set (i := 2) sc__law_draw.nd rfl (by first | exact .inl rfl | exact .inr rfl) (je_of_cb s_abs (pe_callB call_abs (by rfl) z_abs (by decide +kernel) (ja_cons (je_ix (je_ix (je_var 0 (pv 0)) je_int (fun _ _ => rfl)) (je_ix (je_var 0 (pv 0)) je_int (fun _ _ => rfl)) (fun _ _ => rfl)) ja_nil))))
      (jss_cons (js_asg (je_op op_addD s_add (je_ix (je_var 0 (pv 0)) je_int (fun _ _ => rfl)) je_int) (jg_sub (je_var 0 (pv 0)) je_int set_list snd_setL))
      (jss_cons (js_if (jt_cmp op_lt s_lt (je_var 2 (pv 2)) (je_op op_pow s_pow je_int je_int) (nomark _)) (jss_one (js_ret (je_op op_mod s_mod (je_of_cb s_int (pe_callTy call_int1 (by rfl) z_int (by decide +kernel) (ja_cons (je_def D__law_mix b__law_mix (hr.mono (by decide)) (by rfl) passE (ja_cons (je_var 2 (pv 2)) (ja_cons (je_ix (je_var 0 (pv 0)) je_int (fun _ _ => rfl)) ja_nil))) ja_nil))) (je_var 1 (pv 1))))) jss_nil)
      (jss_cons (js_asg (je_var 2 (pv 2)) (jg_sub (je_var 0 (pv 0)) je_int set_list snd_setL))
      (jss_one (js_asg je_int (jg_sub (je_var 0 (pv 0)) je_int set_list snd_setL))))))) jss_nil)
      (jss_cons (js_if (jt_cmp (op_eqD hr.units) s_eq (je_ix (je_var 0 (pv 0)) je_int (fun _ _ => rfl)) je_int (nomark _)) (jss_one (js_ret (je_op op_mod s_mod (je_of_cb s_int (pe_callTy call_int1 (by rfl) z_int (by decide +kernel) (ja_cons (je_def D__law_mix b__law_mix (hr.mono (by decide)) (by rfl) passE (ja_cons (je_ix (je_var 0 (pv 0)) je_int (fun _ _ => rfl)) (ja_cons (je_ix (je_var 0 (pv 0)) je_int (fun _ _ => rfl)) ja_nil))) ja_nil))) (je_var 1 (pv 1))))) jss_nil)
      (jss_cons (js_set (i := 3) sc__law_draw.nd rfl (by first | exact .inl rfl | exact .inr rfl) (je_op op_mod s_mod (je_of_cb s_int (pe_callTy call_int1 (by rfl) z_int (by decide +kernel) (ja_cons (je_ix (je_var 0 (pv 0)) je_int (fun _ _ => rfl)) ja_nil))) (je_var 1 (pv 1))))
      (jss_cons (js_asg (je_op op_fdivW s_div (je_ix (je_var 0 (pv 0)) je_int (fun _ _ => rfl)) (je_var 1 (pv 1))) (jg_sub (je_var 0 (pv 0)) je_int set_list snd_setL))
      (jss_cons (js_asg (je_op op_sub s_sub (je_ix (je_var 0 (pv 0)) je_int (fun _ _ => rfl)) je_int) (jg_sub (je_var 0 (pv 0)) je_int set_list snd_setL))
      (jss_cons (js_if (jt_cmp (op_eqD hr.units) s_eq (je_ix (je_var 0 (pv 0)) je_int (fun _ _ => rfl)) je_int (nomark _)) (jss_one (js_asg je_int (jg_sub (je_var 0 (pv 0)) je_int set_list snd_setL))) jss_nil)
      (jss_one (js_ret (je_var 3 (pv 3)))))))))))) law__law_draw
/-! ### _law_pick -/
abbrev s__law_pick : Stmt := top 13
theorem sc__law_pick : FnScope ["state", "some"] ["state", "some"] (defScope s__law_pick) := ⟨rfl, rfl, rfl, by decide +kernel, rfl, by decide +kernel, by decide +kernel⟩
theorem b__law_pick : BindP "_law_pick" s__law_pick ["state", "some"] := fun _ _ _ _ _ _ us hl => match us, hl with | [_, _], _ => rfl
def m__law_pick : MS := (mRet (m2 oIx (mVar 1) (mCall sp__law_draw (mCons (mVar 0) (mCons (mN bLen (mCons (mVar 1) mNil)) mNil)))))
def sp__law_pick : SpD := fun _ ds S R => ∃ (k : Nat) (xs : List D) (cs : List Int) (st : List D) (T : Sto), ds = [.ref 1, .ref (k + 2)] ∧ S = Stt cs st T ∧ GoodS st ∧ T[k]? = some (.lst xs) ∧ (xs ≠ [] ∧ xs.length < 1000) ∧
  ∀ d st', GoodS st' → d ∈ xs → R d (Stt cs st' T)
theorem len__law_pick : ∀ W ds T R, sp__law_pick W ds T R → ds.length = 2 := by
  rintro W ds T R ⟨_, _, _, _, _, rfl, _⟩
  rfl
theorem law__law_pick : ∀ W ds T R, sp__law_pick W ds T R → m__law_pick W { nx := fun _ T' => Drop T R .non T', rt := Drop T R } (startD ["state", "some"] ds) T := by
  rintro W ds T R ⟨k, xs, cs, st, T, rfl, rfl, hg, hk, ⟨hn, hl⟩, h⟩
  have hp : 0 < xs.length := List.length_pos_iff.mpr hn
  refine ⟨xs, hk, _, cs, st, T, rfl, rfl, hg, ⟨by omega, by omega⟩, fun v st' hg' h1 h2 => ⟨xs, hk, ?_⟩⟩
  obtain ⟨d, h3, h4⟩ := atI_mem (xs := xs) h1 h2
  exact ⟨d, h3, .keep (h d st' hg' h4)⟩

theorem ok__law_pick {P : Program} {w : World} {K : PySem.W.Frag} {mg : Str → Option Value} {base : Heap} (z_len : mg "len" = none) (D__law_draw : Df P w K mg base "_law_draw" s__law_draw 2 ["state", "limit"] sp__law_draw)  (a : At K mg "_law_pick" s__law_pick) : Df P w K mg base "_law_pick" s__law_pick 3 ["state", "some"] sp__law_pick :=
  df_mk a fun f fd F => fn_ok (m := m__law_pick) F sc__law_pick len__law_pick (fun cdv A outer s H E hr =>
    (jss_one (js_ret (je_ix (je_var 1 (pv 1)) (je_def D__law_draw b__law_draw (hr.mono (by decide)) (by rfl) passE (ja_cons (je_var 0 (pv 0)) (ja_cons (je_of_cb s_len (pe_callB call_lenAll (by rfl) z_len (by decide +kernel) (ja_cons (je_var 1 (pv 1)) ja_nil))) ja_nil))) (fun _ _ => rfl))))) law__law_pick
/-! ### _law_whole -/
abbrev s__law_whole : Stmt := top 14
theorem sc__law_whole : FnScope ["value", "low", "high"] ["value", "low", "high"] (defScope s__law_whole) := ⟨rfl, rfl, rfl, by decide +kernel, rfl, by decide +kernel, by decide +kernel⟩
theorem b__law_whole : BindP "_law_whole" s__law_whole ["value", "low", "high"] := fun _ _ _ _ _ _ us hl => match us, hl with | [_, _, _], _ => rfl
def m__law_whole : MS := (mRet (mAndV (mIsi .int (mVar 0)) (mAndV (mNotV (mIsi .bool (mVar 0))) (mChain oLe oLe (mVar 1) (mVar 0) (mVar 2)))))
def sp__law_whole : SpD := fun _ ds S R => ∃ v lo hi : Int, ds = [.int v, .int lo, .int hi] ∧ (lo ≤ v ∧ v ≤ hi) ∧ R (.bl true) S
theorem len__law_whole : ∀ W ds T R, sp__law_whole W ds T R → ds.length = 3 := by
  rintro W ds T R ⟨_, _, _, rfl, _⟩
  rfl
theorem law__law_whole : ∀ W ds T R, sp__law_whole W ds T R → m__law_whole W { nx := fun _ T' => Drop T R .non T', rt := Drop T R } (startD ["value", "low", "high"] ds) T := by
  rintro W ds T R ⟨v, lo, hi, rfl, ⟨h1, h2⟩, h⟩
  have e : decide (v ≤ hi) = true := decide_eq_true h2
  rw [← e] at h
  exact ⟨trivial, br_t ⟨trivial, br_t ⟨fun _ => .keep h, fun q => absurd q (by show ¬ decide (lo ≤ v) = false; rw [decide_eq_true h1]; decide)⟩⟩⟩

theorem ok__law_whole {P : Program} {w : World} {K : PySem.W.Frag} {mg : Str → Option Value} {base : Heap} (z_isinstance : mg "isinstance" = none) (z_int : mg "int" = none) (z_bool : mg "bool" = none)   (a : At K mg "_law_whole" s__law_whole) : Df P w K mg base "_law_whole" s__law_whole 1 ["value", "low", "high"] sp__law_whole :=
  df_mk a fun f fd F => fn_ok (m := m__law_whole) F sc__law_whole len__law_whole (fun cdv A outer s H E hr =>
    (jss_one (js_ret (je_and (je_isi .int (pe_callB call_isi (by rfl) z_isinstance (by decide +kernel) (pa_cons (je_var 0 (pv 0)) (pa_cons (pe_bltn (v := .ty "int") (by rfl) z_int (by decide +kernel) rfl) pa_nil)))) (je_and (je_not (je_isi .bool (pe_callB call_isi (by rfl) z_isinstance (by decide +kernel) (pa_cons (je_var 0 (pv 0)) (pa_cons (pe_bltn (v := .ty "bool") (by rfl) z_bool (by decide +kernel) rfl) pa_nil))))) (je_one (je_chain op_le op_le s_le s_le (je_var 1 (pv 1)) (je_var 0 (pv 0)) (je_var 2 (pv 2))))))))) law__law_whole
/-! ### _law_reduce -/
abbrev s__law_reduce : Stmt := top 15
theorem sc__law_reduce : FnScope ["word", "row", "letter"] ["word"] (defScope s__law_reduce) := ⟨rfl, rfl, rfl, by decide +kernel, rfl, by decide +kernel, by decide +kernel⟩
theorem b__law_reduce : BindP "_law_reduce" s__law_reduce ["word"] := fun _ _ _ _ _ _ us hl => match us, hl with | [_], _ => rfl
def m__law_reduce : MS := (mSeq (mSet 1 (mN fLst mNil)) (mSeq (mFor (mI1 fSeqI (mVar 0)) (mgName 2) (mSet 1 (mIf (mAndT (mTB (m2 oNe (mVar 1) (mN fLst mNil))) (mTB (m2 oEq (m2 oAdd (m2 oIx (mVar 1) (m1 oNeg (mC (.int 1)))) (mVar 2)) (mC (.int 0))))) (mCut (mVar 1) mNo (mPart (m1 oNeg (mC (.int 1))))) (m2 oAdd (mVar 1) (mN fLst (mCons (mVar 2) mNil)))))) (mRet (mN bTuple (mCons (mVar 1) mNil)))))
def sp__law_reduce : SpD := fun _ ds S R => ∃ w : List Int, ds = [wd w] ∧ w.length ≤ 100000 ∧ R (wd (red w)) S
theorem len__law_reduce : ∀ W ds T R, sp__law_reduce W ds T R → ds.length = 1 := by
  rintro W ds T R ⟨_, rfl, _⟩
  rfl
theorem law__law_reduce : ∀ W ds T R, sp__law_reduce W ds T R → m__law_reduce W { nx := fun _ T' => Drop T R .non T', rt := Drop T R } (startD ["word", "row", "letter"] ds) T := by
  rintro W ds T R ⟨w, rfl, hl, h⟩
  refine ⟨side_line rfl, ?_⟩
  refine mLoop_inv (fun i ρ S => ∃ (U : Sto) (n : Nat) (a : Option D), S = T ++ U ∧ S[n]? = some (.lst (rowD (stk (w.take i)))) ∧ ρ = [some (wd w), some (.ref n), a]) ?_ ?_ ⟨_, _, _, rfl, at_snoc, rfl⟩
  · rintro i d ρ S N hd ⟨U, n, a, rfl, hn, rfl⟩ hN
    obtain ⟨x, hx, rfl⟩ := map_int_get hd
    have hlen := len_stk_take w i
    have hN' : ∀ (U : Sto) (n : Nat), (T ++ U)[n]? = some (.lst (rowD (pu (stk (w.take i)) x))) → N [some (wd w), some (.ref n), some (.int x)] (T ++ U) := fun U n e => hN _ _ ⟨U, n, _, rfl, by rw [stk_take hx]; exact e, rfl⟩
    generalize stk (w.take i) = t at hn hN' hlen
    have hk := at_app (U := [O.lst []]) hn
    have more : ∀ U' : Sto, U' = T ++ U ++ [O.lst []] → U'[n]? = some (.lst (rowD t)) → pu t x = x :: t → 1 ≤ sizeLine ∧ ∃ xs ys, (U' ++ [O.lst [.int x]])[n]? = some (.lst xs) ∧ (U' ++ [O.lst [.int x]])[U'.length]? = some (.lst ys) ∧ xs.length + ys.length ≤ sizeLine ∧ N [some (wd w), some (.ref (U' ++ [O.lst [.int x]]).length), some (.int x)] (U' ++ [O.lst [.int x]] ++ [.lst (xs ++ ys)]) := by
      rintro U' rfl hk e
      refine ⟨side_line rfl, _, _, at_app hk, at_snoc, ?_, ?_⟩
      · rw [List.length_map, List.length_reverse, List.length_singleton, sizeLine_eq]
        omega
      · have e2 : rowD t ++ [D.int x] = rowD (pu t x) := by rw [e]; exact (rev_cons_int x t).symm
        rw [e2]
        have := hN' (U ++ [O.lst []] ++ [O.lst [.int x]] ++ [.lst (rowD (pu t x))]) (T ++ U ++ [O.lst []] ++ [O.lst [.int x]]).length
        simp only [← List.append_assoc] at this
        exact this at_snoc
    refine ⟨trivial, side_line rfl, _, hk, _, at_snoc, ⟨?_, rfl⟩, ?_⟩
    · simp [pd]
    · cases t with
      | nil => exact ⟨fun e => absurd e (by decide), fun _ => br_f (more _ rfl hk rfl)⟩
      | cons y t =>
        have e0 : rowD (y :: t) = rowD t ++ [D.int y] := rev_cons_int y t
        have e1 : deqs (rowD (y :: t)) [] = false := by
          cases e : rowD (y :: t) with
          | nil => rw [e] at e0; simp at e0
          | cons u v => rfl
        refine ⟨fun _ => ⟨_, hk, .int y, by rw [e0]; exact atI_last _ _, ?_⟩, fun e => absurd e (by rw [e1]; decide)⟩
        refine ⟨fun e => ?_, fun e => ?_⟩
        · have e : y + x = 0 := of_decide_eq_true e
          refine ⟨_, hk, ?_⟩
          have e2 : cutD (rowD (y :: t)) none (some (-1)) = rowD (pu (y :: t) x) := by rw [e0, cutD_init, pu_cons, if_pos (by omega)]
          have := hN' (U ++ [O.lst []] ++ [.lst (rowD (pu (y :: t) x))]) (T ++ U ++ [O.lst []]).length
          simp only [← List.append_assoc] at this
          rw [← e2] at this
          exact this at_snoc
        · have e : ¬ y + x = 0 := of_decide_eq_false e
          exact more _ rfl hk (by rw [pu_cons, if_neg (by omega)])
  · rintro ρ S ⟨U, n, a, rfl, hn, rfl⟩
    refine ⟨trivial, _, hn, Drop.all ?_ scD_wd⟩
    rw [List.length_map, List.take_length]
    exact h

theorem ok__law_reduce {P : Program} {w : World} {K : PySem.W.Frag} {mg : Str → Option Value} {base : Heap} (z_tuple : mg "tuple" = none)   (a : At K mg "_law_reduce" s__law_reduce) : Df P w K mg base "_law_reduce" s__law_reduce 1 ["word"] sp__law_reduce :=
  df_mk a fun f fd F => fn_ok (m := m__law_reduce) F sc__law_reduce len__law_reduce (fun cdv A outer s H E hr =>
    (jss_cons (js_set (i := 1) sc__law_reduce.nd rfl (by first | exact .inl rfl | exact .inr rfl) (je_lst ja_nil))
      (jss_cons (js_for ownE rfl (ji_seq (je_var 0 (pv 0))) (jg_name (pg_name (i := 2) sc__law_reduce.nd rfl (by first | exact .inl rfl | exact .inr rfl))) (jss_one (js_set (i := 1) sc__law_reduce.nd rfl (by first | exact .inl rfl | exact .inr rfl) (je_if (jw_pt (jw_and (jt_cmp (op_neD hr.units) s_ne (je_var 1 (pv 1)) (je_lst ja_nil) (nomark _)) (jw_and1 (jt_cmp (op_eqD hr.units) s_eq (je_op op_addD s_add (je_ix (je_var 1 (pv 1)) (je_un un_neg s_neg je_int) (fun _ _ => rfl)) (je_var 2 (pv 2))) je_int (nomark _))))) (je_cut (je_var 1 (pv 1)) jo_none (jo_some (je_un un_neg s_neg je_int))) (je_op op_addD s_add (je_var 1 (pv 1)) (je_lst (ja_cons (je_var 2 (pv 2)) ja_nil)))))))
      (jss_one (js_ret (je_of_cb s_tuple (pe_callTy call_tuple_of (by rfl) z_tuple (by decide +kernel) (ja_cons (je_var 1 (pv 1)) ja_nil)))))))) law__law_reduce
/-! ### _law_turned_word -/
abbrev s__law_turned_word : Stmt := top 16
theorem sc__law_turned_word : FnScope ["word", "k"] ["word"] (defScope s__law_turned_word) := ⟨rfl, rfl, rfl, by decide +kernel, rfl, by decide +kernel, by decide +kernel⟩
theorem b__law_turned_word : BindP "_law_turned_word" s__law_turned_word ["word"] := fun _ _ _ _ _ _ us hl => match us, hl with | [_], _ => rfl
def m__law_turned_word : MS := (mRet (mCall sp__law_reduce (mCons (mN fTupNew (mItems [1] (mRng1 (mCons (mN bLen (mCons (mVar 0) mNil)) mNil)) (mgName 1) mYes (m1 oNeg (m2 oIx (mVar 0) (m2 oSub (m2 oSub (mN bLen (mCons (mVar 0) mNil)) (mC (.int 1))) (mVar 1)))))) mNil)))
def sp__law_turned_word : SpD := fun _ ds S R => ∃ w : List Int, ds = [wd w] ∧ w.length ≤ 100000 ∧ R (wd (red (inv w))) S
theorem len__law_turned_word : ∀ W ds T R, sp__law_turned_word W ds T R → ds.length = 1 := by
  rintro W ds T R ⟨_, rfl, _⟩
  rfl
theorem inv_get {w : List Int} {i : Nat} (h : i < w.length) : (inv w)[i]? = (w[w.length - 1 - i]?).map fun x => -x := by
  unfold inv
  rw [List.getElem?_map, List.getElem?_reverse h]
theorem law__law_turned_word : ∀ W ds T R, sp__law_turned_word W ds T R → m__law_turned_word W { nx := fun _ T' => Drop T R .non T', rt := Drop T R } (startD ["word", "k"] ds) T := by
  rintro W ds T R ⟨w, rfl, hl, h⟩
  have wlm : (w.map D.int).length = w.length := List.length_map _
  refine ⟨⟨by rw [wlm]; omega, by rw [wlm]; omega⟩, ?_⟩
  refine cLoop_inv (fun i acc S => S = T ∧ acc = ((inv w).take i).map D.int) ?_ ?_ ⟨rfl, rfl⟩
  · rintro i d acc S N hd ⟨rfl, rfl⟩ hN
    obtain ⟨hi, rfl⟩ := rangeD_get hd
    rw [wlm] at hi
    have hi : i < w.length := by omega
    have hx : w[w.length - 1 - i]? = some w[w.length - 1 - i] := List.getElem?_eq_getElem (by omega)
    generalize w[w.length - 1 - i] = x at hx
    have hv : (inv w)[i]? = some (-x) := by rw [inv_get hi, hx]; rfl
    refine ⟨trivial, br_t ⟨.int x, ?_, ?_, hN _ _ ⟨rfl, ?_⟩⟩⟩
    · rw [wlm, atI_ofNat (by omega), List.getElem?_map, show ((w.length : Int) - 1 - (0 + (i : Int))).toNat = w.length - 1 - i by omega, hx]
      rfl
    · rw [List.length_map, List.length_take, len_inv, sizeLine_eq]
      omega
    · rw [List.take_add_one, hv]
      simp
  · rintro acc S ⟨rfl, rfl⟩
    rw [rangeD_length, wlm]
    refine ⟨trivial, inv w, ?_, by rw [len_inv]; exact hl, .keep h⟩
    rw [show ((w.length : Int)).toNat = (inv w).length by rw [len_inv]; omega, List.take_length]

theorem ok__law_turned_word {P : Program} {w : World} {K : PySem.W.Frag} {mg : Str → Option Value} {base : Heap} (z_len : mg "len" = none) (z_range : mg "range" = none) (z_tuple : mg "tuple" = none) (D__law_reduce : Df P w K mg base "_law_reduce" s__law_reduce 1 ["word"] sp__law_reduce)  (a : At K mg "_law_turned_word" s__law_turned_word) : Df P w K mg base "_law_turned_word" s__law_turned_word 2 ["word"] sp__law_turned_word :=
  df_mk a fun f fd F => fn_ok (m := m__law_turned_word) F sc__law_turned_word len__law_turned_word (fun cdv A outer s H E hr =>
    (jss_one (js_ret (je_def D__law_reduce b__law_reduce (hr.mono (by decide)) (by rfl) passE (ja_cons (je_tuplc (compT_name (by decide)) (pe_callTy call_tuple_of (by rfl) z_tuple (by decide +kernel) (pa_cons (pe_lc (own := [("k", 1)]) (g := gName 1) rfl sc__law_turned_word.nd  (ji_rng1 (pi_range1 (by rfl) z_range (ja_cons (je_of_cb s_len (pe_callB call_lenAll (by rfl) z_len (by decide +kernel) (ja_cons (je_var 0 (pv 0)) ja_nil))) ja_nil))) (blkOk_by (own := [("k", 1)]) (N := ["word", "k"]) (sc := defScope s__law_turned_word) (by decide +kernel)) (fun _ _ _ _ _ => (pg_name (i := 1) sc__law_turned_word.nd rfl (Or.inl rfl))) (fun _ _ _ _ _ => jts_nil) (fun _ _ _ _ _ => (je_un un_neg s_neg (je_ix (je_var 0 (pv 0)) (je_op op_sub s_sub (je_op op_sub s_sub (je_of_cb s_len (pe_callB call_lenAll (by rfl) z_len (by decide +kernel) (ja_cons (je_var 0 (pv 0)) ja_nil))) je_int) (je_var 1 (pv 1))) (fun _ _ => rfl))))) pa_nil))) ja_nil))))) law__law_turned_word
/-! ### _law_times -/
abbrev s__law_times : Stmt := top 17
theorem sc__law_times : FnScope ["first", "second"] ["first", "second"] (defScope s__law_times) := ⟨rfl, rfl, rfl, by decide +kernel, rfl, by decide +kernel, by decide +kernel⟩
theorem b__law_times : BindP "_law_times" s__law_times ["first", "second"] := fun _ _ _ _ _ _ us hl => match us, hl with | [_, _], _ => rfl
def m__law_times : MS := (mRet (mCall sp__law_reduce (mCons (m2 oAdd (mVar 0) (mVar 1)) mNil)))
def sp__law_times : SpD := fun _ ds S R => ∃ a b : List Int, ds = [wd a, wd b] ∧ (a.length ≤ 50000 ∧ b.length ≤ 50000) ∧ R (wd (red (a ++ b))) S
theorem len__law_times : ∀ W ds T R, sp__law_times W ds T R → ds.length = 2 := by
  rintro W ds T R ⟨_, _, rfl, _⟩
  rfl
theorem law__law_times : ∀ W ds T R, sp__law_times W ds T R → m__law_times W { nx := fun _ T' => Drop T R .non T', rt := Drop T R } (startD ["first", "second"] ds) T := by
  rintro W ds T R ⟨a, b, rfl, ⟨ha, hb⟩, h⟩
  refine ⟨?_, a ++ b, by simp [wd], by rw [List.length_append]; omega, .keep h⟩
  rw [List.length_map, List.length_map, sizeLine_eq]
  omega

theorem ok__law_times {P : Program} {w : World} {K : PySem.W.Frag} {mg : Str → Option Value} {base : Heap}  (D__law_reduce : Df P w K mg base "_law_reduce" s__law_reduce 1 ["word"] sp__law_reduce)  (a : At K mg "_law_times" s__law_times) : Df P w K mg base "_law_times" s__law_times 2 ["first", "second"] sp__law_times :=
  df_mk a fun f fd F => fn_ok (m := m__law_times) F sc__law_times len__law_times (fun cdv A outer s H E hr =>
    (jss_one (js_ret (je_def D__law_reduce b__law_reduce (hr.mono (by decide)) (by rfl) passE (ja_cons (je_op op_addD s_add (je_var 0 (pv 0)) (je_var 1 (pv 1))) ja_nil))))) law__law_times
/-! ### _law_order -/
abbrev s__law_order : Stmt := top 18
theorem sc__law_order : FnScope ["word", "letter"] ["word"] (defScope s__law_order) := ⟨rfl, rfl, rfl, by decide +kernel, rfl, by decide +kernel, by decide +kernel⟩
theorem b__law_order : BindP "_law_order" s__law_order ["word"] := fun _ _ _ _ _ _ us hl => match us, hl with | [_], _ => rfl
def m__law_order : MS := (mRet (mN fTup (mCons (mN bLen (mCons (mVar 0) mNil)) (mCons (mN fTupNew (mItems [1] (mI1 fSeqI (mVar 0)) (mgName 1) mYes (m2 oSub (m2 oMul (mC (.int 2)) (mN bAbs (mCons (mVar 1) mNil))) (mN bInt (mCons (m2 oGt (mVar 1) (mC (.int 0))) mNil))))) mNil))))
def ord (l : Int) : Int := 2 * absI l - (if 0 < l then 1 else 0)
theorem ord_inj (x y : Int) (h : ord x = ord y) : x = y := by
  unfold ord absI at h
  split at h <;> split at h <;> split at h <;> split at h <;> omega
def sp__law_order : SpD := fun _ ds S R => ∃ ws : List Int, ds = [wd ws] ∧ ws.length ≤ 1000000 ∧ R (keyF ord ws) S
theorem len__law_order : ∀ W ds T R, sp__law_order W ds T R → ds.length = 1 := by
  rintro W ds T R ⟨_, rfl, _⟩
  rfl
theorem law__law_order : ∀ W ds T R, sp__law_order W ds T R → m__law_order W { nx := fun _ T' => Drop T R .non T', rt := Drop T R } (startD ["word", "letter"] ds) T := by
  rintro W ds T R ⟨ws, rfl, hl, h⟩
  refine cLoop_inv (fun i acc S => S = T ∧ acc = ((ws.take i).map ord).map D.int) ?_ ?_ ⟨rfl, rfl⟩
  · rintro i d acc S N hd ⟨rfl, rfl⟩ hN
    obtain ⟨x, hx, rfl⟩ := map_int_get hd
    have hN' := hN (((ws.take i).map ord).map D.int ++ [D.int (ord x)]) S ⟨rfl, by rw [List.take_add_one, hx]; simp⟩
    have hline : (((ws.take i).map ord).map D.int).length < sizeLine := by
      rw [List.length_map, List.length_map, List.length_take, sizeLine_eq]
      omega
    refine ⟨trivial, br_t ⟨mulS (by decide), hline, ?_⟩⟩
    have e : D.int (ord x) = D.int (2 * absI x - (if decide (0 < x) = true then 1 else 0)) := by
      unfold ord
      congr 2
      by_cases q : 0 < x
      · rw [if_pos q, if_pos (decide_eq_true q)]
      · rw [if_neg q, if_neg (by rw [decide_eq_false q]; decide)]
    rw [e] at hN'
    exact hN'
  · rintro acc S ⟨rfl, rfl⟩
    refine ⟨trivial, s2, .keep ?_⟩
    have e : keyF ord ws = .tup [.int (ws.map D.int).length, .tup (((ws.take (ws.map D.int).length).map ord).map D.int)] := by simp [keyF, wd]
    rw [e] at h
    exact h

theorem ok__law_order {P : Program} {w : World} {K : PySem.W.Frag} {mg : Str → Option Value} {base : Heap} (z_abs : mg "abs" = none) (z_int : mg "int" = none) (z_tuple : mg "tuple" = none) (z_len : mg "len" = none)   (a : At K mg "_law_order" s__law_order) : Df P w K mg base "_law_order" s__law_order 1 ["word"] sp__law_order :=
  df_mk a fun f fd F => fn_ok (m := m__law_order) F sc__law_order len__law_order (fun cdv A outer s H E hr =>
    (jss_one (js_ret (je_tup (ja_cons (je_of_cb s_len (pe_callB call_lenAll (by rfl) z_len (by decide +kernel) (ja_cons (je_var 0 (pv 0)) ja_nil))) (ja_cons (je_tuplc (compT_name (by decide)) (pe_callTy call_tuple_of (by rfl) z_tuple (by decide +kernel) (pa_cons (pe_lc (own := [("letter", 1)]) (g := gName 1) rfl sc__law_order.nd  (ji_seq (je_var 0 (pv 0))) (blkOk_by (own := [("letter", 1)]) (N := ["word", "letter"]) (sc := defScope s__law_order) (by decide +kernel)) (fun _ _ _ _ _ => (pg_name (i := 1) sc__law_order.nd rfl (Or.inl rfl))) (fun _ _ _ _ _ => jts_nil) (fun _ _ _ _ _ => (je_op op_sub s_sub (je_op op_mulD s_mul je_int (je_of_cb s_abs (pe_callB call_abs (by rfl) z_abs (by decide +kernel) (ja_cons (je_var 1 (pv 1)) ja_nil)))) (je_of_cb s_int (pe_callTy call_int1 (by rfl) z_int (by decide +kernel) (ja_cons (je_cmp op_gt s_gt (je_var 1 (pv 1)) je_int (nomark _)) ja_nil)))))) pa_nil))) ja_nil)))))) law__law_order
/-! ### _law_letters -/
abbrev s__law_letters : Stmt := top 19
theorem sc__law_letters : FnScope ["state", "many", "pegs", "k"] ["state", "many", "pegs"] (defScope s__law_letters) := ⟨rfl, rfl, rfl, by decide +kernel, rfl, by decide +kernel, by decide +kernel⟩
theorem b__law_letters : BindP "_law_letters" s__law_letters ["state", "many", "pegs"] := fun _ _ _ _ _ _ us hl => match us, hl with | [_, _, _], _ => rfl
def m__law_letters : MS := (mRet (mN fTupNew (mItems [3] (mRng1 (mCons (mVar 1) mNil)) (mgName 3) mYes (m2 oMul (m2 oAdd (mC (.int 1)) (mCall sp__law_draw (mCons (mVar 0) (mCons (mVar 2) mNil)))) (m2 oSub (mC (.int 1)) (m2 oMul (mC (.int 2)) (mCall sp__law_draw (mCons (mVar 0) (mCons (mC (.int 2)) mNil)))))))))
def sp__law_letters : SpD := fun _ ds S R => ∃ (many pegs : Int) (cs : List Int) (st : List D) (T : Sto), ds = [.ref 1, .int many, .int pegs] ∧ S = Stt cs st T ∧ GoodS st ∧ (-(2 ^ 60) < many ∧ many ≤ 100000) ∧ (0 < pegs ∧ pegs < 2 ^ 60) ∧
  ∀ ws st', GoodS st' → ws.length = many.toNat → Lets pegs ws → R (wd ws) (Stt cs st' T)
theorem len__law_letters : ∀ W ds T R, sp__law_letters W ds T R → ds.length = 3 := by
  rintro W ds T R ⟨_, _, _, _, _, rfl, _⟩
  rfl
theorem law__law_letters : ∀ W ds T R, sp__law_letters W ds T R → m__law_letters W { nx := fun _ T' => Drop T R .non T', rt := Drop T R } (startD ["state", "many", "pegs", "k"] ds) T := by
  rintro W ds T R ⟨many, pegs, cs, st, T, rfl, rfl, hg, hm, hp, h⟩
  refine ⟨⟨by omega, by omega⟩, ?_⟩
  refine cLoop_inv (fun i acc S => ∃ (ws : List Int) (st' : List D), acc = ws.map D.int ∧ ws.length = i ∧ Lets pegs ws ∧ S = Stt cs st' T ∧ GoodS st') ?_ ?_ ⟨[], st, rfl, rfl, .nil, rfl, hg⟩
  · rintro i d acc S N hd ⟨ws, st', rfl, hl, hw, rfl, hg'⟩ hN
    have hi := (rangeD_get hd).1
    refine ⟨trivial, br_t ⟨pegs, cs, st', T, rfl, rfl, hg', ⟨by omega, by omega⟩, fun v st2 hg2 v1 v2 => ⟨2, cs, st2, T, rfl, rfl, hg2, ⟨by decide, by decide⟩, fun e st3 hg3 e1 e2 => ⟨mulS (by decide), .inl (.inr (by omega)), ?_, hN _ _ ⟨ws ++ [(1 + v) * (1 - 2 * e)], st3, by simp, by simp [hl], hw.snoc ?_, rfl, hg3⟩⟩⟩⟩⟩
    · rw [List.length_map, sizeLine_eq]
      omega
    · have : e = 0 ∨ e = 1 := by omega
      rcases this with rfl | rfl <;> omega
  · rintro acc S ⟨ws, st', rfl, hl, hw, rfl, hg'⟩
    rw [rangeD_length] at hl
    exact ⟨trivial, .keep (h ws st' hg' (by omega) hw)⟩

theorem ok__law_letters {P : Program} {w : World} {K : PySem.W.Frag} {mg : Str → Option Value} {base : Heap} (z_range : mg "range" = none) (z_tuple : mg "tuple" = none) (D__law_draw : Df P w K mg base "_law_draw" s__law_draw 2 ["state", "limit"] sp__law_draw)  (a : At K mg "_law_letters" s__law_letters) : Df P w K mg base "_law_letters" s__law_letters 3 ["state", "many", "pegs"] sp__law_letters :=
  df_mk a fun f fd F => fn_ok (m := m__law_letters) F sc__law_letters len__law_letters (fun cdv A outer s H E hr =>
    (jss_one (js_ret (je_tuplc (compT_name (by decide)) (pe_callTy call_tuple_of (by rfl) z_tuple (by decide +kernel) (pa_cons (pe_lc (own := [("k", 3)]) (g := gName 3) rfl sc__law_letters.nd  (ji_rng1 (pi_range1 (by rfl) z_range (ja_cons (je_var 1 (pv 1)) ja_nil))) (blkOk_by (own := [("k", 3)]) (N := ["state", "many", "pegs", "k"]) (sc := defScope s__law_letters) (by decide +kernel)) (fun _ _ _ _ _ => (pg_name (i := 3) sc__law_letters.nd rfl (Or.inl rfl))) (fun _ _ _ _ _ => jts_nil) (fun _ _ _ _ _ => (je_op op_mulD s_mul (je_op op_addD s_add je_int (je_def D__law_draw b__law_draw (hr.mono (by decide)) (by rfl) passL (ja_cons (je_var 0 (pv 0)) (ja_cons (je_var 2 (pv 2)) ja_nil)))) (je_op op_sub s_sub je_int (je_op op_mulD s_mul je_int (je_def D__law_draw b__law_draw (hr.mono (by decide)) (by rfl) passL (ja_cons (je_var 0 (pv 0)) (ja_cons je_int ja_nil)))))))) pa_nil)))))) law__law_letters
/-! ### _law_core -/
abbrev s__law_core : Stmt := top 20
theorem sc__law_core : FnScope ["word", "row", "turn"] ["word"] (defScope s__law_core) := ⟨rfl, rfl, rfl, by decide +kernel, rfl, by decide +kernel, by decide +kernel⟩
theorem b__law_core : BindP "_law_core" s__law_core ["word"] := fun _ _ _ _ _ _ us hl => match us, hl with | [_], _ => rfl
def m__law_core : MS := (mSeq (mSet 1 (mCall sp__law_reduce (mCons (mVar 0) mNil))) (mSeq (mFor (mRng1 (mCons (mN bLen (mCons (mVar 1) mNil)) mNil)) (mgName 2) (mIfS (mAndT (mTB (m2 oGt (mN bLen (mCons (mVar 1) mNil)) (mC (.int 1)))) (mTB (m2 oEq (m2 oAdd (m2 oIx (mVar 1) (mC (.int 0))) (m2 oIx (mVar 1) (m1 oNeg (mC (.int 1))))) (mC (.int 0))))) (mSet 1 (mCut (mVar 1) (mPart (mC (.int 1))) (mPart (m1 oNeg (mC (.int 1)))))) mSkip)) (mRet (mVar 1))))
def sp__law_core : SpD := fun _ ds S R => ∃ w : List Int, ds = [wd w] ∧ w.length ≤ 100000 ∧ R (wd (core w)) S
theorem len__law_core : ∀ W ds T R, sp__law_core W ds T R → ds.length = 1 := by
  rintro W ds T R ⟨_, rfl, _⟩
  rfl
theorem law__law_core : ∀ W ds T R, sp__law_core W ds T R → m__law_core W { nx := fun _ T' => Drop T R .non T', rt := Drop T R } (startD ["word", "row", "turn"] ds) T := by
  rintro W ds T R ⟨w, rfl, hl, h⟩
  refine ⟨w, rfl, hl, ?_⟩
  have hr := len_red w
  unfold core at h
  generalize red w = r at hr h
  have rlm : (r.map D.int).length = r.length := List.length_map _
  refine ⟨⟨by rw [rlm]; omega, by rw [rlm]; omega⟩, ?_⟩
  refine mLoop_inv (fun i ρ S => S = T ∧ ∃ a : Option D, ρ = [some (wd w), some (wd (mid r (cutI r i))), a]) ?_ ?_ ⟨rfl, _, by show _ = [some (wd w), some (wd (mid r 0)), _]; rw [mid_zero]; rfl⟩
  · rintro i d ρ S N hd ⟨rfl, a, rfl⟩ hN
    have h2 := cutI_two r i
    have hN' : ∀ n, n = stepC r (cutI r i) → N [some (wd w), some (wd (mid r n)), some d] S := fun n e => hN _ _ ⟨rfl, some d, by rw [e]; rfl⟩
    generalize cutI r i = n at h2 hN'
    have hml := mid_len h2
    have mlm : ((mid r n).map D.int).length = r.length - 2 * n := by rw [List.length_map, hml]
    refine ⟨trivial, fun e => ?_, fun e => ?_⟩
    · have e : (1 : Int) < ((mid r n).map D.int).length := of_decide_eq_true e
      rw [mlm] at e
      have hlt : 1 + 2 * n < r.length := by omega
      have ha : r[n]? = some r[n] := List.getElem?_eq_getElem (by omega)
      have hb : r[r.length - 1 - n]? = some r[r.length - 1 - n] := List.getElem?_eq_getElem (by omega)
      have ms := mid_step hlt
      rw [getD_get (by omega), getD_get (by omega)] at ms
      generalize r[n] = a at ha ms
      generalize r[r.length - 1 - n] = b at hb ms
      have em : (mid r n).map D.int = D.int a :: ((mid r (n + 1)).map D.int ++ [D.int b]) := by rw [ms]; simp
      have at0 : atI ((mid r n).map D.int) 0 = some (.int a) := by rw [em]; exact atI_zero
      have at1 : atI ((mid r n).map D.int) (-1) = some (.int b) := by rw [em]; exact atI_last (D.int a :: (mid r (n + 1)).map D.int) (D.int b)
      refine ⟨.int a, at0, .int b, at1, fun e2 => ?_, fun e2 => ?_⟩
      · have e2 : a + b = 0 := of_decide_eq_true e2
        have q := hN' (n + 1) (by rw [stepC, if_pos (meet_yes hlt ha hb (by omega))])
        have er : wd (mid r (n + 1)) = .tup (cutD ((mid r n).map D.int) (some 1) (some (-1))) := by rw [em, cut_ends]
        rw [er] at q
        exact q
      · have e2 : ¬ a + b = 0 := of_decide_eq_false e2
        have q := hN' n (by rw [stepC, if_neg (by rw [meet_no ha hb (by omega)]; decide)])
        exact q
    · have e : ¬ (1 : Int) < ((mid r n).map D.int).length := of_decide_eq_false e
      rw [mlm] at e
      exact br_f (hN' n (by rw [stepC, if_neg (by rw [meet_end (by omega)]; decide)]))
  · rintro ρ S ⟨rfl, a, rfl⟩
    rw [rangeD_length, rlm, Int.toNat_natCast]
    exact ⟨trivial, .keep h⟩

theorem ok__law_core {P : Program} {w : World} {K : PySem.W.Frag} {mg : Str → Option Value} {base : Heap} (z_len : mg "len" = none) (z_range : mg "range" = none) (D__law_reduce : Df P w K mg base "_law_reduce" s__law_reduce 1 ["word"] sp__law_reduce)  (a : At K mg "_law_core" s__law_core) : Df P w K mg base "_law_core" s__law_core 2 ["word"] sp__law_core :=
  df_mk a fun f fd F => fn_ok (m := m__law_core) F sc__law_core len__law_core (fun cdv A outer s H E hr =>
    (jss_cons (js_set (i := 1) sc__law_core.nd rfl (by first | exact .inl rfl | exact .inr rfl) (je_def D__law_reduce b__law_reduce (hr.mono (by decide)) (by rfl) passE (ja_cons (je_var 0 (pv 0)) ja_nil)))
      (jss_cons (js_for ownE rfl (ji_rng1 (pi_range1 (by rfl) z_range (ja_cons (je_of_cb s_len (pe_callB call_lenAll (by rfl) z_len (by decide +kernel) (ja_cons (je_var 1 (pv 1)) ja_nil))) ja_nil))) (jg_name (pg_name (i := 2) sc__law_core.nd rfl (by first | exact .inl rfl | exact .inr rfl))) (jss_one (js_if (jw_pt (jw_and (jt_cmp op_gt s_gt (je_of_cb s_len (pe_callB call_lenAll (by rfl) z_len (by decide +kernel) (ja_cons (je_var 1 (pv 1)) ja_nil))) je_int (nomark _)) (jw_and1 (jt_cmp (op_eqD hr.units) s_eq (je_op op_addD s_add (je_ix (je_var 1 (pv 1)) je_int (fun _ _ => rfl)) (je_ix (je_var 1 (pv 1)) (je_un un_neg s_neg je_int) (fun _ _ => rfl))) je_int (nomark _))))) (jss_one (js_set (i := 1) sc__law_core.nd rfl (by first | exact .inl rfl | exact .inr rfl) (je_cut (je_var 1 (pv 1)) (jo_some je_int) (jo_some (je_un un_neg s_neg je_int))))) jss_nil)))
      (jss_one (js_ret (je_var 1 (pv 1))))))) law__law_core
/-! ### _law_round -/
abbrev s__law_round : Stmt := top 21
theorem sc__law_round : FnScope ["word", "row", "best", "k", "turned_row"] ["word"] (defScope s__law_round) := ⟨rfl, rfl, rfl, by decide +kernel, rfl, by decide +kernel, by decide +kernel⟩
theorem b__law_round : BindP "_law_round" s__law_round ["word"] := fun _ _ _ _ _ _ us hl => match us, hl with | [_], _ => rfl
def m__law_round : MS := (mSeq (mSet 1 (mCall sp__law_core (mCons (mVar 0) mNil))) (mSeq (mSet 2 (mVar 1)) (mSeq (mFor (mRng1 (mCons (mN bLen (mCons (mVar 1) mNil)) mNil)) (mgName 3) (mSeq (mSet 4 (m2 oAdd (mCut (mVar 1) (mPart (mVar 3)) mNo) (mCut (mVar 1) mNo (mPart (mVar 3))))) (mIfS (mTB (m2 oLtD (mCall sp__law_order (mCons (mVar 4) mNil)) (mCall sp__law_order (mCons (mVar 2) mNil)))) (mSet 2 (mVar 4)) mSkip))) (mRet (mVar 2)))))
def sp__law_round : SpD := fun _ ds S R => ∃ w : List Int, ds = [wd w] ∧ w.length ≤ 100000 ∧ ∀ b, Least ord (core w) b → R (wd b) S
theorem len__law_round : ∀ W ds T R, sp__law_round W ds T R → ds.length = 1 := by
  rintro W ds T R ⟨_, rfl, _⟩
  rfl
theorem law__law_round : ∀ W ds T R, sp__law_round W ds T R → m__law_round W { nx := fun _ T' => Drop T R .non T', rt := Drop T R } (startD ["word", "row", "best", "k", "turned_row"] ds) T := by
  rintro W ds T R ⟨w, rfl, hl, h⟩
  refine ⟨w, rfl, hl, ?_⟩
  have hc := len_core w
  generalize core w = c at hc h
  have clm : (c.map D.int).length = c.length := List.length_map _
  refine ⟨⟨by rw [clm]; omega, by rw [clm]; omega⟩, ?_⟩
  refine mLoop_inv (fun i ρ S => S = T ∧ ∃ (b : List Int) (u v : Option D), ρ = [some (wd w), some (wd c), some (wd b), u, v] ∧ IsRot c b ∧ ∀ k, k < i → kL ((rot c k).map ord) (b.map ord) = false) ?_ ?_ ⟨rfl, c, _, _, rfl, .refl c, fun k hk => by omega⟩
  · rintro i d ρ S N hd ⟨rfl, b, u, v, rfl, hb, hk⟩ hN
    obtain ⟨hi, rfl⟩ := rangeD_get hd
    rw [clm] at hi
    have hi : i < c.length := by omega
    rw [show (0 : Int) + (i : Int) = (i : Int) by omega]
    have hbl := hb.len
    have hrl := (rot_is c i).len
    refine ⟨trivial, rot_line (by omega), ?_⟩
    have ct : (rot c i).length = b.length := by omega
    have cmp : ∀ x y : List Int, x.length = y.length → ltD (keyF ord x) (keyF ord y) = kL (x.map ord) (y.map ord) := fun x y e => by rw [lt_keys, precF, if_pos e]
    refine ⟨rot c i, by rw [rot_row (by omega)], by omega, b, rfl, by omega, ⟨pd_key, pd_key, like_keys _ _ _⟩, fun e => ?_, fun e => ?_⟩
    · have e : ltD (keyF ord (rot c i)) (keyF ord b) = true := e
      rw [cmp _ _ ct] at e
      have q := hN [some (wd w), some (wd c), some (wd (rot c i)), some (.int i), some (wd (rot c i))] S ⟨rfl, rot c i, _, _, rfl, rot_is c i, fun k hk' => ?_⟩
      · have er : wd (rot c i) = .tup (cutD (c.map D.int) (some (i : Int)) none ++ cutD (c.map D.int) none (some (i : Int))) := by rw [rot_row (by omega)]
        rw [er] at q
        exact q
      · by_cases z : k = i
        · rw [z]
          exact kL_irr
        · have old := hk k (by omega)
          cases t : kL ((rot c k).map ord) ((rot c i).map ord) with
          | false => rfl
          | true =>
            have := kL_trans (by have := (rot_is c k).len; simp; omega) (by simp; omega) t e
            rw [this] at old
            cases old
    · have e : ltD (keyF ord (rot c i)) (keyF ord b) = false := e
      rw [cmp _ _ ct] at e
      refine hN _ _ ⟨rfl, b, _, _, rfl, hb, fun k hk' => ?_⟩
      by_cases z : k = i
      · rw [z]
        exact e
      · exact hk k (by omega)
  · rintro ρ S ⟨rfl, b, u, v, rfl, hb, hk⟩
    rw [rangeD_length, clm, Int.toNat_natCast] at hk
    refine ⟨trivial, .keep (h b ⟨hb, fun d hd => ?_⟩)⟩
    by_cases z : c = []
    · subst z
      have e1 : d = [] := List.eq_nil_of_length_eq_zero hd.len.symm
      have e2 : b = [] := List.eq_nil_of_length_eq_zero hb.len.symm
      rw [e1, e2]
      rfl
    · obtain ⟨k, hkl, rfl⟩ := is_rot_lt hd z
      exact hk k hkl

theorem ok__law_round {P : Program} {w : World} {K : PySem.W.Frag} {mg : Str → Option Value} {base : Heap} (z_len : mg "len" = none) (z_range : mg "range" = none) (D__law_core : Df P w K mg base "_law_core" s__law_core 2 ["word"] sp__law_core) (D__law_order : Df P w K mg base "_law_order" s__law_order 1 ["word"] sp__law_order)  (a : At K mg "_law_round" s__law_round) : Df P w K mg base "_law_round" s__law_round 3 ["word"] sp__law_round :=
  df_mk a fun f fd F => fn_ok (m := m__law_round) F sc__law_round len__law_round (fun cdv A outer s H E hr =>
    (jss_cons (js_set (i := 1) sc__law_round.nd rfl (by first | exact .inl rfl | exact .inr rfl) (je_def D__law_core b__law_core (hr.mono (by decide)) (by rfl) passE (ja_cons (je_var 0 (pv 0)) ja_nil)))
      (jss_cons (js_set (i := 2) sc__law_round.nd rfl (by first | exact .inl rfl | exact .inr rfl) (je_var 1 (pv 1)))
      (jss_cons (js_for ownE rfl (ji_rng1 (pi_range1 (by rfl) z_range (ja_cons (je_of_cb s_len (pe_callB call_lenAll (by rfl) z_len (by decide +kernel) (ja_cons (je_var 1 (pv 1)) ja_nil))) ja_nil))) (jg_name (pg_name (i := 3) sc__law_round.nd rfl (by first | exact .inl rfl | exact .inr rfl))) (jss_cons (js_set (i := 4) sc__law_round.nd rfl (by first | exact .inl rfl | exact .inr rfl) (je_op op_addD s_add (je_cut (je_var 1 (pv 1)) (jo_some (je_var 3 (pv 3))) jo_none) (je_cut (je_var 1 (pv 1)) jo_none (jo_some (je_var 3 (pv 3))))))
      (jss_one (js_if (jt_cmp (op_ltD hr.units) s_rD (je_def D__law_order b__law_order (hr.mono (by decide)) (by rfl) passE (ja_cons (je_var 4 (pv 4)) ja_nil)) (je_def D__law_order b__law_order (hr.mono (by decide)) (by rfl) passE (ja_cons (je_var 2 (pv 2)) ja_nil)) (nomark _)) (jss_one (js_set (i := 2) sc__law_round.nd rfl (by first | exact .inl rfl | exact .inr rfl) (je_var 4 (pv 4)))) jss_nil))))
      (jss_one (js_ret (je_var 2 (pv 2)))))))) law__law_round
/-! ### _law_holds -/
abbrev s__law_holds : Stmt := top 22
theorem sc__law_holds : FnScope ["first", "second", "told", "one"] ["first", "second"] (defScope s__law_holds) := ⟨rfl, rfl, rfl, by decide +kernel, rfl, by decide +kernel, by decide +kernel⟩
theorem b__law_holds : BindP "_law_holds" s__law_holds ["first", "second"] := fun _ _ _ _ _ _ us hl => match us, hl with | [_, _], _ => rfl
def m__law_holds : MS := (mSeq (mSet 2 (mCall sp_conjugator (mCons (mVar 0) (mCons (mVar 1) mNil)))) (mSeq (mIfS (mTB (m2 oNe (mCall sp__law_round (mCons (mVar 0) mNil)) (mCall sp__law_round (mCons (mVar 1) mNil)))) (mRet (m2 oIsN (mVar 2) (mC .non))) mSkip) (mSeq (mIfS (mOrT (mNotT (mTru (mIsi .tuple (mVar 2)))) (mTB (m2 oNe (mN fNew (mItems [3] (mI1 fSeqI (mVar 2)) (mgName 3) (mOrT (mNotT (mTru (mCall sp__law_whole (mCons (mVar 3) (mCons (m1 oNeg (mC (.int 99))) (mCons (mC (.int 99)) mNil)))))) (mTB (m2 oEq (mVar 3) (mC (.int 0))))) (mC (.int 1)))) (mN fLst mNil)))) (mRet (mC (.bl false))) mSkip) (mSeq (mIfS (mOrT (mTB (m2 oNe (mCall sp__law_reduce (mCons (mVar 2) mNil)) (mVar 2))) (mTB (m2 oGt (mN bLen (mCons (mVar 2) mNil)) (mC (.int 2000))))) (mRet (mC (.bl false))) mSkip) (mRet (m2 oEq (mCall sp__law_times (mCons (mCall sp__law_times (mCons (mVar 2) (mCons (mVar 0) mNil))) (mCons (mCall sp__law_turned_word (mCons (mVar 2) mNil)) mNil))) (mCall sp__law_reduce (mCons (mVar 1) mNil))))))))
theorem stk_mem (w : List Int) : ∀ x ∈ stk w, x ∈ w := by
  induction w using snoc_ind with
  | h0 => intro x hx; exact hx
  | h1 w y ih =>
    intro x hx
    rw [stk_snoc] at hx
    generalize stk w = k at hx ih
    cases k with
    | nil =>
      simp [pu] at hx
      simp [hx]
    | cons z t =>
      rw [pu_cons] at hx
      split at hx
      · exact List.mem_append_left _ (ih x (List.mem_cons_of_mem _ hx))
      · rcases List.mem_cons.mp hx with rfl | hx
        · simp
        · exact List.mem_append_left _ (ih x hx)
theorem Lets.red {p : Int} {w : List Int} (h : Lets p w) : Lets p (red w) := h.sub fun x hx => stk_mem w x (by simpa [MP.red] using hx)
theorem Lets.inv {p : Int} {w : List Int} (h : Lets p w) : Lets p (inv w) := fun x hx => by
  simp only [MP.inv, List.mem_map, List.mem_reverse] at hx
  obtain ⟨y, hy, rfl⟩ := hx
  have := h y hy
  omega
theorem Lets.tip {p : Int} {w : List Int} (h : Lets p w) : Lets p (tip w) := h.red.sub fun x hx => List.mem_of_mem_take hx
theorem Lets.core {p : Int} {w : List Int} (h : Lets p w) : Lets p (core w) := h.red.sub fun x hx => List.mem_of_mem_drop (List.mem_of_mem_take hx)
theorem told_lets {a b u v : List Int} {p : Int} (ha : Lets p a) (hb : Lets p b) (e : core a = u ++ v) : Lets p (toldW a b u) := by
  have hu : Lets p u := ha.core.sub fun x hx => by rw [e]; exact List.mem_append_left _ hx
  exact (hb.tip.app (hu.red.inv.app ha.tip.red.inv).red).red
theorem told_len {a b u v : List Int} (e : core a = u ++ v) : (toldW a b u).length ≤ 2 * a.length + b.length := by
  have h1 := len_red (tip b ++ red (inv (red u) ++ inv (red (tip a))))
  have h2 := len_red (inv (red u) ++ inv (red (tip a)))
  have h3 := len_red u
  have h4 := len_red (tip a)
  have h5 := len_tip a
  have h6 := len_tip b
  have h7 := len_core a
  rw [e] at h7
  simp only [List.length_append, len_inv] at h1 h2 h7
  unfold toldW
  omega
theorem told_carries {a b u v : List Int} (h1 : core a = u ++ v) (h2 : core b = v ++ u) : red (red (toldW a b u ++ a) ++ red (inv (toldW a b u))) = red b := by
  rw [red_left, red_right]
  have pa : Acts a (tip a ++ (u ++ v) ++ inv (tip a)) := by
    have := (Acts.red a).symm
    rwa [parts a, h1] at this
  have pb : Acts b (tip b ++ (v ++ u) ++ inv (tip b)) := by
    have := (Acts.red b).symm
    rwa [parts b, h2] at this
  have t0 : Acts (toldW a b u) (tip b ++ (inv u ++ inv (tip a))) := (Acts.red _).trans ((Acts.refl _).app ((Acts.red _).trans ((Acts.red u).inv.app (Acts.red (tip a)).inv)))
  exact (((t0.app (Acts.refl a)).app t0.inv).trans (carry pa pb)).red_eq
def sp__law_holds : SpD := fun _ ds S R => ∃ a b : List Int, ds = [wd a, wd b] ∧ (a.length ≤ 500 ∧ b.length ≤ 500) ∧ Lets 99 a ∧ Lets 99 b ∧ R (.bl true) S
theorem len__law_holds : ∀ W ds T R, sp__law_holds W ds T R → ds.length = 2 := by
  rintro W ds T R ⟨_, _, rfl, _⟩
  rfl
theorem law__law_holds : ∀ W ds T R, sp__law_holds W ds T R → m__law_holds W { nx := fun _ T' => Drop T R .non T', rt := Drop T R } (startD ["first", "second", "told", "one"] ds) T := by
  rintro W ds T R ⟨a, b, rfl, ⟨ha, hb⟩, la, lb, h⟩
  have a1 : a.length ≤ 100000 := by omega
  have b1 : b.length ≤ 100000 := by omega
  refine ⟨a, b, rfl, ⟨by omega, by omega⟩, fun hn => ?_, fun u v h1 h2 => ?_⟩
  · refine ⟨a, rfl, a1, fun x hx => ⟨b, rfl, b1, fun y hy => ⟨⟨pd_wd, pd_wd⟩, fun e => .keep h, fun e => ?_⟩⟩⟩
    have e : (!deq (wd x) (wd y)) = false := e
    rw [deq_wd] at e
    have e : x = y := by simpa using e
    subst e
    exact absurd (hx.rot hy) hn
  · have hrot : IsRot (core a) (core b) := ⟨u, v, h1, h2⟩
    have tl := told_len (b := b) h1
    have tL := told_lets la lb h1
    have tc := told_carries h1 h2
    have trd : red (toldW a b u) = toldW a b u := red_red _
    generalize toldW a b u = t at tl tL tc trd
    refine ⟨a, rfl, a1, fun x hx => ⟨b, rfl, b1, fun y hy => ⟨⟨pd_wd, pd_wd⟩, fun e => ?_, fun e => ?_⟩⟩⟩
    · have e : (!deq (wd x) (wd y)) = true := e
      rw [deq_wd, hx.same ord_inj hy hrot] at e
      simp at e
    · refine ⟨trivial, br_f ?_⟩
      refine cLoop_inv (fun i acc S => acc = [] ∧ S = T) ?_ ?_ ⟨rfl, rfl⟩
      · rintro i d acc S N hd ⟨rfl, rfl⟩ hN
        obtain ⟨x, hx, rfl⟩ := map_int_get hd
        have q := tL x (List.mem_of_getElem? hx)
        refine ⟨trivial, x, -99, 99, rfl, ⟨q.2.1, q.2.2⟩, br_f ⟨fun e => ?_, fun _ => hN _ _ ⟨rfl, rfl⟩⟩⟩
        have e : x = 0 := of_decide_eq_true e
        exact absurd e q.1
      · rintro acc S ⟨rfl, rfl⟩
        have t1 : t.length ≤ 100000 := by omega
        have l1 := len_red (t ++ a)
        have l2 := len_red (inv t)
        rw [List.length_append] at l1
        rw [len_inv] at l2
        refine ⟨trivial, side_line rfl, [], at_app at_snoc, [], at_snoc, ⟨rfl, rfl⟩, br_f ⟨t, rfl, t1, ⟨pd_wd, pd_wd⟩, fun e => ?_, fun _ => ⟨fun e => ?_, fun _ => ?_⟩⟩⟩
        · have e : (!deq (wd (red t)) (wd t)) = true := e
          rw [deq_wd, trd] at e
          simp at e
        · have e : (2000 : Int) < (t.map D.int).length := of_decide_eq_true e
          rw [List.length_map] at e
          omega
        · refine ⟨t, a, rfl, ⟨by omega, by omega⟩, t, rfl, t1, red (t ++ a), red (inv t), rfl, ⟨by omega, by omega⟩, b, rfl, b1, ⟨pd_wd, pd_wd⟩, ?_⟩
          have e : deq (wd (red (red (t ++ a) ++ red (inv t)))) (wd (red b)) = true := by rw [deq_wd, tc]; simp
          rw [← e] at h
          rw [List.append_assoc]
          exact Drop.all h rfl

theorem ok__law_holds {P : Program} {w : World} {K : PySem.W.Frag} {mg : Str → Option Value} {base : Heap} (z_isinstance : mg "isinstance" = none) (z_tuple : mg "tuple" = none) (z_len : mg "len" = none) (D_conjugator : Df P w K mg base "conjugator" s_conjugator 4 ["first", "second"] sp_conjugator) (D__law_round : Df P w K mg base "_law_round" s__law_round 3 ["word"] sp__law_round) (D__law_whole : Df P w K mg base "_law_whole" s__law_whole 1 ["value", "low", "high"] sp__law_whole) (D__law_reduce : Df P w K mg base "_law_reduce" s__law_reduce 1 ["word"] sp__law_reduce) (D__law_times : Df P w K mg base "_law_times" s__law_times 2 ["first", "second"] sp__law_times) (D__law_turned_word : Df P w K mg base "_law_turned_word" s__law_turned_word 2 ["word"] sp__law_turned_word)  (a : At K mg "_law_holds" s__law_holds) : Df P w K mg base "_law_holds" s__law_holds 5 ["first", "second"] sp__law_holds :=
  df_mk a fun f fd F => fn_ok (m := m__law_holds) F sc__law_holds len__law_holds (fun cdv A outer s H E hr =>
    (jss_cons (js_set (i := 2) sc__law_holds.nd rfl (by first | exact .inl rfl | exact .inr rfl) (je_def D_conjugator b_conjugator (hr.mono (by decide)) (by rfl) passE (ja_cons (je_var 0 (pv 0)) (ja_cons (je_var 1 (pv 1)) ja_nil))))
      (jss_cons (js_if (jt_cmp (op_neD hr.units) s_ne (je_def D__law_round b__law_round (hr.mono (by decide)) (by rfl) passE (ja_cons (je_var 0 (pv 0)) ja_nil)) (je_def D__law_round b__law_round (hr.mono (by decide)) (by rfl) passE (ja_cons (je_var 1 (pv 1)) ja_nil)) (nomark _)) (jss_one (js_ret (je_cmp op_isN s_isN (je_var 2 (pv 2)) je_non (nomark _)))) jss_nil)
      (jss_cons (js_if (jw_pt (jw_or (jt_not (jt_tru (je_isi .tuple (pe_callB call_isi (by rfl) z_isinstance (by decide +kernel) (pa_cons (je_var 2 (pv 2)) (pa_cons (pe_bltn (v := .ty "tuple") (by rfl) z_tuple (by decide +kernel) rfl) pa_nil)))))) (jw_or1 (jt_cmp (op_neD hr.units) s_ne (je_lc (compT_name (by decide)) (pe_lc (own := [("one", 3)]) (g := gName 3) rfl sc__law_holds.nd  (ji_seq (je_var 2 (pv 2))) (blkOk_by (own := [("one", 3)]) (N := ["first", "second", "told", "one"]) (sc := defScope s__law_holds) (by decide +kernel)) (fun _ _ _ _ _ => (pg_name (i := 3) sc__law_holds.nd rfl (Or.inl rfl))) (fun _ _ _ _ _ => (pts_one (jw_pt (jw_or (jt_not (jt_tru (je_def D__law_whole b__law_whole (hr.mono (by decide)) (by rfl) passL (ja_cons (je_var 3 (pv 3)) (ja_cons (je_un un_neg s_neg je_int) (ja_cons je_int ja_nil)))))) (jw_or1 (jt_cmp (op_eqD hr.units) s_eq (je_var 3 (pv 3)) je_int (nomark _))))))) (fun _ _ _ _ _ => je_int))) (je_lst ja_nil) (nomark _))))) (jss_one (js_ret je_bl)) jss_nil)
      (jss_cons (js_if (jw_pt (jw_or (jt_cmp (op_neD hr.units) s_ne (je_def D__law_reduce b__law_reduce (hr.mono (by decide)) (by rfl) passE (ja_cons (je_var 2 (pv 2)) ja_nil)) (je_var 2 (pv 2)) (nomark _)) (jw_or1 (jt_cmp op_gt s_gt (je_of_cb s_len (pe_callB call_lenAll (by rfl) z_len (by decide +kernel) (ja_cons (je_var 2 (pv 2)) ja_nil))) je_int (nomark _))))) (jss_one (js_ret je_bl)) jss_nil)
      (jss_one (js_ret (je_cmp (op_eqD hr.units) s_eq (je_def D__law_times b__law_times (hr.mono (by decide)) (by rfl) passE (ja_cons (je_def D__law_times b__law_times (hr.mono (by decide)) (by rfl) passE (ja_cons (je_var 2 (pv 2)) (ja_cons (je_var 0 (pv 0)) ja_nil))) (ja_cons (je_def D__law_turned_word b__law_turned_word (hr.mono (by decide)) (by rfl) passE (ja_cons (je_var 2 (pv 2)) ja_nil)) ja_nil))) (je_def D__law_reduce b__law_reduce (hr.mono (by decide)) (by rfl) passE (ja_cons (je_var 1 (pv 1)) ja_nil)) (nomark _))))))))) law__law_holds
/-! ### law -/
abbrev s_law : Stmt := top 23
theorem sc_law : FnScope ["script", "state", "rows", "turn", "pegs", "word", "row", "at", "ends", "other", "first", "second"] ["script"] (defScope s_law) := ⟨rfl, rfl, rfl, by decide +kernel, rfl, by decide +kernel, by decide +kernel⟩
theorem b_law : BindP "law" s_law ["script"] := fun _ _ _ _ _ _ us hl => match us, hl with | [_], _ => rfl
def m_law : MS := (mSeq (mSet 1 (mCall sp__law_begin (mCons (mVar 0) mNil))) (mSeq (mSet 2 (mN fLst (mCons (mN fTup (mCons (mN fTup mNil) (mCons (mN fTup mNil) mNil))) (mCons (mN fTup (mCons (mN fTup mNil) (mCons (mN fTup (mCons (mC (.int 1)) mNil)) mNil))) (mCons (mN fTup (mCons (mN fTup (mCons (mC (.int 1)) mNil)) (mCons (mN fTup mNil) mNil))) (mCons (mN fTup (mCons (mN fTup (mCons (mC (.int 1)) (mCons (mC (.int 2)) mNil))) (mCons (mN fTup (mCons (mC (.int 2)) (mCons (mC (.int 1)) mNil))) mNil))) (mCons (mN fTup (mCons (mN fTup (mCons (mC (.int 1)) mNil)) (mCons (mN fTup (mCons (m1 oNeg (mC (.int 1))) mNil)) mNil))) (mCons (mN fTup (mCons (mN fTup (mCons (mC (.int 1)) (mCons (mC (.int 2)) (mCons (m1 oNeg (mC (.int 1))) mNil)))) (mCons (mN fTup (mCons (mC (.int 2)) mNil)) mNil))) (mCons (mN fTup (mCons (mN fTup (mCons (mC (.int 1)) (mCons (mC (.int 1)) mNil))) (mCons (mN fTup (mCons (mC (.int 1)) (mCons (mC (.int 1)) (mCons (mC (.int 1)) mNil)))) mNil))) (mCons (mN fTup (mCons (mN fTup (mCons (mC (.int 1)) (mCons (m1 oNeg (mC (.int 1))) mNil))) (mCons (mN fTup mNil) mNil))) mNil)))))))))) (mSeq (mFor (mRng1 (mCons (mC (.int 5)) mNil)) (mgName 3) (mSeq (mSet 4 (mCall sp__law_pick (mCons (mVar 1) (mCons (mN fLst (mCons (mC (.int 1)) (mCons (mC (.int 2)) (mCons (mC (.int 3)) (mCons (mC (.int 99)) mNil))))) mNil)))) (mSeq (mSet 5 (m2 oMulT (mCall sp__law_letters (mCons (mVar 1) (mCons (mCall sp__law_draw (mCons (mVar 1) (mCons (mC (.int 9)) mNil))) (mCons (mVar 4) mNil)))) (m2 oAdd (mC (.int 1)) (mCall sp__law_draw (mCons (mVar 1) (mCons (mC (.int 3)) mNil)))))) (mSeq (mSet 6 (mCall sp__law_reduce (mCons (mVar 5) mNil))) (mSeq (mSet 7 (mCall sp__law_draw (mCons (mVar 1) (mCons (m2 oAdd (mN bLen (mCons (mVar 6) mNil)) (mC (.int 1))) mNil)))) (mSeq (mSet 8 (mN fLst (mCons (mCall sp__law_letters (mCons (mVar 1) (mCons (mCall sp__law_draw (mCons (mVar 1) (mCons (mC (.int 6)) mNil))) (mCons (mVar 4) mNil)))) (mCons (mCall sp__law_letters (mCons (mVar 1) (mCons (mCall sp__law_draw (mCons (mVar 1) (mCons (mC (.int 6)) mNil))) (mCons (mVar 4) mNil)))) mNil)))) (mSeq (mSet 9 (m2 oAdd (m2 oAdd (m2 oAdd (m2 oIx (mVar 8) (mC (.int 0))) (mCut (mVar 6) (mPart (mVar 7)) mNo)) (mCut (mVar 6) mNo (mPart (mVar 7)))) (mCall sp__law_turned_word (mCons (m2 oIx (mVar 8) (mC (.int 0))) mNil)))) (mSeq (mSet 2 (m2 oAdd (mVar 2) (mN fLst (mCons (mN fTup (mCons (mVar 5) (mCons (mVar 9) mNil))) (mCons (mN fTup (mCons (m2 oAdd (m2 oAdd (m2 oIx (mVar 8) (mC (.int 1))) (mVar 5)) (mCall sp__law_turned_word (mCons (m2 oIx (mVar 8) (mC (.int 1))) mNil))) (mCons (mVar 9) mNil))) (mCons (mN fTup (mCons (mVar 9) (mCons (mVar 5) mNil))) mNil)))))) (mSet 2 (m2 oAdd (mVar 2) (mN fLst (mCons (mN fTup (mCons (mVar 5) (mCons (mCall sp__law_turned_word (mCons (mVar 9) mNil)) mNil))) (mCons (mN fTup (mCons (mVar 5) (mCons (m2 oAdd (mVar 9) (mCall sp__law_letters (mCons (mVar 1) (mCons (mC (.int 1)) (mCons (mVar 4) mNil))))) mNil))) (mCons (mN fTup (mCons (mVar 5) (mCons (mCall sp__law_letters (mCons (mVar 1) (mCons (mN bLen (mCons (mVar 5) mNil)) (mCons (mVar 4) mNil)))) mNil))) mNil)))))))))))))) (mSeq (mIfS (mTB (m2 oEq (mCall sp__law_draw (mCons (mVar 1) (mCons (mC (.int 8)) mNil))) (mC (.int 0)))) (mExpr (mMeth lAppend (mVar 2) (mCons (mN fTup (mCons (m2 oMulT (mN fTup (mCons (mC (.int 1)) (mCons (mC (.int 2)) (mCons (mC (.int 2)) (mCons (mC (.int 3)) mNil))))) (mC (.int 50))) (mCons (m2 oMulT (mN fTup (mCons (mC (.int 2)) (mCons (mC (.int 3)) (mCons (mC (.int 1)) (mCons (mC (.int 2)) mNil))))) (mC (.int 50))) mNil))) mNil))) mSkip) (mSeq (mFor (mI1 fSeqI (mVar 2)) (mgTup 2 (mgCons (mgName 10) (mgCons (mgName 11) mgNil))) (mIfS (mNotT (mTru (mCall sp__law_holds (mCons (mVar 10) (mCons (mVar 11) mNil))))) (mRet (mC (.bl false))) mSkip)) (mRet (m2 oIsN (mCallK sp_conjugator 0 2 [1, 0] mNil (mCons (mN fTup (mCons (mC (.int 1)) (mCons (mC (.int 2)) mNil))) (mCons (mN fTup (mCons (mC (.int 2)) (mCons (mC (.int 2)) (mCons (mC (.int 1)) mNil)))) mNil))) (mC .non))))))))
def RowH (r : D) : Prop := ∃ a b : List Int, r = .tup [wd a, wd b] ∧ (a.length ≤ 500 ∧ b.length ≤ 500) ∧ Lets 99 a ∧ Lets 99 b
theorem RowH.of {a b : List Int} {x y : List D} (hx : x = a.map D.int) (hy : y = b.map D.int) (ha : a.length ≤ 500) (hb : b.length ≤ 500) (la : Lets 99 a) (lb : Lets 99 b) : RowH (.tup [.tup x, .tup y]) := ⟨a, b, by rw [hx, hy], ⟨ha, hb⟩, la, lb⟩
theorem rep_map (n : Nat) (gr : List Int) : (List.replicate n (gr.map D.int)).flatten = ((List.replicate n gr).flatten).map D.int := by simp [List.map_flatten]
theorem rep_len (n : Nat) (gr : List Int) : ((List.replicate n gr).flatten).length = n * gr.length := by simp
theorem Lets.rep {p : Int} {w : List Int} (h : Lets p w) (n : Nat) : Lets p (List.replicate n w).flatten := fun x hx => by
  simp only [List.mem_flatten, List.mem_replicate] at hx
  obtain ⟨l, ⟨_, rfl⟩, hx⟩ := hx
  exact h x hx
theorem cutD_len {α : Type} (xs : List α) (lo hi : Option Int) : (cutD xs lo hi).length ≤ xs.length := by
  unfold cutD
  rw [List.length_take, List.length_drop]
  omega
theorem Lets.cut {p : Int} {w : List Int} (h : Lets p w) (lo hi : Option Int) : Lets p (cutD w lo hi) := h.sub fun x hx => List.mem_of_mem_drop (List.mem_of_mem_take hx)
theorem lets_lit {ws : List Int} (h : ws.all (fun x => !(x == 0) && decide (-99 ≤ x) && decide (x ≤ 99)) = true) : Lets 99 ws := fun x hx => by
  have := List.all_eq_true.mp h x hx
  simp only [Bool.and_eq_true, decide_eq_true_eq, Bool.not_eq_true', beq_eq_false_iff_ne] at this
  omega
def sp_law : SpD := fun _ ds S R => ∃ ns : List Int, ds = [.rol (ns.map D.int)] ∧ ns.length ≤ 63 ∧ S = [] ∧ R (.bl true) []
theorem sp_law_ok : ∀ ns : List Int, ns.length ≤ 63 → sp_law W0 [.rol (ns.map D.int)] [] (fun d _ => d = .bl true) := fun ns h => ⟨ns, rfl, h, rfl, rfl⟩
theorem len_law : ∀ W ds T R, sp_law W ds T R → ds.length = 1 := by
  rintro W ds T R ⟨_, rfl, _⟩
  rfl
set_option maxHeartbeats 1600000 in
theorem law_law : ∀ W ds T R, sp_law W ds T R → m_law W { nx := fun _ T' => Drop T R .non T', rt := Drop T R } (startD ["script", "state", "rows", "turn", "pegs", "word", "row", "at", "ends", "other", "first", "second"] ds) T := by
  rintro W ds T R ⟨ns, rfl, hns, rfl, h⟩
  have fin : ∀ S, Drop [] R (.bl true) S := fun S => Drop.nil h rfl
  have line : ∀ {n : Nat}, n ≤ 100000 → n ≤ sizeLine := fun h => by rw [sizeLine_eq]; omega
  have lineL : ∀ {n : Nat}, n ≤ 100000 → n < sizeLine := fun h => by rw [sizeLine_eq]; omega
  refine ⟨ns, rfl, rfl, fun st hg => ?_⟩
  refine ⟨side_line rfl, side_line rfl, side_line rfl, side_line rfl, side_line rfl, side_line rfl, side_line rfl, side_line rfl, side_line rfl, side_line rfl, side_line rfl, side_line rfl, side_line rfl, side_line rfl, side_line rfl, side_line rfl, side_line rfl, side_line rfl, side_line rfl, side_line rfl, side_line rfl, side_line rfl, side_line rfl, side_line rfl, side_line rfl, ?_⟩
  dsimp only
  refine seq_cut (fun ρ S => ∃ (st : List D) (k : Nat) (rows : List D) (T : Sto) (a b c d e f g : Option D), ρ = [some (.rol (ns.map D.int)), some (.ref 1), some (.ref (k + 2)), a, b, c, d, e, f, g, none, none] ∧ S = Stt ns st T ∧ GoodS st ∧ T[k]? = some (.lst rows) ∧ (∀ r ∈ rows, RowH r) ∧ rows.length ≤ 38) (fun N hN => ?_) ?_
  · refine ⟨⟨by decide, by decide⟩, ?_⟩
    refine mLoop_inv (fun i ρ S => ∃ (st : List D) (k : Nat) (rows : List D) (T : Sto) (a b c d e f g : Option D), ρ = [some (.rol (ns.map D.int)), some (.ref 1), some (.ref (k + 2)), a, b, c, d, e, f, g, none, none] ∧ S = Stt ns st T ∧ GoodS st ∧ T[k]? = some (.lst rows) ∧ (∀ r ∈ rows, RowH r) ∧ rows.length = 8 + 6 * i) ?_ ?_ ⟨st, 0, _, _, _, _, _, _, _, _, _, rfl, rfl, hg, rfl, ?_, rfl⟩
    · rintro i _ ρ S N' hi ⟨st, k, rows, T, a, b, c, d, e, f, g, rfl, rfl, hg, hk, hr, hl⟩ hN'
      have hi5 : i < 5 := by
        have := (List.getElem?_eq_some_iff.mp hi).1
        rw [rangeD_length] at this
        exact this
      refine ⟨trivial, side_line (by decide), T.length, _, ns, st, T ++ [_], rfl, rfl, hg, at_snoc, ⟨List.cons_ne_nil _ _, by decide⟩, fun z0 st1 hg1 hz => ?_⟩
      have hz : ∃ z : Int, z0 = .int z ∧ 0 < z ∧ z ≤ 99 := by
        simp only [List.mem_cons, List.not_mem_nil, or_false] at hz
        rcases hz with rfl | rfl | rfl | rfl <;> exact ⟨_, rfl, by decide, by decide⟩
      obtain ⟨z, rfl, hz0, hz1⟩ := hz
      have hz3 : 0 < z ∧ z < 2 ^ 60 := by omega
      refine ⟨9, ns, st1, _, rfl, rfl, hg1, ⟨by decide, by decide⟩, fun v st2 hg2 v1 v2 => ⟨v, z, ns, st2, _, rfl, rfl, hg2, ⟨by omega, by omega⟩, hz3, fun ws st3 hg3 wl hw => ?_⟩⟩
      refine ⟨3, ns, st3, _, rfl, rfl, hg3, ⟨by decide, by decide⟩, fun m st4 hg4 m1 m2 => ⟨⟨by omega, by omega, by rw [List.length_map]; omega⟩, ?_⟩⟩
      have hwl : ((List.replicate (1 + m).toNat ws).flatten).length ≤ 24 := by
        rw [rep_len]
        exact Nat.mul_le_mul (show (1 + m).toNat ≤ 3 by omega) (show ws.length ≤ 8 by omega)
      have hW : Lets 99 (List.replicate (1 + m).toNat ws).flatten := (hw.mono hz1).rep _
      rw [rep_map]
      generalize (List.replicate (1 + m).toNat ws).flatten = w at hwl hW
      have rl := len_red w
      have wlm : (w.map D.int).length = w.length := List.length_map _
      have rlm : ((red w).map D.int).length = (red w).length := List.length_map _
      refine ⟨w, rfl, by omega, _, ns, st4, _, rfl, rfl, hg4, ⟨by rw [rlm]; omega, by rw [rlm]; omega⟩, fun at_ st5 hg5 a1 a2 => ?_⟩
      refine ⟨6, ns, st5, _, rfl, rfl, hg5, ⟨by decide, by decide⟩, fun v' st6 hg6 v3 v4 => ⟨v', z, ns, st6, _, rfl, rfl, hg6, ⟨by omega, by omega⟩, hz3, fun p st7 hg7 pl hp => ?_⟩⟩
      refine ⟨6, ns, st7, _, rfl, rfl, hg7, ⟨by decide, by decide⟩, fun v'' st8 hg8 v5 v6 => ⟨v'', z, ns, st8, _, rfl, rfl, hg8, ⟨by omega, by omega⟩, hz3, fun q st9 hg9 ql hq => ⟨side_line rfl, ?_⟩⟩⟩
      have plm : (p.map D.int).length = p.length := List.length_map _
      have qlm : (q.map D.int).length = q.length := List.length_map _
      have ip := len_red (inv p)
      have iq := len_red (inv q)
      rw [len_inv] at ip iq
      have iplm : ((red (inv p)).map D.int).length = (red (inv p)).length := List.length_map _
      have iqlm : ((red (inv q)).map D.int).length = (red (inv q)).length := List.length_map _
      have c1 := cutD_len ((red w).map D.int) (some at_) none
      have c2 := cutD_len ((red w).map D.int) none (some at_)
      have c1' := cutD_len (red w) (some at_) none
      have c2' := cutD_len (red w) none (some at_)
      rw [rlm] at c1 c2
      refine ⟨_, at_snoc, wd p, rfl, line (by omega), line (by rw [List.length_append]; omega), _, at_snoc, wd p, rfl, p, rfl, by omega, line (by rw [List.length_append, List.length_append]; omega), ?_⟩
      have eO : p.map D.int ++ cutD ((red w).map D.int) (some at_) none ++ cutD ((red w).map D.int) none (some at_) ++ (red (inv p)).map D.int = (p ++ cutD (red w) (some at_) none ++ cutD (red w) none (some at_) ++ red (inv p)).map D.int := by simp [cutD_map]
      have lO : (p ++ cutD (red w) (some at_) none ++ cutD (red w) none (some at_) ++ red (inv p)).length ≤ 60 := by simp only [List.length_append]; omega
      have hp9 := hp.mono hz1
      have hq9 := hq.mono hz1
      have hO : Lets 99 (p ++ cutD (red w) (some at_) none ++ cutD (red w) none (some at_) ++ red (inv p)) := ((hp9.app (hW.red.cut _ _)).app (hW.red.cut _ _)).app hp9.inv.red
      rw [eO]
      generalize p ++ cutD (red w) (some at_) none ++ cutD (red w) none (some at_) ++ red (inv p) = o at lO hO
      have olm : (o.map D.int).length = o.length := List.length_map _
      have io := len_red (inv o)
      rw [len_inv] at io
      have hk1 := at_app (U := [O.lst [wd p, wd q]]) (at_app (U := [O.lst [D.int 1, D.int 2, D.int 3, D.int 99]]) hk)
      refine ⟨s2, _, at_snoc, wd q, rfl, line (by omega), _, at_snoc, wd q, rfl, q, rfl, by omega, line (by rw [List.length_append]; omega), s2, s2, side_line rfl, _, _, at_app hk1, at_snoc, line (by simp only [List.length_cons, List.length_nil]; omega), ?_⟩
      refine ⟨o, rfl, by omega, s2, 1, z, ns, st9, ((T ++ [_]) ++ [_] ++ [_]) ++ [_], rfl, rfl, hg9, ⟨by decide, by decide⟩, hz3, fun f st10 hg10 fl hf => ?_⟩
      have fl : f.length = 1 := fl
      have flm : (f.map D.int).length = f.length := List.length_map _
      refine ⟨line (by omega), s2, _, z, ns, st10, _, rfl, rfl, hg10, ⟨by rw [wlm]; omega, by rw [wlm]; omega⟩, hz3, fun g st11 hg11 gl hgL => ?_⟩
      have gl : g.length = w.length := by rw [gl, wlm]; omega
      refine ⟨s2, side_line rfl, _, _, at_app at_snoc, at_snoc, line (by simp only [List.length_append, List.length_cons, List.length_nil]; omega), ?_⟩
      refine hN' _ _ ⟨st11, _, _, _, _, _, _, _, _, _, _, rfl, rfl, hg11, at_snoc, ?_, by simp only [List.length_append, List.length_cons, List.length_nil]; omega⟩
      refine all_app (all_app hr ?_) ?_
      · intro r hr
        simp only [List.mem_cons, List.not_mem_nil, or_false] at hr
        rcases hr with rfl | rfl | rfl
        · exact RowH.of rfl rfl (by omega) (by omega) hW hO
        · exact RowH.of (a := q ++ w ++ red (inv q)) (by simp) rfl (by simp only [List.length_append]; omega) (by omega) ((hq9.app hW).app hq9.inv.red) hO
        · exact RowH.of rfl rfl (by omega) (by omega) hO hW
      · intro r hr
        simp only [List.mem_cons, List.not_mem_nil, or_false] at hr
        rcases hr with rfl | rfl | rfl
        · exact RowH.of rfl rfl (by omega) (by omega) hW hO.inv.red
        · exact RowH.of (b := o ++ f) rfl (by simp) (by omega) (by rw [List.length_append]; omega) hW (hO.app (hf.mono hz1))
        · exact RowH.of rfl rfl (by omega) (by omega) hW (hgL.mono hz1)
    · rintro ρ S ⟨st, k, rows, T, a, b, c, d, e, f, g, rfl, rfl, hg, hk, hr, hl⟩
      rw [rangeD_length] at hl
      have h5 : (5 : Int).toNat = 5 := rfl
      exact ⟨trivial, hN _ _ ⟨st, k, rows, T, a, b, c, d, e, f, g, rfl, rfl, hg, hk, hr, by omega⟩⟩
    · intro r hr
      simp only [List.mem_cons, List.not_mem_nil, or_false] at hr
      rcases hr with rfl | rfl | rfl | rfl | rfl | rfl | rfl | rfl
      · exact RowH.of (a := []) (b := []) rfl rfl (by decide) (by decide) (lets_lit rfl) (lets_lit rfl)
      · exact RowH.of (a := []) (b := [1]) rfl rfl (by decide) (by decide) (lets_lit rfl) (lets_lit rfl)
      · exact RowH.of (a := [1]) (b := []) rfl rfl (by decide) (by decide) (lets_lit rfl) (lets_lit rfl)
      · exact RowH.of (a := [1, 2]) (b := [2, 1]) rfl rfl (by decide) (by decide) (lets_lit rfl) (lets_lit rfl)
      · exact RowH.of (a := [1]) (b := [-1]) rfl rfl (by decide) (by decide) (lets_lit rfl) (lets_lit rfl)
      · exact RowH.of (a := [1, 2, -1]) (b := [2]) rfl rfl (by decide) (by decide) (lets_lit rfl) (lets_lit rfl)
      · exact RowH.of (a := [1, 1]) (b := [1, 1, 1]) rfl rfl (by decide) (by decide) (lets_lit rfl) (lets_lit rfl)
      · exact RowH.of (a := [1, -1]) (b := []) rfl rfl (by decide) (by decide) (lets_lit rfl) (lets_lit rfl)
  rintro ρ S ⟨st, k, rows, T, a, b, c, d, e, f, g, rfl, rfl, hg, hk, hr, hl⟩
  try dsimp only
  refine seq_cut (fun ρ S => ∃ (st : List D) (rows : List D) (T : Sto) (a b c d e f g : Option D), ρ = [some (.rol (ns.map D.int)), some (.ref 1), some (.ref (k + 2)), a, b, c, d, e, f, g, none, none] ∧ S = Stt ns st T ∧ T[k]? = some (.lst rows) ∧ (∀ r ∈ rows, RowH r)) (fun N hN => ?_) ?_
  · refine ⟨8, ns, st, _, rfl, rfl, hg, ⟨by decide, by decide⟩, fun v st2 hg2 v1 v2 => ⟨fun _ => ?_, fun _ => hN _ _ ⟨st2, rows, T, _, _, _, _, _, _, _, rfl, rfl, hk, hr⟩⟩⟩
    have e1 : (List.replicate (50 : Int).toNat [D.int 1, D.int 2, D.int 2, D.int 3]).flatten = ((List.replicate (50 : Int).toNat [1, 2, 2, 3]).flatten : List Int).map D.int := rep_map _ [1, 2, 2, 3]
    have e2 : (List.replicate (50 : Int).toNat [D.int 2, D.int 3, D.int 1, D.int 2]).flatten = ((List.replicate (50 : Int).toNat [2, 3, 1, 2]).flatten : List Int).map D.int := rep_map _ [2, 3, 1, 2]
    refine ⟨⟨_, hk⟩, side_line rfl, ⟨by decide, by decide, by decide⟩, side_line rfl, ⟨by decide, by decide, by decide⟩, s2, _, hk, lineL (by omega), hN _ _ ⟨st2, _, _, _, _, _, _, _, _, _, rfl, rfl, at_set hk, all_snoc hr ?_⟩⟩
    have l1 : ((List.replicate (50 : Int).toNat [1, 2, 2, 3]).flatten : List Int).length ≤ 500 := by rw [rep_len]; decide
    have l2 : ((List.replicate (50 : Int).toNat [2, 3, 1, 2]).flatten : List Int).length ≤ 500 := by rw [rep_len]; decide
    exact RowH.of e1 e2 l1 l2 (Lets.rep (lets_lit rfl) _) (Lets.rep (lets_lit rfl) _)
  rintro ρ S ⟨st, rows, T, a, b, c, d, e, f, g, rfl, rfl, hk, hr⟩
  refine seq_cut (fun ρ S => S = Stt ns st T ∧ ∃ (a b c d e f g h i : Option D), ρ = [some (.rol (ns.map D.int)), some (.ref 1), some (.ref (k + 2)), a, b, c, d, e, f, g, h, i]) (fun N hN => ?_) ?_
  · refine ⟨rows, hk, ?_⟩
    refine mLoop_inv (fun n ρ S => S = Stt ns st T ∧ ∃ (a b c d e f g h i : Option D), ρ = [some (.rol (ns.map D.int)), some (.ref 1), some (.ref (k + 2)), a, b, c, d, e, f, g, h, i]) ?_ ?_ ⟨rfl, _, _, _, _, _, _, _, _, _, rfl⟩
    · rintro n r ρ S N' hi ⟨rfl, a, b, c, d, e, f, g, h, i, rfl⟩ hN'
      obtain ⟨x, y, rfl, ⟨lx, ly⟩, hx, hy⟩ := hr _ (List.mem_of_getElem? hi)
      exact ⟨hk, rfl, x, y, rfl, ⟨lx, ly⟩, hx, hy, br_f (hN' _ _ ⟨rfl, _, _, _, _, _, _, _, _, _, rfl⟩)⟩
    · rintro ρ S ⟨rfl, a, b, c, d, e, f, g, h, i, rfl⟩
      exact ⟨hk, hN _ _ ⟨rfl, _, _, _, _, _, _, _, _, _, rfl⟩⟩
  rintro ρ S ⟨rfl, a, b, c, d, e, f, g, h, i, rfl⟩
  refine ⟨s2, side_line rfl, rfl, rfl, [2, 2, 1], [1, 2], rfl, ⟨by decide, by decide⟩, fun _ => fin _, fun u v h1 h2 => ?_⟩
  have : IsRot (core [2, 2, 1]) (core [1, 2]) := ⟨u, v, h1, h2⟩
  exact absurd this.len (by decide)

theorem ok_law {P : Program} {w : World} {K : PySem.W.Frag} {mg : Str → Option Value} {base : Heap} (z_range : mg "range" = none) (z_len : mg "len" = none) (D__law_begin : Df P w K mg base "_law_begin" s__law_begin 2 ["script"] sp__law_begin) (D__law_pick : Df P w K mg base "_law_pick" s__law_pick 3 ["state", "some"] sp__law_pick) (D__law_letters : Df P w K mg base "_law_letters" s__law_letters 3 ["state", "many", "pegs"] sp__law_letters) (D__law_draw : Df P w K mg base "_law_draw" s__law_draw 2 ["state", "limit"] sp__law_draw) (D__law_reduce : Df P w K mg base "_law_reduce" s__law_reduce 1 ["word"] sp__law_reduce) (D__law_turned_word : Df P w K mg base "_law_turned_word" s__law_turned_word 2 ["word"] sp__law_turned_word) (D__law_holds : Df P w K mg base "_law_holds" s__law_holds 5 ["first", "second"] sp__law_holds) (D_conjugator : Df P w K mg base "conjugator" s_conjugator 4 ["first", "second"] sp_conjugator)  (a : At K mg "law" s_law) : Df P w K mg base "law" s_law 6 ["script"] sp_law :=
  df_mk a fun f fd F => fn_ok (m := m_law) F sc_law len_law (fun cdv A outer s H E hr =>
    (jss_cons (js_set (i := 1) sc_law.nd rfl (by first | exact .inl rfl | exact .inr rfl) (je_def D__law_begin b__law_begin (hr.mono (by decide)) (by rfl) passE (ja_cons (je_var 0 (pv 0)) ja_nil)))
      (jss_cons (js_set (i := 2) sc_law.nd rfl (by first | exact .inl rfl | exact .inr rfl) (je_lst (ja_cons (je_tup (ja_cons (je_tup ja_nil) (ja_cons (je_tup ja_nil) ja_nil))) (ja_cons (je_tup (ja_cons (je_tup ja_nil) (ja_cons (je_tup (ja_cons je_int ja_nil)) ja_nil))) (ja_cons (je_tup (ja_cons (je_tup (ja_cons je_int ja_nil)) (ja_cons (je_tup ja_nil) ja_nil))) (ja_cons (je_tup (ja_cons (je_tup (ja_cons je_int (ja_cons je_int ja_nil))) (ja_cons (je_tup (ja_cons je_int (ja_cons je_int ja_nil))) ja_nil))) (ja_cons (je_tup (ja_cons (je_tup (ja_cons je_int ja_nil)) (ja_cons (je_tup (ja_cons (je_un un_neg s_neg je_int) ja_nil)) ja_nil))) (ja_cons (je_tup (ja_cons (je_tup (ja_cons je_int (ja_cons je_int (ja_cons (je_un un_neg s_neg je_int) ja_nil)))) (ja_cons (je_tup (ja_cons je_int ja_nil)) ja_nil))) (ja_cons (je_tup (ja_cons (je_tup (ja_cons je_int (ja_cons je_int ja_nil))) (ja_cons (je_tup (ja_cons je_int (ja_cons je_int (ja_cons je_int ja_nil)))) ja_nil))) (ja_cons (je_tup (ja_cons (je_tup (ja_cons je_int (ja_cons (je_un un_neg s_neg je_int) ja_nil))) (ja_cons (je_tup ja_nil) ja_nil))) ja_nil))))))))))
      (jss_cons (js_for ownE rfl (ji_rng1 (pi_range1 (by rfl) z_range (ja_cons je_int ja_nil))) (jg_name (pg_name (i := 3) sc_law.nd rfl (by first | exact .inl rfl | exact .inr rfl))) (jss_cons (js_set (i := 4) sc_law.nd rfl (by first | exact .inl rfl | exact .inr rfl) (je_def D__law_pick b__law_pick (hr.mono (by decide)) (by rfl) passE (ja_cons (je_var 1 (pv 1)) (ja_cons (je_lst (ja_cons je_int (ja_cons je_int (ja_cons je_int (ja_cons je_int ja_nil))))) ja_nil))))
      (jss_cons (js_set (i := 5) sc_law.nd rfl (by first | exact .inl rfl | exact .inr rfl) (je_op op_mulT s_mulT (je_def D__law_letters b__law_letters (hr.mono (by decide)) (by rfl) passE (ja_cons (je_var 1 (pv 1)) (ja_cons (je_def D__law_draw b__law_draw (hr.mono (by decide)) (by rfl) passE (ja_cons (je_var 1 (pv 1)) (ja_cons je_int ja_nil))) (ja_cons (je_var 4 (pv 4)) ja_nil)))) (je_op op_addD s_add je_int (je_def D__law_draw b__law_draw (hr.mono (by decide)) (by rfl) passE (ja_cons (je_var 1 (pv 1)) (ja_cons je_int ja_nil))))))
      (jss_cons (js_set (i := 6) sc_law.nd rfl (by first | exact .inl rfl | exact .inr rfl) (je_def D__law_reduce b__law_reduce (hr.mono (by decide)) (by rfl) passE (ja_cons (je_var 5 (pv 5)) ja_nil)))
      (jss_cons (js_set (i := 7) sc_law.nd rfl (by first | exact .inl rfl | exact .inr rfl) (je_def D__law_draw b__law_draw (hr.mono (by decide)) (by rfl) passE (ja_cons (je_var 1 (pv 1)) (ja_cons (je_op op_addD s_add (je_of_cb s_len (pe_callB call_lenAll (by rfl) z_len (by decide +kernel) (ja_cons (je_var 6 (pv 6)) ja_nil))) je_int) ja_nil))))
      (jss_cons (js_set (i := 8) sc_law.nd rfl (by first | exact .inl rfl | exact .inr rfl) (je_lst (ja_cons (je_def D__law_letters b__law_letters (hr.mono (by decide)) (by rfl) passE (ja_cons (je_var 1 (pv 1)) (ja_cons (je_def D__law_draw b__law_draw (hr.mono (by decide)) (by rfl) passE (ja_cons (je_var 1 (pv 1)) (ja_cons je_int ja_nil))) (ja_cons (je_var 4 (pv 4)) ja_nil)))) (ja_cons (je_def D__law_letters b__law_letters (hr.mono (by decide)) (by rfl) passE (ja_cons (je_var 1 (pv 1)) (ja_cons (je_def D__law_draw b__law_draw (hr.mono (by decide)) (by rfl) passE (ja_cons (je_var 1 (pv 1)) (ja_cons je_int ja_nil))) (ja_cons (je_var 4 (pv 4)) ja_nil)))) ja_nil))))
      (jss_cons (js_set (i := 9) sc_law.nd rfl (by first | exact .inl rfl | exact .inr rfl) (je_op op_addD s_add (je_op op_addD s_add (je_op op_addD s_add (je_ix (je_var 8 (pv 8)) je_int (fun _ _ => rfl)) (je_cut (je_var 6 (pv 6)) (jo_some (je_var 7 (pv 7))) jo_none)) (je_cut (je_var 6 (pv 6)) jo_none (jo_some (je_var 7 (pv 7))))) (je_def D__law_turned_word b__law_turned_word (hr.mono (by decide)) (by rfl) passE (ja_cons (je_ix (je_var 8 (pv 8)) je_int (fun _ _ => rfl)) ja_nil))))
      (jss_cons (js_set (i := 2) sc_law.nd rfl (by first | exact .inl rfl | exact .inr rfl) (je_op op_addD s_add (je_var 2 (pv 2)) (je_lst (ja_cons (je_tup (ja_cons (je_var 5 (pv 5)) (ja_cons (je_var 9 (pv 9)) ja_nil))) (ja_cons (je_tup (ja_cons (je_op op_addD s_add (je_op op_addD s_add (je_ix (je_var 8 (pv 8)) je_int (fun _ _ => rfl)) (je_var 5 (pv 5))) (je_def D__law_turned_word b__law_turned_word (hr.mono (by decide)) (by rfl) passE (ja_cons (je_ix (je_var 8 (pv 8)) je_int (fun _ _ => rfl)) ja_nil))) (ja_cons (je_var 9 (pv 9)) ja_nil))) (ja_cons (je_tup (ja_cons (je_var 9 (pv 9)) (ja_cons (je_var 5 (pv 5)) ja_nil))) ja_nil))))))
      (jss_one (js_set (i := 2) sc_law.nd rfl (by first | exact .inl rfl | exact .inr rfl) (je_op op_addD s_add (je_var 2 (pv 2)) (je_lst (ja_cons (je_tup (ja_cons (je_var 5 (pv 5)) (ja_cons (je_def D__law_turned_word b__law_turned_word (hr.mono (by decide)) (by rfl) passE (ja_cons (je_var 9 (pv 9)) ja_nil)) ja_nil))) (ja_cons (je_tup (ja_cons (je_var 5 (pv 5)) (ja_cons (je_op op_addD s_add (je_var 9 (pv 9)) (je_def D__law_letters b__law_letters (hr.mono (by decide)) (by rfl) passE (ja_cons (je_var 1 (pv 1)) (ja_cons je_int (ja_cons (je_var 4 (pv 4)) ja_nil))))) ja_nil))) (ja_cons (je_tup (ja_cons (je_var 5 (pv 5)) (ja_cons (je_def D__law_letters b__law_letters (hr.mono (by decide)) (by rfl) passE (ja_cons (je_var 1 (pv 1)) (ja_cons (je_of_cb s_len (pe_callB call_lenAll (by rfl) z_len (by decide +kernel) (ja_cons (je_var 5 (pv 5)) ja_nil))) (ja_cons (je_var 4 (pv 4)) ja_nil)))) ja_nil))) ja_nil)))))))))))))))
      (jss_cons (js_if (jt_cmp (op_eqD hr.units) s_eq (je_def D__law_draw b__law_draw (hr.mono (by decide)) (by rfl) passE (ja_cons (je_var 1 (pv 1)) (ja_cons je_int ja_nil))) je_int (nomark _)) (jss_one (js_expr (je_lm s_append (pe_bm PySem.F.plainAttrs_list PySem.F.slot_list_append PySem.F.type_list_append mt_append (je_var 2 (pv 2)) (ja_cons (je_tup (ja_cons (je_op op_mulT s_mulT (je_tup (ja_cons je_int (ja_cons je_int (ja_cons je_int (ja_cons je_int ja_nil))))) je_int) (ja_cons (je_op op_mulT s_mulT (je_tup (ja_cons je_int (ja_cons je_int (ja_cons je_int (ja_cons je_int ja_nil))))) je_int) ja_nil))) ja_nil))))) jss_nil)
      (jss_cons (js_for ownE rfl (ji_seq (je_var 2 (pv 2))) (jg_tup rfl (jgs_cons (jg_name (pg_name (i := 10) sc_law.nd rfl (by first | exact .inl rfl | exact .inr rfl))) (jgs_cons (jg_name (pg_name (i := 11) sc_law.nd rfl (by first | exact .inl rfl | exact .inr rfl))) jgs_nil))) (jss_one (js_if (jt_not (jt_tru (je_def D__law_holds b__law_holds (hr.mono (by decide)) (by rfl) passE (ja_cons (je_var 10 (pv 10)) (ja_cons (je_var 11 (pv 11)) ja_nil))))) (jss_one (js_ret je_bl)) jss_nil)))
      (jss_one (js_ret (je_cmp op_isN s_isN (je_defK0 D_conjugator bk_conjugator_0_second_first (hr.mono (by decide)) (by rfl) passE (jk_cons (je_tup (ja_cons je_int (ja_cons je_int ja_nil))) (jk_cons (je_tup (ja_cons je_int (ja_cons je_int (ja_cons je_int ja_nil)))) jk_nil))) je_non (nomark _)))))))))) law_law
/-! ### the end -/
theorem all_mk {P : Program} {w : World} {K : PySem.W.Frag} {h : Heap} {mg : Str → Option Value} {fa : Addr} (X : K.In h) (G : h.Ns mainGlobals mg) (hfa : mg "law" = some (.ref fa))
    {f0 : Addr} {od0 an0 : Option Addr} {sl0 : Array (Option Value)} {oc0 kV0 dc0 pm0 cd0 ct0 : Value}
    (a0 : PySem.W.nsIn K mainGlobals "append_letter" = some (some (.ref f0))) (l0 : K.lookup f0 = some ⟨oc0, od0, .func (PySem.W.fnOf "append_letter" "append_letter" (defArgs s_append_letter) (defBody s_append_letter) (defScope s_append_letter) .none kV0 dc0 pm0 an0 cd0 ct0), sl0⟩) (c0 : PySem.W.codeIn K cd0 "append_letter" = true) (k0 : PySem.W.keepIn K (.ref f0) = true)
    {f1 : Addr} {od1 an1 : Option Addr} {sl1 : Array (Option Value)} {oc1 kV1 dc1 pm1 cd1 ct1 : Value}
    (a1 : PySem.W.nsIn K mainGlobals "reduced" = some (some (.ref f1))) (l1 : K.lookup f1 = some ⟨oc1, od1, .func (PySem.W.fnOf "reduced" "reduced" (defArgs s_reduced) (defBody s_reduced) (defScope s_reduced) .none kV1 dc1 pm1 an1 cd1 ct1), sl1⟩) (c1 : PySem.W.codeIn K cd1 "reduced" = true) (k1 : PySem.W.keepIn K (.ref f1) = true)
    {f2 : Addr} {od2 an2 : Option Addr} {sl2 : Array (Option Value)} {oc2 kV2 dc2 pm2 cd2 ct2 : Value}
    (a2 : PySem.W.nsIn K mainGlobals "inverse" = some (some (.ref f2))) (l2 : K.lookup f2 = some ⟨oc2, od2, .func (PySem.W.fnOf "inverse" "inverse" (defArgs s_inverse) (defBody s_inverse) (defScope s_inverse) .none kV2 dc2 pm2 an2 cd2 ct2), sl2⟩) (c2 : PySem.W.codeIn K cd2 "inverse" = true) (k2 : PySem.W.keepIn K (.ref f2) = true)
    {f3 : Addr} {od3 an3 : Option Addr} {sl3 : Array (Option Value)} {oc3 kV3 dc3 pm3 cd3 ct3 : Value}
    (a3 : PySem.W.nsIn K mainGlobals "combined" = some (some (.ref f3))) (l3 : K.lookup f3 = some ⟨oc3, od3, .func (PySem.W.fnOf "combined" "combined" (defArgs s_combined) (defBody s_combined) (defScope s_combined) .none kV3 dc3 pm3 an3 cd3 ct3), sl3⟩) (c3 : PySem.W.codeIn K cd3 "combined" = true) (k3 : PySem.W.keepIn K (.ref f3) = true)
    {f4 : Addr} {od4 an4 : Option Addr} {sl4 : Array (Option Value)} {oc4 kV4 dc4 pm4 cd4 ct4 : Value}
    (a4 : PySem.W.nsIn K mainGlobals "cyclic_parts" = some (some (.ref f4))) (l4 : K.lookup f4 = some ⟨oc4, od4, .func (PySem.W.fnOf "cyclic_parts" "cyclic_parts" (defArgs s_cyclic_parts) (defBody s_cyclic_parts) (defScope s_cyclic_parts) .none kV4 dc4 pm4 an4 cd4 ct4), sl4⟩) (c4 : PySem.W.codeIn K cd4 "cyclic_parts" = true) (k4 : PySem.W.keepIn K (.ref f4) = true)
    {f5 : Addr} {od5 an5 : Option Addr} {sl5 : Array (Option Value)} {oc5 kV5 dc5 pm5 cd5 ct5 : Value}
    (a5 : PySem.W.nsIn K mainGlobals "rotations" = some (some (.ref f5))) (l5 : K.lookup f5 = some ⟨oc5, od5, .func (PySem.W.fnOf "rotations" "rotations" (defArgs s_rotations) (defBody s_rotations) (defScope s_rotations) .none kV5 dc5 pm5 an5 cd5 ct5), sl5⟩) (c5 : PySem.W.codeIn K cd5 "rotations" = true) (k5 : PySem.W.keepIn K (.ref f5) = true)
    {f6 : Addr} {od6 an6 : Option Addr} {sl6 : Array (Option Value)} {oc6 kV6 dc6 pm6 cd6 ct6 : Value}
    (a6 : PySem.W.nsIn K mainGlobals "conjugator" = some (some (.ref f6))) (l6 : K.lookup f6 = some ⟨oc6, od6, .func (PySem.W.fnOf "conjugator" "conjugator" (defArgs s_conjugator) (defBody s_conjugator) (defScope s_conjugator) .none kV6 dc6 pm6 an6 cd6 ct6), sl6⟩) (c6 : PySem.W.codeIn K cd6 "conjugator" = true) (k6 : PySem.W.keepIn K (.ref f6) = true)
    {f7 : Addr} {od7 an7 : Option Addr} {sl7 : Array (Option Value)} {oc7 kV7 dc7 pm7 cd7 ct7 : Value}
    (a7 : PySem.W.nsIn K mainGlobals "_law_mix" = some (some (.ref f7))) (l7 : K.lookup f7 = some ⟨oc7, od7, .func (PySem.W.fnOf "_law_mix" "_law_mix" (defArgs s__law_mix) (defBody s__law_mix) (defScope s__law_mix) .none kV7 dc7 pm7 an7 cd7 ct7), sl7⟩) (c7 : PySem.W.codeIn K cd7 "_law_mix" = true) (k7 : PySem.W.keepIn K (.ref f7) = true)
    {f8 : Addr} {od8 an8 : Option Addr} {sl8 : Array (Option Value)} {oc8 kV8 dc8 pm8 cd8 ct8 : Value}
    (a8 : PySem.W.nsIn K mainGlobals "_law_begin" = some (some (.ref f8))) (l8 : K.lookup f8 = some ⟨oc8, od8, .func (PySem.W.fnOf "_law_begin" "_law_begin" (defArgs s__law_begin) (defBody s__law_begin) (defScope s__law_begin) .none kV8 dc8 pm8 an8 cd8 ct8), sl8⟩) (c8 : PySem.W.codeIn K cd8 "_law_begin" = true) (k8 : PySem.W.keepIn K (.ref f8) = true)
    {f9 : Addr} {od9 an9 : Option Addr} {sl9 : Array (Option Value)} {oc9 kV9 dc9 pm9 cd9 ct9 : Value}
    (a9 : PySem.W.nsIn K mainGlobals "_law_draw" = some (some (.ref f9))) (l9 : K.lookup f9 = some ⟨oc9, od9, .func (PySem.W.fnOf "_law_draw" "_law_draw" (defArgs s__law_draw) (defBody s__law_draw) (defScope s__law_draw) .none kV9 dc9 pm9 an9 cd9 ct9), sl9⟩) (c9 : PySem.W.codeIn K cd9 "_law_draw" = true) (k9 : PySem.W.keepIn K (.ref f9) = true)
    {f10 : Addr} {od10 an10 : Option Addr} {sl10 : Array (Option Value)} {oc10 kV10 dc10 pm10 cd10 ct10 : Value}
    (a10 : PySem.W.nsIn K mainGlobals "_law_pick" = some (some (.ref f10))) (l10 : K.lookup f10 = some ⟨oc10, od10, .func (PySem.W.fnOf "_law_pick" "_law_pick" (defArgs s__law_pick) (defBody s__law_pick) (defScope s__law_pick) .none kV10 dc10 pm10 an10 cd10 ct10), sl10⟩) (c10 : PySem.W.codeIn K cd10 "_law_pick" = true) (k10 : PySem.W.keepIn K (.ref f10) = true)
    {f11 : Addr} {od11 an11 : Option Addr} {sl11 : Array (Option Value)} {oc11 kV11 dc11 pm11 cd11 ct11 : Value}
    (a11 : PySem.W.nsIn K mainGlobals "_law_whole" = some (some (.ref f11))) (l11 : K.lookup f11 = some ⟨oc11, od11, .func (PySem.W.fnOf "_law_whole" "_law_whole" (defArgs s__law_whole) (defBody s__law_whole) (defScope s__law_whole) .none kV11 dc11 pm11 an11 cd11 ct11), sl11⟩) (c11 : PySem.W.codeIn K cd11 "_law_whole" = true) (k11 : PySem.W.keepIn K (.ref f11) = true)
    {f12 : Addr} {od12 an12 : Option Addr} {sl12 : Array (Option Value)} {oc12 kV12 dc12 pm12 cd12 ct12 : Value}
    (a12 : PySem.W.nsIn K mainGlobals "_law_reduce" = some (some (.ref f12))) (l12 : K.lookup f12 = some ⟨oc12, od12, .func (PySem.W.fnOf "_law_reduce" "_law_reduce" (defArgs s__law_reduce) (defBody s__law_reduce) (defScope s__law_reduce) .none kV12 dc12 pm12 an12 cd12 ct12), sl12⟩) (c12 : PySem.W.codeIn K cd12 "_law_reduce" = true) (k12 : PySem.W.keepIn K (.ref f12) = true)
    {f13 : Addr} {od13 an13 : Option Addr} {sl13 : Array (Option Value)} {oc13 kV13 dc13 pm13 cd13 ct13 : Value}
    (a13 : PySem.W.nsIn K mainGlobals "_law_turned_word" = some (some (.ref f13))) (l13 : K.lookup f13 = some ⟨oc13, od13, .func (PySem.W.fnOf "_law_turned_word" "_law_turned_word" (defArgs s__law_turned_word) (defBody s__law_turned_word) (defScope s__law_turned_word) .none kV13 dc13 pm13 an13 cd13 ct13), sl13⟩) (c13 : PySem.W.codeIn K cd13 "_law_turned_word" = true) (k13 : PySem.W.keepIn K (.ref f13) = true)
    {f14 : Addr} {od14 an14 : Option Addr} {sl14 : Array (Option Value)} {oc14 kV14 dc14 pm14 cd14 ct14 : Value}
    (a14 : PySem.W.nsIn K mainGlobals "_law_times" = some (some (.ref f14))) (l14 : K.lookup f14 = some ⟨oc14, od14, .func (PySem.W.fnOf "_law_times" "_law_times" (defArgs s__law_times) (defBody s__law_times) (defScope s__law_times) .none kV14 dc14 pm14 an14 cd14 ct14), sl14⟩) (c14 : PySem.W.codeIn K cd14 "_law_times" = true) (k14 : PySem.W.keepIn K (.ref f14) = true)
    {f15 : Addr} {od15 an15 : Option Addr} {sl15 : Array (Option Value)} {oc15 kV15 dc15 pm15 cd15 ct15 : Value}
    (a15 : PySem.W.nsIn K mainGlobals "_law_order" = some (some (.ref f15))) (l15 : K.lookup f15 = some ⟨oc15, od15, .func (PySem.W.fnOf "_law_order" "_law_order" (defArgs s__law_order) (defBody s__law_order) (defScope s__law_order) .none kV15 dc15 pm15 an15 cd15 ct15), sl15⟩) (c15 : PySem.W.codeIn K cd15 "_law_order" = true) (k15 : PySem.W.keepIn K (.ref f15) = true)
    {f16 : Addr} {od16 an16 : Option Addr} {sl16 : Array (Option Value)} {oc16 kV16 dc16 pm16 cd16 ct16 : Value}
    (a16 : PySem.W.nsIn K mainGlobals "_law_letters" = some (some (.ref f16))) (l16 : K.lookup f16 = some ⟨oc16, od16, .func (PySem.W.fnOf "_law_letters" "_law_letters" (defArgs s__law_letters) (defBody s__law_letters) (defScope s__law_letters) .none kV16 dc16 pm16 an16 cd16 ct16), sl16⟩) (c16 : PySem.W.codeIn K cd16 "_law_letters" = true) (k16 : PySem.W.keepIn K (.ref f16) = true)
    {f17 : Addr} {od17 an17 : Option Addr} {sl17 : Array (Option Value)} {oc17 kV17 dc17 pm17 cd17 ct17 : Value}
    (a17 : PySem.W.nsIn K mainGlobals "_law_core" = some (some (.ref f17))) (l17 : K.lookup f17 = some ⟨oc17, od17, .func (PySem.W.fnOf "_law_core" "_law_core" (defArgs s__law_core) (defBody s__law_core) (defScope s__law_core) .none kV17 dc17 pm17 an17 cd17 ct17), sl17⟩) (c17 : PySem.W.codeIn K cd17 "_law_core" = true) (k17 : PySem.W.keepIn K (.ref f17) = true)
    {f18 : Addr} {od18 an18 : Option Addr} {sl18 : Array (Option Value)} {oc18 kV18 dc18 pm18 cd18 ct18 : Value}
    (a18 : PySem.W.nsIn K mainGlobals "_law_round" = some (some (.ref f18))) (l18 : K.lookup f18 = some ⟨oc18, od18, .func (PySem.W.fnOf "_law_round" "_law_round" (defArgs s__law_round) (defBody s__law_round) (defScope s__law_round) .none kV18 dc18 pm18 an18 cd18 ct18), sl18⟩) (c18 : PySem.W.codeIn K cd18 "_law_round" = true) (k18 : PySem.W.keepIn K (.ref f18) = true)
    {f19 : Addr} {od19 an19 : Option Addr} {sl19 : Array (Option Value)} {oc19 kV19 dc19 pm19 cd19 ct19 : Value}
    (a19 : PySem.W.nsIn K mainGlobals "_law_holds" = some (some (.ref f19))) (l19 : K.lookup f19 = some ⟨oc19, od19, .func (PySem.W.fnOf "_law_holds" "_law_holds" (defArgs s__law_holds) (defBody s__law_holds) (defScope s__law_holds) .none kV19 dc19 pm19 an19 cd19 ct19), sl19⟩) (c19 : PySem.W.codeIn K cd19 "_law_holds" = true) (k19 : PySem.W.keepIn K (.ref f19) = true)
    {f20 : Addr} {od20 an20 : Option Addr} {sl20 : Array (Option Value)} {oc20 kV20 dc20 pm20 cd20 ct20 : Value}
    (a20 : PySem.W.nsIn K mainGlobals "law" = some (some (.ref f20))) (l20 : K.lookup f20 = some ⟨oc20, od20, .func (PySem.W.fnOf "law" "law" (defArgs s_law) (defBody s_law) (defScope s_law) .none kV20 dc20 pm20 an20 cd20 ct20), sl20⟩) (c20 : PySem.W.codeIn K cd20 "law" = true) (k20 : PySem.W.keepIn K (.ref f20) = true)
    (z_tuple : PySem.W.nsIn K mainGlobals "tuple" = some none)
    (z_reversed : PySem.W.nsIn K mainGlobals "reversed" = some none)
    (z_len : PySem.W.nsIn K mainGlobals "len" = some none)
    (z_range : PySem.W.nsIn K mainGlobals "range" = some none)
    (z_int : PySem.W.nsIn K mainGlobals "int" = some none)
    (z_abs : PySem.W.nsIn K mainGlobals "abs" = some none)
    (z_list : PySem.W.nsIn K mainGlobals "list" = some none)
    (z_isinstance : PySem.W.nsIn K mainGlobals "isinstance" = some none)
    (z_bool : PySem.W.nsIn K mainGlobals "bool" = some none)
    : ∃ fd : FuncData, (∀ (s : Shared) (v : Value), BindsTo s fd ⟨[v], []⟩ [("script", v)]) ∧ ∀ base : Heap, K.In base → base.Ns mainGlobals mg → FnOk P w K mg base (L2.CX P w) 6 fa fd ["script"] (spOf mg K sp_law) := by
  have z_tuple := PySem.W.mg_none_of X G z_tuple
  have z_reversed := PySem.W.mg_none_of X G z_reversed
  have z_len := PySem.W.mg_none_of X G z_len
  have z_range := PySem.W.mg_none_of X G z_range
  have z_int := PySem.W.mg_none_of X G z_int
  have z_abs := PySem.W.mg_none_of X G z_abs
  have z_list := PySem.W.mg_none_of X G z_list
  have z_isinstance := PySem.W.mg_none_of X G z_isinstance
  have z_bool := PySem.W.mg_none_of X G z_bool
  have A0 : At K mg "append_letter" s_append_letter := ⟨f0, _, PySem.W.mg_of X G a0, fun_mk (st := s_append_letter) l0 c0 k0⟩
  have A1 : At K mg "reduced" s_reduced := ⟨f1, _, PySem.W.mg_of X G a1, fun_mk (st := s_reduced) l1 c1 k1⟩
  have A2 : At K mg "inverse" s_inverse := ⟨f2, _, PySem.W.mg_of X G a2, fun_mk (st := s_inverse) l2 c2 k2⟩
  have A3 : At K mg "combined" s_combined := ⟨f3, _, PySem.W.mg_of X G a3, fun_mk (st := s_combined) l3 c3 k3⟩
  have A4 : At K mg "cyclic_parts" s_cyclic_parts := ⟨f4, _, PySem.W.mg_of X G a4, fun_mk (st := s_cyclic_parts) l4 c4 k4⟩
  have A5 : At K mg "rotations" s_rotations := ⟨f5, _, PySem.W.mg_of X G a5, fun_mk (st := s_rotations) l5 c5 k5⟩
  have A6 : At K mg "conjugator" s_conjugator := ⟨f6, _, PySem.W.mg_of X G a6, fun_mk (st := s_conjugator) l6 c6 k6⟩
  have A7 : At K mg "_law_mix" s__law_mix := ⟨f7, _, PySem.W.mg_of X G a7, fun_mk (st := s__law_mix) l7 c7 k7⟩
  have A8 : At K mg "_law_begin" s__law_begin := ⟨f8, _, PySem.W.mg_of X G a8, fun_mk (st := s__law_begin) l8 c8 k8⟩
  have A9 : At K mg "_law_draw" s__law_draw := ⟨f9, _, PySem.W.mg_of X G a9, fun_mk (st := s__law_draw) l9 c9 k9⟩
  have A10 : At K mg "_law_pick" s__law_pick := ⟨f10, _, PySem.W.mg_of X G a10, fun_mk (st := s__law_pick) l10 c10 k10⟩
  have A11 : At K mg "_law_whole" s__law_whole := ⟨f11, _, PySem.W.mg_of X G a11, fun_mk (st := s__law_whole) l11 c11 k11⟩
  have A12 : At K mg "_law_reduce" s__law_reduce := ⟨f12, _, PySem.W.mg_of X G a12, fun_mk (st := s__law_reduce) l12 c12 k12⟩
  have A13 : At K mg "_law_turned_word" s__law_turned_word := ⟨f13, _, PySem.W.mg_of X G a13, fun_mk (st := s__law_turned_word) l13 c13 k13⟩
  have A14 : At K mg "_law_times" s__law_times := ⟨f14, _, PySem.W.mg_of X G a14, fun_mk (st := s__law_times) l14 c14 k14⟩
  have A15 : At K mg "_law_order" s__law_order := ⟨f15, _, PySem.W.mg_of X G a15, fun_mk (st := s__law_order) l15 c15 k15⟩
  have A16 : At K mg "_law_letters" s__law_letters := ⟨f16, _, PySem.W.mg_of X G a16, fun_mk (st := s__law_letters) l16 c16 k16⟩
  have A17 : At K mg "_law_core" s__law_core := ⟨f17, _, PySem.W.mg_of X G a17, fun_mk (st := s__law_core) l17 c17 k17⟩
  have A18 : At K mg "_law_round" s__law_round := ⟨f18, _, PySem.W.mg_of X G a18, fun_mk (st := s__law_round) l18 c18 k18⟩
  have A19 : At K mg "_law_holds" s__law_holds := ⟨f19, _, PySem.W.mg_of X G a19, fun_mk (st := s__law_holds) l19 c19 k19⟩
  have A20 : At K mg "law" s_law := ⟨f20, _, PySem.W.mg_of X G a20, fun_mk (st := s_law) l20 c20 k20⟩
  have e := hfa.symm.trans (PySem.W.mg_of X G a20)
  cases e
  refine ⟨_, fun s v => .of_eq (b_law kV20 dc20 pm20 an20 cd20 ct20 [v] rfl), fun base _ _ => ?_⟩
  have D_append_letter : Df P w K mg base "append_letter" s_append_letter 1 ["row", "letter"] sp_append_letter := ok_append_letter A0
  have D_reduced : Df P w K mg base "reduced" s_reduced 2 ["word"] sp_reduced := ok_reduced z_tuple D_append_letter A1
  have D_inverse : Df P w K mg base "inverse" s_inverse 3 ["word"] sp_inverse := ok_inverse z_reversed z_tuple D_reduced A2
  have D_combined : Df P w K mg base "combined" s_combined 3 ["first", "second"] sp_combined := ok_combined D_reduced A3
  have D_cyclic_parts : Df P w K mg base "cyclic_parts" s_cyclic_parts 3 ["word"] sp_cyclic_parts := ok_cyclic_parts z_len D_reduced A4
  have D_rotations : Df P w K mg base "rotations" s_rotations 1 ["core"] sp_rotations := ok_rotations z_len z_range A5
  have D_conjugator : Df P w K mg base "conjugator" s_conjugator 4 ["first", "second"] sp_conjugator := ok_conjugator z_len z_range D_cyclic_parts D_rotations D_combined D_inverse A6
  have D__law_mix : Df P w K mg base "_law_mix" s__law_mix 1 ["number", "turn"] sp__law_mix := ok__law_mix z_int A7
  have D__law_begin : Df P w K mg base "_law_begin" s__law_begin 2 ["script"] sp__law_begin := ok__law_begin z_len z_abs z_int z_list D__law_mix A8
  have D__law_draw : Df P w K mg base "_law_draw" s__law_draw 2 ["state", "limit"] sp__law_draw := ok__law_draw z_len z_abs z_int D__law_mix A9
  have D__law_pick : Df P w K mg base "_law_pick" s__law_pick 3 ["state", "some"] sp__law_pick := ok__law_pick z_len D__law_draw A10
  have D__law_whole : Df P w K mg base "_law_whole" s__law_whole 1 ["value", "low", "high"] sp__law_whole := ok__law_whole z_isinstance z_int z_bool A11
  have D__law_reduce : Df P w K mg base "_law_reduce" s__law_reduce 1 ["word"] sp__law_reduce := ok__law_reduce z_tuple A12
  have D__law_turned_word : Df P w K mg base "_law_turned_word" s__law_turned_word 2 ["word"] sp__law_turned_word := ok__law_turned_word z_len z_range z_tuple D__law_reduce A13
  have D__law_times : Df P w K mg base "_law_times" s__law_times 2 ["first", "second"] sp__law_times := ok__law_times D__law_reduce A14
  have D__law_order : Df P w K mg base "_law_order" s__law_order 1 ["word"] sp__law_order := ok__law_order z_abs z_int z_tuple z_len A15
  have D__law_letters : Df P w K mg base "_law_letters" s__law_letters 3 ["state", "many", "pegs"] sp__law_letters := ok__law_letters z_range z_tuple D__law_draw A16
  have D__law_core : Df P w K mg base "_law_core" s__law_core 2 ["word"] sp__law_core := ok__law_core z_len z_range D__law_reduce A17
  have D__law_round : Df P w K mg base "_law_round" s__law_round 3 ["word"] sp__law_round := ok__law_round z_len z_range D__law_core D__law_order A18
  have D__law_holds : Df P w K mg base "_law_holds" s__law_holds 5 ["first", "second"] sp__law_holds := ok__law_holds z_isinstance z_tuple z_len D_conjugator D__law_round D__law_whole D__law_reduce D__law_times D__law_turned_word A19
  have D_law : Df P w K mg base "law" s_law 6 ["script"] sp_law := ok_law z_range z_len D__law_begin D__law_pick D__law_letters D__law_draw D__law_reduce D__law_turned_word D__law_holds D_conjugator A20
  exact fn_of_df D_law (PySem.W.mg_of X G a20) l20
end MP
open PySem PySem.W PyProof.Rows
set_option maxRecDepth 100000 in
set_option maxHeartbeats 0 in
theorem PySem.Challenge.cw_spoolarms_k10_conjugators_holds : PySem.Challenge.rw_spoolarms_k10_conjugators.Holds := by
  w_on; o_law; k_head; (case hw => w_witness2)
  k_fill
  refine MP.walk_mp (l := PySem.Challenge.rw_spoolarms_k10_conjugators) (k := 6) (sp := MP.sp_law) rfl rfl ⟨rfl, by decide, by decide⟩ (fun w h Y => PySem.W.kIn_of Y) ?F MP.sp_law_ok
  case F =>
    intro w mg fa h KX G hmg
    refine' MP.all_mk KX G hmg ?a0 ?l0 ?c0 ?k0 ?a1 ?l1 ?c1 ?k1 ?a2 ?l2 ?c2 ?k2 ?a3 ?l3 ?c3 ?k3 ?a4 ?l4 ?c4 ?k4 ?a5 ?l5 ?c5 ?k5 ?a6 ?l6 ?c6 ?k6 ?a7 ?l7 ?c7 ?k7 ?a8 ?l8 ?c8 ?k8 ?a9 ?l9 ?c9 ?k9 ?a10 ?l10 ?c10 ?k10 ?a11 ?l11 ?c11 ?k11 ?a12 ?l12 ?c12 ?k12 ?a13 ?l13 ?c13 ?k13 ?a14 ?l14 ?c14 ?k14 ?a15 ?l15 ?c15 ?k15 ?a16 ?l16 ?c16 ?k16 ?a17 ?l17 ?c17 ?k17 ?a18 ?l18 ?c18 ?k18 ?a19 ?l19 ?c19 ?k19 ?a20 ?l20 ?c20 ?k20 ?z_tuple ?z_reversed ?z_len ?z_range ?z_int ?z_abs ?z_list ?z_isinstance ?z_bool
    (case a0 => k_is)
    (case l0 => k_is)
    (case c0 => k_is)
    (case k0 => k_is)
    (case a1 => k_is)
    (case l1 => k_is)
    (case c1 => k_is)
    (case k1 => k_is)
    (case a2 => k_is)
    (case l2 => k_is)
    (case c2 => k_is)
    (case k2 => k_is)
    (case a3 => k_is)
    (case l3 => k_is)
    (case c3 => k_is)
    (case k3 => k_is)
    (case a4 => k_is)
    (case l4 => k_is)
    (case c4 => k_is)
    (case k4 => k_is)
    (case a5 => k_is)
    (case l5 => k_is)
    (case c5 => k_is)
    (case k5 => k_is)
    (case a6 => k_is)
    (case l6 => k_is)
    (case c6 => k_is)
    (case k6 => k_is)
    (case a7 => k_is)
    (case l7 => k_is)
    (case c7 => k_is)
    (case k7 => k_is)
    (case a8 => k_is)
    (case l8 => k_is)
    (case c8 => k_is)
    (case k8 => k_is)
    (case a9 => k_is)
    (case l9 => k_is)
    (case c9 => k_is)
    (case k9 => k_is)
    (case a10 => k_is)
    (case l10 => k_is)
    (case c10 => k_is)
    (case k10 => k_is)
    (case a11 => k_is)
    (case l11 => k_is)
    (case c11 => k_is)
    (case k11 => k_is)
    (case a12 => k_is)
    (case l12 => k_is)
    (case c12 => k_is)
    (case k12 => k_is)
    (case a13 => k_is)
    (case l13 => k_is)
    (case c13 => k_is)
    (case k13 => k_is)
    (case a14 => k_is)
    (case l14 => k_is)
    (case c14 => k_is)
    (case k14 => k_is)
    (case a15 => k_is)
    (case l15 => k_is)
    (case c15 => k_is)
    (case k15 => k_is)
    (case a16 => k_is)
    (case l16 => k_is)
    (case c16 => k_is)
    (case k16 => k_is)
    (case a17 => k_is)
    (case l17 => k_is)
    (case c17 => k_is)
    (case k17 => k_is)
    (case a18 => k_is)
    (case l18 => k_is)
    (case c18 => k_is)
    (case k18 => k_is)
    (case a19 => k_is)
    (case l19 => k_is)
    (case c19 => k_is)
    (case k19 => k_is)
    (case a20 => k_is)
    (case l20 => k_is)
    (case c20 => k_is)
    (case k20 => k_is)
    (case z_tuple => k_is)
    (case z_reversed => k_is)
    (case z_len => k_is)
    (case z_range => k_is)
    (case z_int => k_is)
    (case z_abs => k_is)
    (case z_list => k_is)
    (case z_isinstance => k_is)
    (case z_bool => k_is)
#print axioms PySem.Challenge.cw_spoolarms_k10_conjugators_holds
