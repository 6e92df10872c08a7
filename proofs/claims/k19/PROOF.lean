import PyProof.Rows.All
import Wide.All
import OpenK.AllK
import Wide.FinOn
import HandS.ForMost
import HandS.ForExc
import HandS.TupAny
import HandS.Style
import PyProof.StrLawsRepr
import HandS.Deep
import HandS.EndBits
import PyProof.Rows.RegStrFacts
import PyProof.ReprRoads
import PySem.Challenge.RW_keptrest_k19_ways_of_winds
set_option Elab.async false
set_option autoImplicit false
set_option linter.all false
set_option maxRecDepth 100000
set_option maxHeartbeats 8000000
set_option maxHeartbeats 4000000
/-! Cl, part A: clean data, the clean heap, how they lie in the abstract heap of HandS; denotations and their readings. -/
namespace Cl
open PySem PySem.Spec L2

/-- clean data: tuples are trees; fl: a locked list (the script); ref n: a mutable object by number; v: any other value that never changes -/
inductive D where
  | non | bl (b : Bool) | int (i : Int) | str (x : Str) | tup (xs : List D) | fl (xs : List D) | ref (n : Nat) | v (x : V)
instance : Inhabited D := ⟨.non⟩

inductive O where
  | lst (xs : List D) | dK (kvs : List (Key × D)) | dT (kvs : List (List Key × D))
abbrev CH := List O
abbrev Sc := List (Option D)

def Fz (K : PySem.W.Frag) (H : Hp) (a : Addr) (vs : List V) : Prop :=
  (∃ o, H a = some (.frz o (.lst vs))) ∨
    ∃ (o : Obj) (its : Array Value) (n : Nat), K.lookup a = some o ∧ o.cls = .type "list" ∧ o.dict = none ∧ o.data = .seq its n ∧ its.size ≤ sizeLine ∧ Vals vs its.toList
theorem Fz.sq {K : PySem.W.Frag} {H : Hp} {a : Addr} {vs : List V} (h : Fz K H a vs) : SqL K H a vs := h.elim (fun x => .inl (.inr x)) .inr

mutual
inductive Rl (K : PySem.W.Frag) (ad : List Addr) (H : Hp) : D → V → Prop
  | non : Rl K ad H .non .non
  | bl (b : Bool) : Rl K ad H (.bl b) (.bl b)
  | int (i : Int) : Rl K ad H (.int i) (.int i)
  | str (x : Str) : Rl K ad H (.str x) (.str x)
  | tup {ds : List D} {a : Addr} {vs : List V} : H a = some (.tup vs) → Rls K ad H ds vs → Rl K ad H (.tup ds) (.ref a)
  | fl {ds : List D} {a : Addr} {vs : List V} : Fz K H a vs → Rls K ad H ds vs → Rl K ad H (.fl ds) (.ref a)
  | ref {n : Nat} {a : Addr} : ad[n]? = some a → Rl K ad H (.ref n) (.ref a)
  | v (x : V) : Rl K ad H (.v x) x
inductive Rls (K : PySem.W.Frag) (ad : List Addr) (H : Hp) : List D → List V → Prop
  | nil : Rls K ad H [] []
  | cons {d : D} {v : V} {ds : List D} {vs : List V} : Rl K ad H d v → Rls K ad H ds vs → Rls K ad H (d :: ds) (v :: vs)
end

structure Ext (ad : List Addr) (H : Hp) (ad' : List Addr) (H' : Hp) : Prop where
  pre : ∀ (n : Nat) (a : Addr), ad[n]? = some a → ad'[n]? = some a
  tup : ∀ (a : Addr) (vs : List V), H a = some (.tup vs) → H' a = some (.tup vs)
  frz : ∀ (a : Addr) (o : Obj) (u : HO), H a = some (.frz o u) → H' a = some (.frz o u)
theorem Ext.refl (ad : List Addr) (H : Hp) : Ext ad H ad H := ⟨fun _ _ h => h, fun _ _ h => h, fun _ _ _ h => h⟩
theorem Ext.trans {ad ad1 ad2 : List Addr} {H H1 H2 : Hp} (a : Ext ad H ad1 H1) (b : Ext ad1 H1 ad2 H2) : Ext ad H ad2 H2 :=
  ⟨fun n x h => b.pre n x (a.pre n x h), fun n x h => b.tup n x (a.tup n x h), fun n x u h => b.frz n x u (a.frz n x u h)⟩

section
variable {K : PySem.W.Frag} {ad ad' ad1 ad2 : List Addr} {H H' H1 H2 : Hp} {C C' C1 C2 : CH}
theorem Fz.mono (E : Ext ad H ad' H') {a : Addr} {vs : List V} (h : Fz K H a vs) : Fz K H' a vs :=
  h.elim (fun ⟨o, x⟩ => .inl ⟨o, E.frz _ _ _ x⟩) .inr
mutual
theorem Rl.mono (E : Ext ad H ad' H') : ∀ {d : D} {v : V}, Rl K ad H d v → Rl K ad' H' d v
  | _, _, .non => .non
  | _, _, .bl b => .bl b
  | _, _, .int i => .int i
  | _, _, .str x => .str x
  | _, _, .tup h r => .tup (E.tup _ _ h) (Rls.mono E r)
  | _, _, .fl h r => .fl (h.mono E) (Rls.mono E r)
  | _, _, .ref h => .ref (E.pre _ _ h)
  | _, _, .v x => .v x
theorem Rls.mono (E : Ext ad H ad' H') : ∀ {ds : List D} {vs : List V}, Rls K ad H ds vs → Rls K ad' H' ds vs
  | _, _, .nil => .nil
  | _, _, .cons r t => .cons (Rl.mono E r) (Rls.mono E t)
end
theorem Rls.length : ∀ {ds : List D} {vs : List V}, Rls K ad H ds vs → ds.length = vs.length
  | _, _, .nil => rfl
  | _, _, .cons _ t => by simp [Rls.length t]
theorem Rls.get : ∀ {ds : List D} {vs : List V} {i : Nat} {d : D}, Rls K ad H ds vs → ds[i]? = some d → ∃ v, vs[i]? = some v ∧ Rl K ad H d v
  | _, _, i, d, .nil, e => by simp at e
  | _, _, 0, d, .cons r _, e => by simp at e; subst e; exact ⟨_, rfl, r⟩
  | _, _, i + 1, d, .cons _ t, e => by
    obtain ⟨v, h1, h2⟩ := Rls.get (i := i) t (by simpa using e)
    exact ⟨v, by simpa using h1, h2⟩
theorem Rls.get' : ∀ {ds : List D} {vs : List V} {i : Nat} {v : V}, Rls K ad H ds vs → vs[i]? = some v → ∃ d, ds[i]? = some d ∧ Rl K ad H d v
  | _, _, i, v, .nil, e => by simp at e
  | _, _, 0, v, .cons r _, e => by simp at e; subst e; exact ⟨_, rfl, r⟩
  | _, _, i + 1, v, .cons _ t, e => by
    obtain ⟨d, h1, h2⟩ := Rls.get' (i := i) t (by simpa using e)
    exact ⟨d, by simpa using h1, h2⟩
theorem Rls.append : ∀ {ds es : List D} {vs ws : List V}, Rls K ad H ds vs → Rls K ad H es ws → Rls K ad H (ds ++ es) (vs ++ ws)
  | _, _, _, _, .nil, s => s
  | _, _, _, _, .cons r t, s => .cons r (Rls.append t s)
theorem Rls.one {d : D} {v : V} (r : Rl K ad H d v) : Rls K ad H [d] [v] := .cons r .nil
theorem Rls.take : ∀ {ds : List D} {vs : List V} (n : Nat), Rls K ad H ds vs → Rls K ad H (ds.take n) (vs.take n)
  | _, _, 0, _ => by simpa using Rls.nil
  | _, _, _ + 1, .nil => by simpa using Rls.nil
  | _, _, n + 1, .cons r t => .cons r (Rls.take n t)
theorem Rls.drop : ∀ {ds : List D} {vs : List V} (n : Nat), Rls K ad H ds vs → Rls K ad H (ds.drop n) (vs.drop n)
  | _, _, 0, r => r
  | _, _, _ + 1, .nil => .nil
  | _, _, n + 1, .cons r t => Rls.drop n t
theorem Rls.reverse : ∀ {ds : List D} {vs : List V}, Rls K ad H ds vs → Rls K ad H ds.reverse vs.reverse
  | _, _, .nil => .nil
  | _, _, .cons r t => by
    rw [List.reverse_cons, List.reverse_cons]
    exact (Rls.reverse t).append (.one r)
theorem Rls.set {d : D} {v : V} (r : Rl K ad H d v) : ∀ {ds : List D} {vs : List V} (i : Nat), Rls K ad H ds vs → Rls K ad H (ds.set i d) (vs.set i v)
  | _, _, _, .nil => .nil
  | _, _, 0, .cons _ t => .cons r t
  | _, _, i + 1, .cons q t => .cons q (Rls.set r i t)
theorem Rls.dropLast {ds : List D} {vs : List V} (r : Rls K ad H ds vs) : Rls K ad H ds.dropLast vs.dropLast := by
  rw [List.dropLast_eq_take, List.dropLast_eq_take, r.length]
  exact r.take _

/-- entries of a dict -/
def KR {κ : Type} (K : PySem.W.Frag) (ad : List Addr) (H : Hp) : List (κ × D) → List (κ × V) → Prop := Paired fun p q => p.1 = q.1 ∧ Rl K ad H p.2 q.2
theorem KR.mono {κ : Type} (E : Ext ad H ad' H') {xs : List (κ × D)} {ys : List (κ × V)} (h : KR K ad H xs ys) : KR K ad' H' xs ys :=
  Paired.mapP h fun _ _ z => ⟨z.1, z.2.mono E⟩

def OR (K : PySem.W.Frag) (ad : List Addr) (H : Hp) : O → HO → Prop
  | .lst ds, u => ∃ vs, u = .lst vs ∧ Rls K ad H ds vs
  | .dK kvs, u => ∃ vs, u = .dK vs ∧ KR K ad H kvs vs
  | .dT kvs, u => ∃ vs, u = .dT vs ∧ KR K ad H kvs vs
theorem OR.mono (E : Ext ad H ad' H') {o : O} {u : HO} (h : OR K ad H o u) : OR K ad' H' o u := by
  cases o with
  | lst ds => obtain ⟨vs, e, r⟩ := h; exact ⟨vs, e, r.mono E⟩
  | dK ds => obtain ⟨vs, e, r⟩ := h; exact ⟨vs, e, r.mono E⟩
  | dT ds => obtain ⟨vs, e, r⟩ := h; exact ⟨vs, e, r.mono E⟩
theorem OR.notTup {o : O} {u : HO} (h : OR K ad H o u) (vs : List V) : u ≠ .tup vs := by
  cases o <;> (obtain ⟨vs, e, r⟩ := h; subst e; intro z; cases z)
theorem OR.notFrz {o : O} {u : HO} (h : OR K ad H o u) (ob : Obj) (w : HO) : u ≠ .frz ob w := by
  cases o <;> (obtain ⟨vs, e, r⟩ := h; subst e; intro z; cases z)

structure HRel (K : PySem.W.Frag) (ad : List Addr) (H : Hp) (C : CH) : Prop where
  len : ad.length = C.length
  obj : ∀ (n : Nat) (o : O) (a : Addr), C[n]? = some o → ad[n]? = some a → ∃ u, H a = some u ∧ OR K ad H o u
  inj : ∀ (n m : Nat) (a : Addr), ad[n]? = some a → ad[m]? = some a → n = m
theorem HRel.at (h : HRel K ad H C) {n : Nat} {o : O} (e : C[n]? = some o) : ∃ a u, ad[n]? = some a ∧ H a = some u ∧ OR K ad H o u := by
  have l : n < ad.length := by rw [h.len]; exact (List.getElem?_eq_some_iff.mp e).1
  obtain ⟨u, h1, h2⟩ := h.obj n o ad[n] e (List.getElem?_eq_getElem l)
  exact ⟨_, u, List.getElem?_eq_getElem l, h1, h2⟩
theorem HRel.there (h : HRel K ad H C) {n : Nat} {a : Addr} (e : ad[n]? = some a) : ∃ u, H a = some u := by
  have l : n < C.length := by rw [← h.len]; exact (List.getElem?_eq_some_iff.mp e).1
  obtain ⟨u, h1, _⟩ := h.obj n C[n] a (List.getElem?_eq_getElem l) e
  exact ⟨u, h1⟩
theorem HRel.ne (h : HRel K ad H C) {n : Nat} {a p : Addr} (e : ad[n]? = some a) (hp : H p = none) : a ≠ p := by
  obtain ⟨u, q⟩ := h.there e
  exact ne_of_none q hp
/-- a new object that the clean heap doesn't hold -/
theorem ext_new {p : Addr} (hp : H p = none) {u : HO} : Ext ad H ad (upd H p u) :=
  ⟨fun _ _ h => h, fun a vs h => by rw [upd_ne (ne_of_none h hp)]; exact h, fun a o u h => by rw [upd_ne (ne_of_none h hp)]; exact h⟩
theorem HRel.new (h : HRel K ad H C) {p : Addr} (hp : H p = none) {u : HO} : HRel K ad (upd H p u) C :=
  ⟨h.len, fun n o a e1 e2 => by
    obtain ⟨w, h1, h2⟩ := h.obj n o a e1 e2
    exact ⟨w, by rw [upd_ne (h.ne e2 hp)]; exact h1, h2.mono (ext_new hp)⟩, h.inj⟩
/-- a new object of the clean heap -/
theorem get_snoc {α : Type} {l : List α} {x y : α} {n : Nat} : (l ++ [x])[n]? = some y → l[n]? = some y ∨ (n = l.length ∧ y = x) := by
  intro e
  rw [List.getElem?_append] at e
  split at e
  · exact .inl e
  · rename_i hn
    have : n - l.length = 0 := by
      rcases Nat.lt_or_ge (n - l.length) 1 with z | z
      · omega
      · rw [List.getElem?_eq_none (by simpa using z)] at e
        cases e
    rw [this] at e
    simp at e
    exact .inr ⟨by omega, e.symm⟩
theorem ext_alloc {p : Addr} (hp : H p = none) {u : HO} : Ext ad H (ad ++ [p]) (upd H p u) :=
  ⟨fun n a h => by rw [List.getElem?_append_left (List.getElem?_eq_some_iff.mp h).1]; exact h, (ext_new (ad := ad) hp).tup, (ext_new (ad := ad) hp).frz⟩
theorem HRel.alloc (h : HRel K ad H C) {p : Addr} (hp : H p = none) {u : HO} {o : O} (r : OR K (ad ++ [p]) (upd H p u) o u) : HRel K (ad ++ [p]) (upd H p u) (C ++ [o]) := by
  refine ⟨by simp [h.len], fun n q a e1 e2 => ?_, fun n m a e1 e2 => ?_⟩
  · rcases get_snoc e1 with f1 | ⟨f1, rfl⟩
    · rcases get_snoc e2 with f2 | ⟨f2, rfl⟩
      · obtain ⟨w, h1, h2⟩ := h.obj n q a f1 f2
        exact ⟨w, by rw [upd_ne (h.ne f2 hp)]; exact h1, h2.mono (ext_alloc hp)⟩
      · have := (List.getElem?_eq_some_iff.mp f1).1
        rw [← h.len] at this
        omega
    · rcases get_snoc e2 with f2 | ⟨f2, rfl⟩
      · have := (List.getElem?_eq_some_iff.mp f2).1
        rw [h.len] at this
        omega
      · exact ⟨u, upd_same, r⟩
  · rcases get_snoc e1 with f1 | ⟨f1, g1⟩
    · rcases get_snoc e2 with f2 | ⟨f2, g2⟩
      · exact h.inj n m a f1 f2
      · exact absurd g2 (h.ne f1 hp)
    · rcases get_snoc e2 with f2 | ⟨f2, g2⟩
      · exact absurd g1 (h.ne f2 hp)
      · omega
theorem alloc_at (h : HRel K ad H C) {p : Addr} : (ad ++ [p])[C.length]? = some p := by rw [← h.len]; simp
/-- an object written -/
theorem ext_set (h : HRel K ad H C) {n : Nat} {a : Addr} {o : O} (e : C[n]? = some o) (ea : ad[n]? = some a) {u : HO} : Ext ad H ad (upd H a u) := by
  obtain ⟨w, h1, h2⟩ := h.obj n o a e ea
  refine ⟨fun _ _ h => h, fun b vs q => ?_, fun b ob z q => ?_⟩
  · rw [upd_ne]
    · exact q
    · rintro rfl
      rw [h1] at q
      exact h2.notTup vs (Option.some.inj q)
  · rw [upd_ne]
    · exact q
    · rintro rfl
      rw [h1] at q
      exact h2.notFrz ob z (Option.some.inj q)
theorem HRel.set (h : HRel K ad H C) {n : Nat} {a : Addr} {o o' : O} (e : C[n]? = some o) (ea : ad[n]? = some a) {u : HO} (r : OR K ad (upd H a u) o' u) : HRel K ad (upd H a u) (C.set n o') := by
  have E : Ext ad H ad (upd H a u) := ext_set h e ea
  refine ⟨by simp [h.len], fun m q b e1 e2 => ?_, h.inj⟩
  by_cases hm : m = n
  · subst hm
    rw [ea] at e2; cases e2
    rw [List.getElem?_set_self (List.getElem?_eq_some_iff.mp e).1] at e1
    cases e1
    exact ⟨u, upd_same, r⟩
  · rw [List.getElem?_set_ne (Ne.symm hm)] at e1
    obtain ⟨w, h1, h2⟩ := h.obj m q b e1 e2
    have : b ≠ a := fun z => hm (h.inj m n a (z ▸ e2) ea)
    exact ⟨w, by rw [upd_ne this]; exact h1, h2.mono E⟩
/-- the newest objects forgotten -/
theorem HRel.cut (h : HRel K ad H C) (k : Nat) (hc : ∀ (n : Nat) (o : O) (u : HO), n < k → C[n]? = some o → OR K ad H o u → OR K (ad.take k) H o u) : HRel K (ad.take k) H (C.take k) := by
  refine ⟨by simp [h.len], fun n o a e1 e2 => ?_, fun n m a e1 e2 => ?_⟩
  · rw [List.getElem?_take] at e1 e2
    split at e1
    · rename_i hn
      rw [if_pos hn] at e2
      obtain ⟨u, h1, h2⟩ := h.obj n o a e1 e2
      exact ⟨u, h1, hc n o u hn e1 h2⟩
    · cases e1
  · rw [List.getElem?_take] at e1 e2
    split at e1
    · split at e2
      · exact h.inj n m a e1 e2
      · cases e2
    · cases e1

/-- a frame's slots -/
structure SRel (K : PySem.W.Frag) (ad : List Addr) (H : Hp) (sc : Sc) (σ : St) : Prop where
  len : sc.length = σ.length
  get : ∀ (i : Nat) (d : D), sc[i]? = some (some d) → ∃ v, σ[i]? = some (some v) ∧ Rl K ad H d v
theorem SRel.mono {sc : Sc} {σ : St} (E : Ext ad H ad' H') (h : SRel K ad H sc σ) : SRel K ad' H' sc σ :=
  ⟨h.len, fun i d e => let ⟨v, h1, h2⟩ := h.get i d e; ⟨v, h1, h2.mono E⟩⟩
theorem SRel.set {sc : Sc} {σ : St} (h : SRel K ad H sc σ) (i : Nat) {d : D} {v : V} (r : Rl K ad H d v) : SRel K ad H (sc.set i (some d)) (σ.set i (some v)) := by
  refine ⟨by simp [h.len], fun j e q => ?_⟩
  by_cases hj : j = i
  · subst hj
    have hl : j < sc.length := by
      have := (List.getElem?_eq_some_iff.mp q).1
      simpa using this
    rw [List.getElem?_set_self hl] at q
    cases q
    exact ⟨v, List.getElem?_set_self (by rw [← h.len]; exact hl), r⟩
  · rw [List.getElem?_set_ne (Ne.symm hj)] at q
    obtain ⟨w, h1, h2⟩ := h.get j e q
    exact ⟨w, by rw [List.getElem?_set_ne (Ne.symm hj)]; exact h1, h2⟩
theorem SRel.unset {sc : Sc} {σ : St} (h : SRel K ad H sc σ) (i : Nat) : SRel K ad H (sc.set i none) (σ.set i none) := by
  refine ⟨by simp [h.len], fun j e q => ?_⟩
  by_cases hj : j = i
  · subst hj
    have hl : j < sc.length := by
      have := (List.getElem?_eq_some_iff.mp q).1
      simpa using this
    rw [List.getElem?_set_self hl] at q
    cases q
  · rw [List.getElem?_set_ne (Ne.symm hj)] at q
    obtain ⟨w, h1, h2⟩ := h.get j e q
    exact ⟨w, by rw [List.getElem?_set_ne (Ne.symm hj)]; exact h1, h2⟩
end

/-! ### denotations -/
/-- an exception: its class, its fields -/
structure XD where
  cls : Addr
  fs : List (Str × D)
inductive Res (α : Type) where
  | ok (a : α) (C : CH) | ex (x : XD) (C : CH) | bad
def Res.bind {α β : Type} : Res α → (α → CH → Res β) → Res β
  | .ok a C, f => f a C
  | .ex x C, _ => .ex x C
  | .bad, _ => .bad
@[simp] theorem Res.bind_ok {α β : Type} (a : α) (C : CH) (f : α → CH → Res β) : (Res.ok a C).bind f = f a C := rfl
@[simp] theorem Res.bind_ex {α β : Type} (x : XD) (C : CH) (f : α → CH → Res β) : (Res.ex x C : Res α).bind f = .ex x C := rfl
@[simp] theorem Res.bind_bad {α β : Type} (f : α → CH → Res β) : (Res.bad : Res α).bind f = .bad := rfl
def Res.lift {α : Type} : Option (α × CH) → Res α
  | some (a, C) => .ok a C
  | none => .bad
@[simp] theorem Res.lift_some {α : Type} (a : α) (C : CH) : Res.lift (some (a, C)) = .ok a C := rfl
@[simp] theorem Res.lift_none {α : Type} : Res.lift (none : Option (α × CH)) = .bad := rfl
inductive SOut where
  | nx (sc : Sc) (C : CH) | rt (d : D) (C : CH) | bk (sc : Sc) (C : CH) | ct (sc : Sc) (C : CH) | ex (x : XD) (sc : Sc) (C : CH) | bad
abbrev Fe := Sc → CH → Res D
abbrev Ft := Sc → CH → Res Bool
abbrev Fa := Sc → CH → Res (List D)
abbrev Fs := Sc → CH → SOut

section
variable (K : PySem.W.Frag)
/-- behind: a later heap, at which R -/
def Aft (ad : List Addr) (H : Hp) (C' : CH) (R : List Addr → Hp → Prop) (H' : Hp) : Prop := ∃ ad', Ext ad H ad' H' ∧ HRel K ad' H' C' ∧ R ad' H'
/-- the fields of an exception -/
def XF (ad : List Addr) (H : Hp) : List (Str × D) → Option Addr → Prop
  | [], d => d = none
  | f :: fs, d => ∃ a vs, d = some a ∧ H a = some (.xd vs) ∧ KR K ad H (f :: fs) vs
def XP (ad : List Addr) (H : Hp) (C' : CH) (x : XD) (c : Value) (d : Option Addr) (H' : Hp) : Prop :=
  c = .ref x.cls ∧ Aft K ad H C' (fun ad' H' => XF K ad' H' x.fs d) H'
/-- what is to be shown of a result -/
def RP {α : Type} (W : WX) (ad : List Addr) (H : Hp) (σ : St) : Res α → (α → CH → Prop) → Prop
  | .ok a C', k => k a C'
  | .ex x C', _ => ∀ c d H', XP K ad H C' x c d H' → W c d σ H'
  | .bad, _ => False
def tE (W : WX) (f : Fe) : TE := fun σ H Q => ∃ ad sc C, SRel K ad H sc σ ∧ HRel K ad H C ∧ RP K W ad H σ (f sc C) fun d C' => ∀ v H', Aft K ad H C' (fun ad' H' => Rl K ad' H' d v) H' → Q v H'
def tT (W : WX) (f : Ft) : TT := fun σ H Q => ∃ ad sc C, SRel K ad H sc σ ∧ HRel K ad H C ∧ RP K W ad H σ (f sc C) fun b C' => ∀ H', Aft K ad H C' (fun _ _ => True) H' → Q b H'
def tA (W : WX) (f : Fa) : TA := fun σ H Q => ∃ ad sc C, SRel K ad H sc σ ∧ HRel K ad H C ∧ RP K W ad H σ (f sc C) fun ds C' => ∀ vs H', Aft K ad H C' (fun ad' H' => Rls K ad' H' ds vs) H' → Q vs H'
/-- behind a statement -/
def SAft (ad : List Addr) (H : Hp) (sc' : Sc) (C' : CH) (σ' : St) (H' : Hp) : Prop := Aft K ad H C' (fun ad' H' => SRel K ad' H' sc' σ') H'
def SPo (W : WX) (ad : List Addr) (H : Hp) (D : Ends) : SOut → Prop
  | .nx sc' C' => ∀ σ' H', SAft K ad H sc' C' σ' H' → D.nx σ' H'
  | .rt d C' => ∀ v H', Aft K ad H C' (fun ad' H' => Rl K ad' H' d v) H' → D.rt v H'
  | .bk sc' C' => ∀ σ' H', SAft K ad H sc' C' σ' H' → D.bk σ' H'
  | .ct sc' C' => ∀ σ' H', SAft K ad H sc' C' σ' H' → D.ct σ' H'
  | .ex x sc' C' => ∀ c d σ' H', c = .ref x.cls → Aft K ad H C' (fun ad' H' => XF K ad' H' x.fs d ∧ SRel K ad' H' sc' σ') H' → W c d σ' H'
  | .bad => False
def tS (W : WX) (g : Fs) : TS := fun D σ H => ∃ ad sc C, SRel K ad H sc σ ∧ HRel K ad H C ∧ SPo K W ad H D (g sc C)
end
abbrev CE (X : Cx) (W : WX) (e : Expr) (f : Fe) : Prop := PE X e (tE X.K W f)
abbrev CT (X : Cx) (W : WX) (e : Expr) (f : Ft) : Prop := PT X e (tT X.K W f)
abbrev CA (X : Cx) (W : WX) (es : List Expr) (f : Fa) : Prop := PA X es (tA X.K W f)
abbrev CS (X : Cx) (W : WX) (st : Stmt) (g : Fs) : Prop := PS X st (tS X.K W g)
abbrev CSs (X : Cx) (W : WX) (sts : List Stmt) (g : Fs) : Prop := PSs X sts (tS X.K W g)

section
variable {K : PySem.W.Frag} {W : WX} {ad ad' ad1 ad2 : List Addr} {H H' H1 H2 : Hp} {C C' C1 C2 : CH} {σ : St}
theorem Aft.intro {R : List Addr → Hp → Prop} (h : HRel K ad H C) (r : R ad H) : Aft K ad H C R H := ⟨ad, .refl _ _, h, r⟩
theorem Aft.trans {R : List Addr → Hp → Prop} (E : Ext ad H ad1 H1) (a : Aft K ad1 H1 C R H') : Aft K ad H C R H' := by
  obtain ⟨ad2, E2, h2, r⟩ := a
  exact ⟨ad2, E.trans E2, h2, r⟩
theorem RP.imp {α : Type} {r : Res α} {k k' : α → CH → Prop} (h : RP K W ad H σ r k) (i : ∀ a C', k a C' → k' a C') : RP K W ad H σ r k' := by
  cases r with
  | ok a C' => exact i a C' h
  | ex x C' => exact h
  | bad => exact h
theorem RP.bind {α β : Type} {r : Res α} {f : α → CH → Res β} {k : β → CH → Prop} (h : RP K W ad H σ (r.bind f) k) : RP K W ad H σ r fun a C' => RP K W ad H σ (f a C') k := by
  cases r with
  | ok a C' => exact h
  | ex x C' => exact h
  | bad => exact h
theorem RP.later {α : Type} {r : Res α} {k k' : α → CH → Prop} (E : Ext ad H ad1 H1) (h : RP K W ad H σ r k) (i : ∀ a C', k a C' → k' a C') : RP K W ad1 H1 σ r k' := by
  cases r with
  | ok a C' => exact i a C' h
  | ex x C' => exact fun c d H' ⟨e, a⟩ => h c d H' ⟨e, a.trans E⟩
  | bad => exact h
theorem RP.lift {α : Type} {r : Option (α × CH)} {k : α → CH → Prop} (h : RP K W ad H σ (Res.lift r) k) : ∃ a C', r = some (a, C') ∧ k a C' := by
  cases r with
  | none => exact h.elim
  | some p => exact ⟨p.1, p.2, rfl, h⟩
end

theorem PE_imp {X : Cx} {e : Expr} {t t' : TE} (h : PE X e t) (i : ∀ σ H Q, t' σ H Q → t σ H Q) : PE X e t' := ⟨fun pins s σ H Q I z => h.run pins s σ H Q I (i σ H Q z)⟩
theorem PT_imp {X : Cx} {e : Expr} {t t' : TT} (h : PT X e t) (i : ∀ σ H Q, t' σ H Q → t σ H Q) : PT X e t' := ⟨fun pins s σ H Q I z => h.run pins s σ H Q I (i σ H Q z)⟩
theorem PW_imp {X : Cx} {e : Expr} {t t' : TT} (h : PW X e t) (i : ∀ σ H Q, t' σ H Q → t σ H Q) : PW X e t' := ⟨fun wh pins s σ H Q I z => h.run wh pins s σ H Q I (i σ H Q z)⟩
theorem PA_imp {X : Cx} {es : List Expr} {t t' : TA} (h : PA X es t) (i : ∀ σ H Q, t' σ H Q → t σ H Q) : PA X es t' := ⟨fun pos pins s σ H Q I z => h.run pos pins s σ H Q I (i σ H Q z)⟩
theorem PS_imp {X : Cx} {st : Stmt} {t t' : TS} (h : PS X st t) (i : ∀ D σ H, t' D σ H → t D σ H) : PS X st t' := ⟨fun pins s σ H D I z => h.run pins s σ H D I (i D σ H z)⟩
theorem PSs_imp {X : Cx} {st : List Stmt} {t t' : TS} (h : PSs X st t) (i : ∀ D σ H, t' D σ H → t D σ H) : PSs X st t' := ⟨fun pins s σ H D I z => h.run pins s σ H D I (i D σ H z)⟩
end Cl
set_option maxHeartbeats 4000000
/-! Cl, part B: the rules for expressions. -/
namespace Cl
open PySem PySem.Spec L2

/-- what a body's context bears -/
structure Ctx (k : Nat) (X : Cx) (W : WX) : Prop where
  tk : Takes X W
  calm : X.calm = true
  room : Room k X.A
  gd : X.A.guards = some []
  nd : X.N.Nodup
  ps : PassesOwn (model X.prog X.w) X.A X.env X.xe
theorem Ctx.un {k : Nat} {X : Cx} {W : WX} (c : Ctx k X W) : X.A.units + 64 < cLine := c.room.units
theorem Ctx.un1 {k : Nat} {X : Cx} {W : WX} (c : Ctx k X W) : X.A.units + 1 < cLine := by have := c.un; omega

/-- from one operand on -/
theorem tE_bind {K : PySem.W.Frag} {W : WX} {ad0 ad : List Addr} {H0 H : Hp} {sc : Sc} {C : CH} {σ : L2.St} {β : Type} {fa : Fe} {k : D → CH → Res β} {P : β → CH → Prop} {R : VK} (hs : SRel K ad H sc σ) (hh : HRel K ad H C) (E : Ext ad0 H0 ad H)
    (h : RP K W ad0 H0 σ ((fa sc C).bind k) P)
    (n : ∀ d C1 ad1 H1 v, Ext ad H ad1 H1 → SRel K ad1 H1 sc σ → HRel K ad1 H1 C1 → Rl K ad1 H1 d v → RP K W ad0 H0 σ (k d C1) P → R v H1) : tE K W fa σ H R := by
  refine ⟨ad, sc, C, hs, hh, ?_⟩
  refine (h.bind).later E fun d C1 q v H1 a => ?_
  obtain ⟨ad1, E1, h1, r⟩ := a
  exact n d C1 ad1 H1 v E1 (hs.mono E1) h1 r q
theorem tA_bind {K : PySem.W.Frag} {W : WX} {ad0 ad : List Addr} {H0 H : Hp} {sc : Sc} {C : CH} {σ : L2.St} {β : Type} {fa : Fa} {k : List D → CH → Res β} {P : β → CH → Prop} {R : List V → Hp → Prop} (hs : SRel K ad H sc σ) (hh : HRel K ad H C) (E : Ext ad0 H0 ad H)
    (h : RP K W ad0 H0 σ ((fa sc C).bind k) P)
    (n : ∀ d C1 ad1 H1 v, Ext ad H ad1 H1 → SRel K ad1 H1 sc σ → HRel K ad1 H1 C1 → Rls K ad1 H1 d v → RP K W ad0 H0 σ (k d C1) P → R v H1) : tA K W fa σ H R := by
  refine ⟨ad, sc, C, hs, hh, ?_⟩
  refine (h.bind).later E fun d C1 q v H1 a => ?_
  obtain ⟨ad1, E1, h1, r⟩ := a
  exact n d C1 ad1 H1 v E1 (hs.mono E1) h1 r q
theorem tT_bind {K : PySem.W.Frag} {W : WX} {ad0 ad : List Addr} {H0 H : Hp} {sc : Sc} {C : CH} {σ : L2.St} {β : Type} {fa : Ft} {k : Bool → CH → Res β} {P : β → CH → Prop} {R : Bool → Hp → Prop} (hs : SRel K ad H sc σ) (hh : HRel K ad H C) (E : Ext ad0 H0 ad H)
    (h : RP K W ad0 H0 σ ((fa sc C).bind k) P)
    (n : ∀ d C1 ad1 H1, Ext ad H ad1 H1 → SRel K ad1 H1 sc σ → HRel K ad1 H1 C1 → RP K W ad0 H0 σ (k d C1) P → R d H1) : tT K W fa σ H R := by
  refine ⟨ad, sc, C, hs, hh, ?_⟩
  refine (h.bind).later E fun d C1 q H1 a => ?_
  obtain ⟨ad1, E1, h1, _⟩ := a
  exact n d C1 ad1 H1 E1 (hs.mono E1) h1 q

section
variable {k : Nat} {X : Cx} {W : WX} {pos : Pos}

/-! ### names, constants -/
def dVar (i : Nat) : Fe := fun sc C => match sc[i]? with
  | some (some d) => .ok d C
  | _ => .bad
def dC (d : D) : Fe := fun _ C => .ok d C
theorem cv (i : Nat) {x : Str} (hN : X.N[i]? = some x := by rfl) (hv : Vis X.env.scope x := by first | exact Or.inl rfl | exact Or.inr (Or.inl rfl) | exact Or.inr (Or.inr rfl)) (hd : (x == ("__debug__" : Str)) = false := by decide)
    (hcd : (x == ("__classdict__" : Str)) = false := by decide) : CE X W (.Name x pos) (dVar i) := by
  refine PE_imp (pe_var hN hv hd hcd) fun σ H Q ⟨ad, sc, C, hs, hh, h⟩ => ?_
  unfold dVar at h
  split at h
  · rename_i d e
    obtain ⟨v, e1, r⟩ := hs.get i d e
    exact ⟨v, e1, h v H (.intro hh r)⟩
  · exact h.elim
theorem cC {v : V} {d : D} {e : Expr} (hp : PE X e (tC v)) (r : ∀ ad H, Rl X.K ad H d v) : CE X W e (dC d) :=
  PE_imp hp fun _ H _ ⟨ad, _, _, _, hh, h⟩ => h v H (.intro hh (r ad H))
theorem cInt {i : Int} {j pos} : CE X W (.Constant (.int i) j pos) (dC (.int i)) := cC pe_int fun _ _ => .int i
theorem cBl {b : Bool} {j pos} : CE X W (.Constant (.bool b) j pos) (dC (.bl b)) := cC pe_bl fun _ _ => .bl b
theorem cNon {j pos} : CE X W (.Constant .none j pos) (dC .non) := cC pe_non fun _ _ => .non
theorem cStr {x : Str} {j pos} : CE X W (.Constant (.str x) j pos) (dC (.str x)) := cC pe_str fun _ _ => .str x

/-! ### two operands -/
abbrev Og := D → D → CH → Option (D × CH)
def RG (K : PySem.W.Frag) (r : R2) (g : Og) : Prop := ∀ ad H C x y d e z C', HRel K ad H C → Rl K ad H d x → Rl K ad H e y → g d e C = some (z, C') →
  ∀ Q : VK, (∀ v H', Aft K ad H C' (fun ad' H' => Rl K ad' H' z v) H' → Q v H') → r x y H Q
def dBin (g : Og) (fa fb : Fe) : Fe := fun sc C => (fa sc C).bind fun x C1 => (fb sc C1).bind fun y C2 => .lift (g x y C2)
theorem two {K : PySem.W.Frag} {r : R2} {g : Og} (rg : RG K r g) {fa fb : Fe} {σ : L2.St} {H : Hp} {Q : VK} (h : tE K W (dBin g fa fb) σ H Q) : tOp r (tE K W fa) (tE K W fb) σ H Q := by
  obtain ⟨ad, sc, C, hs, hh, h⟩ := h
  refine tE_bind hs hh (.refl _ _) h fun d C1 ad1 H1 v E1 hs1 hh1 r1 h1 => ?_
  refine tE_bind hs1 hh1 E1 h1 fun e C2 ad2 H2 w E2 hs2 hh2 r2 h2 => ?_
  obtain ⟨z, C3, eq, q⟩ := RP.lift h2
  exact rg ad2 H2 C2 v w d e z C3 hh2 (r1.mono E2) r2 eq Q fun v' H' a => q v' H' (a.trans (E1.trans E2))
variable {a b : Expr} {fa fb : Fe}
theorem cBin {op : Operator} {r : R2} {g : Og} (ho : OpR X (binaryOp op) r) (rg : RG X.K r g) (ha : CE X W a fa) (hb : CE X W b fb) : CE X W (.BinOp a op b pos) (dBin g fa fb) :=
  PE_imp (pe_op ho ha hb) fun _ _ _ h => two rg h
theorem cCmp {op : CmpOp} {r : R2} {g : Og} (ho : OpR X (compareOp op) r) (rg : RG X.K r g) (ha : CE X W a fa) (hb : CE X W b fb) (hm : behindInMarks op b = false) : CE X W (.Compare a [op] [b] pos) (dBin g fa fb) :=
  PE_imp (pe_cmpR ho ha hb hm) fun _ _ _ h => two rg h
/-- a value that is a bool, as a test -/
def dTest (f : Fe) : Ft := fun sc C => (f sc C).bind fun d C1 => match d with
  | .bl b => .ok b C1
  | _ => .bad
theorem test {K : PySem.W.Frag} {t : TE} {f : Fe} (i : ∀ σ H Q, tE K W f σ H Q → t σ H Q) {σ : L2.St} {H : Hp} {Q : Bool → Hp → Prop} (h : tT K W (dTest f) σ H Q) : tTest t σ H Q := by
  obtain ⟨ad, sc, C, hs, hh, h⟩ := h
  refine i _ _ _ (tE_bind hs hh (.refl _ _) h fun d C1 ad1 H1 v E1 hs1 hh1 r1 h1 => ?_)
  cases r1 with
  | bl b => exact ⟨b, rfl, h1 H1 ⟨ad1, E1, hh1, trivial⟩⟩
  | _ => exact h1.elim
theorem ctCmp {op : CmpOp} {r : R2} {g : Og} (ho : OpR X (compareOp op) r) (rg : RG X.K r g) (ha : CE X W a fa) (hb : CE X W b fb) (hm : behindInMarks op b = false) : CT X W (.Compare a [op] [b] pos) (dTest (dBin g fa fb)) :=
  PT_imp (pt_cmpR ho ha hb hm) fun _ _ _ h => test (fun _ _ _ q => two rg q) h
theorem RG.or {K : PySem.W.Frag} {r r' : R2} {g : Og} (h : RG K r g) : RG K (fun x y H Q => r x y H Q ∨ r' x y H Q) g := fun ad H C x y d e z C' h1 h2 h3 h4 Q q => .inl (h ad H C x y d e z C' h1 h2 h3 h4 Q q)
/-- by cases of the operands' forms -/
def orO (g g' : Og) : Og := fun d e C => (g d e C).orElse fun _ => g' d e C
theorem RG.orO {K : PySem.W.Frag} {r r' : R2} {g g' : Og} (h : RG K r g) (h' : RG K r' g') : RG K (fun x y H Q => r x y H Q ∨ r' x y H Q) (orO g g') := fun ad H C x y d e z C' h1 h2 h3 h4 Q q => by
  unfold Cl.orO at h4
  cases e1 : g d e C with
  | some p =>
    rw [e1] at h4
    simp only [Option.orElse_some] at h4
    rw [h4] at e1
    exact .inl (h ad H C x y d e z C' h1 h2 h3 e1 Q q)
  | none =>
    rw [e1] at h4
    simp only [Option.orElse_none] at h4
    exact .inr (h' ad H C x y d e z C' h1 h2 h3 h4 Q q)

/-! ### argument lists, displays -/
def dNil : Fa := fun _ C => .ok [] C
def dCons (fa : Fe) (fr : Fa) : Fa := fun sc C => (fa sc C).bind fun d C1 => (fr sc C1).bind fun ds C2 => .ok (d :: ds) C2
theorem caN : CA X W [] dNil := PA_imp pa_nil fun _ H _ ⟨_, _, _, _, hh, h⟩ => h [] H (.intro hh .nil)
theorem caC {e : Expr} {es : List Expr} {f : Fe} {fr : Fa} (he : CE X W e f) (hr : CA X W es fr) (hs : starEach (e :: es) X.env = (false, eval e X.env) :: starEach es X.env := by rfl) : CA X W (e :: es) (dCons f fr) := by
  refine PA_imp (pa_cons he hr hs) fun σ H Q ⟨ad, sc, C, hs, hh, h⟩ => ?_
  refine tE_bind hs hh (.refl _ _) h fun d C1 ad1 H1 v E1 hs1 hh1 r1 h1 => ?_
  refine tA_bind hs1 hh1 E1 h1 fun ds C2 ad2 H2 vs E2 hs2 hh2 r2 h2 => ?_
  exact h2 _ H2 ⟨ad2, E1.trans E2, hh2, .cons (r1.mono E2) r2⟩
theorem cA1 {e : Expr} {f : Fe} (he : CE X W e f) (hs : starEach [e] X.env = (false, eval e X.env) :: starEach [] X.env := by rfl) : CA X W [e] (dCons f dNil) := caC he caN hs
theorem line_of {n : Nat} (h : n ≤ 1000) : n ≤ sizeLine := Nat.le_trans h (by decide)
def dTup (fs : Fa) : Fe := fun sc C => (fs sc C).bind fun ds C1 => if ds.length ≤ 1000 then .ok (.tup ds) C1 else .bad
theorem cTup {es : List Expr} {fs : Fa} {x1} (h : CA X W es fs) : CE X W (.Tuple es x1 pos) (dTup fs) := by
  refine PE_imp (pe_tup h) fun σ H Q ⟨ad, sc, C, hs, hh, h⟩ => ?_
  refine tA_bind hs hh (.refl _ _) h fun ds C1 ad1 H1 vs E1 hs1 hh1 r1 h1 => ?_
  by_cases z : ds.length ≤ 1000
  · rw [if_pos z] at h1
    refine ⟨by rw [← r1.length]; exact line_of z, fun p hp => h1 _ _ ⟨ad1, E1.trans (ext_new hp), hh1.new hp, .tup upd_same (r1.mono (ext_new hp))⟩⟩
  · rw [if_neg z] at h1
    exact h1.elim
def dLst (fs : Fa) : Fe := fun sc C => (fs sc C).bind fun ds C1 => if ds.length ≤ 1000 then .ok (.ref C1.length) (C1 ++ [.lst ds]) else .bad
theorem cLst {es : List Expr} {fs : Fa} (h : CA X W es fs) : CE X W (.List es pos) (dLst fs) := by
  refine PE_imp (pe_lst h) fun σ H Q ⟨ad, sc, C, hs, hh, h⟩ => ?_
  refine tA_bind hs hh (.refl _ _) h fun ds C1 ad1 H1 vs E1 hs1 hh1 r1 h1 => ?_
  by_cases z : ds.length ≤ 1000
  · rw [if_pos z] at h1
    exact ⟨by rw [← r1.length]; exact line_of z, fun p hp => h1 _ _ ⟨ad1 ++ [p], E1.trans (ext_alloc hp), hh1.alloc hp ⟨vs, rfl, r1.mono (ext_alloc hp)⟩, .ref (alloc_at hh1)⟩⟩
  · rw [if_neg z] at h1
    exact h1.elim

/-! ### tests -/
def dAnd (f g : Ft) : Ft := fun sc C => (f sc C).bind fun c C1 => if c then g sc C1 else .ok false C1
def dOr (f g : Ft) : Ft := fun sc C => (f sc C).bind fun c C1 => if c then .ok true C1 else g sc C1
def dNot (f : Ft) : Ft := fun sc C => (f sc C).bind fun c C1 => .ok (!c) C1
abbrev CW (X : Cx) (W : WX) (e : Expr) (f : Ft) : Prop := PW X e (tT X.K W f)
variable {f g : Ft} {rest : List Expr}
theorem cwAnd1 (ha : CT X W a f) : CW X W (.BoolOp .And [a] pos) f := pw_and1 ha
theorem cwOr1 (ha : CT X W a f) : CW X W (.BoolOp .Or [a] pos) f := pw_or1 ha
theorem cwAnd (ha : CT X W a f) (hb : CW X W (.BoolOp .And (b :: rest) pos) g) : CW X W (.BoolOp .And (a :: b :: rest) pos) (dAnd f g) := by
  refine PW_imp (pw_and ha hb) fun σ H Q ⟨ad, sc, C, hs, hh, h⟩ => ?_
  refine tT_bind hs hh (.refl _ _) h fun c C1 ad1 H1 E1 hs1 hh1 h1 => ?_
  cases c with
  | true => exact ⟨ad1, sc, C1, hs1, hh1, RP.later E1 h1 fun b C2 q H2 a => q H2 (a.trans E1)⟩
  | false => exact h1 H1 ⟨ad1, E1, hh1, trivial⟩
theorem cwOr (ha : CT X W a f) (hb : CW X W (.BoolOp .Or (b :: rest) pos) g) : CW X W (.BoolOp .Or (a :: b :: rest) pos) (dOr f g) := by
  refine PW_imp (pw_or ha hb) fun σ H Q ⟨ad, sc, C, hs, hh, h⟩ => ?_
  refine tT_bind hs hh (.refl _ _) h fun c C1 ad1 H1 E1 hs1 hh1 h1 => ?_
  cases c with
  | false => exact ⟨ad1, sc, C1, hs1, hh1, RP.later E1 h1 fun b C2 q H2 a => q H2 (a.trans E1)⟩
  | true => exact h1 H1 ⟨ad1, E1, hh1, trivial⟩
theorem ctW {e : Expr} (h : CW X W e f) : CT X W e f := h.pt
theorem ctNot (ha : CT X W a f) : CT X W (.UnaryOp .Not a pos) (dNot f) := by
  refine PT_imp (pt_not ha) fun σ H Q ⟨ad, sc, C, hs, hh, h⟩ => ?_
  exact tT_bind hs hh (.refl _ _) h fun c C1 ad1 H1 E1 hs1 hh1 h1 => h1 H1 ⟨ad1, E1, hh1, trivial⟩
/-- as values, of bools -/
def dAndV (fa fb : Fe) : Fe := fun sc C => (fa sc C).bind fun d C1 => match d with
  | .bl true => fb sc C1
  | .bl false => .ok (.bl false) C1
  | _ => .bad
def dOrV (fa fb : Fe) : Fe := fun sc C => (fa sc C).bind fun d C1 => match d with
  | .bl true => .ok (.bl true) C1
  | .bl false => fb sc C1
  | _ => .bad
def dNotV (fa : Fe) : Fe := fun sc C => (fa sc C).bind fun d C1 => match d with
  | .bl c => .ok (.bl (!c)) C1
  | _ => .bad
theorem cOne {op} (h : CE X W a fa) : CE X W (.BoolOp op [a] pos) fa := pe_one h
theorem cAndV (ha : CE X W a fa) (hb : CE X W (.BoolOp .And (b :: rest) pos) fb) : CE X W (.BoolOp .And (a :: b :: rest) pos) (dAndV fa fb) := by
  refine PE_imp (pe_and ha hb) fun σ H Q ⟨ad, sc, C, hs, hh, h⟩ => ?_
  refine tE_bind hs hh (.refl _ _) h fun d C1 ad1 H1 v E1 hs1 hh1 r1 h1 => ?_
  cases r1 with
  | bl c =>
    cases c with
    | true => exact ⟨true, rfl, ad1, sc, C1, hs1, hh1, RP.later E1 h1 fun b C2 q v H2 a => q v H2 (a.trans E1)⟩
    | false => exact ⟨false, rfl, h1 _ H1 ⟨ad1, E1, hh1, .bl false⟩⟩
  | _ => exact h1.elim
theorem cOrV (ha : CE X W a fa) (hb : CE X W (.BoolOp .Or (b :: rest) pos) fb) : CE X W (.BoolOp .Or (a :: b :: rest) pos) (dOrV fa fb) := by
  refine PE_imp (pe_or ha hb) fun σ H Q ⟨ad, sc, C, hs, hh, h⟩ => ?_
  refine tE_bind hs hh (.refl _ _) h fun d C1 ad1 H1 v E1 hs1 hh1 r1 h1 => ?_
  cases r1 with
  | bl c =>
    cases c with
    | false => exact ⟨false, rfl, ad1, sc, C1, hs1, hh1, RP.later E1 h1 fun b C2 q v H2 a => q v H2 (a.trans E1)⟩
    | true => exact ⟨true, rfl, h1 _ H1 ⟨ad1, E1, hh1, .bl true⟩⟩
  | _ => exact h1.elim
theorem cNotV (ha : CE X W a fa) : CE X W (.UnaryOp .Not a pos) (dNotV fa) := by
  refine PE_imp (pe_not ha) fun σ H Q ⟨ad, sc, C, hs, hh, h⟩ => ?_
  refine tE_bind hs hh (.refl _ _) h fun d C1 ad1 H1 v E1 hs1 hh1 r1 h1 => ?_
  cases r1 with
  | bl c => exact ⟨c, rfl, h1 _ H1 ⟨ad1, E1, hh1, .bl _⟩⟩
  | _ => exact h1.elim
def dIf (t : Ft) (fa fb : Fe) : Fe := fun sc C => (t sc C).bind fun c C1 => if c then fa sc C1 else fb sc C1
theorem cIf {c : Expr} (hc : CT X W c f) (ha : CE X W a fa) (hb : CE X W b fb) : CE X W (.IfExp c a b pos) (dIf f fa fb) := by
  refine PE_imp (pe_ifExp hc ha hb) fun σ H Q ⟨ad, sc, C, hs, hh, h⟩ => ?_
  refine tT_bind hs hh (.refl _ _) h fun c C1 ad1 H1 E1 hs1 hh1 h1 => ?_
  cases c with
  | true => exact ⟨ad1, sc, C1, hs1, hh1, RP.later E1 h1 fun b C2 q v H2 a => q v H2 (a.trans E1)⟩
  | false => exact ⟨ad1, sc, C1, hs1, hh1, RP.later E1 h1 fun b C2 q v H2 a => q v H2 (a.trans E1)⟩
/-- the truth of a value -/
def tru : D → CH → Option Bool
  | .non, _ => some false
  | .bl b, _ => some b
  | .int i, _ => some (i != 0)
  | .str x, _ => if x.length ≤ 1000000 then some (x.length != 0) else none
  | .tup ds, _ => some (!ds.isEmpty)
  | .fl ds, _ => some (!ds.isEmpty)
  | .ref n, C => match C[n]? with
    | some (.lst ds) => some (!ds.isEmpty)
    | _ => none
  | .v _, _ => none
end
end Cl
set_option maxHeartbeats 4000000
/-! Cl, part C: operators by the forms of their operands; subscripts, slices. -/
namespace Cl
open PySem PySem.Spec L2

section
variable {K : PySem.W.Frag}
/-- an operator whose answer is no new object -/
def pureO (g : D → D → Option D) : Og := fun d e C => (g d e).map fun z => (z, C)
theorem pureO_inv {g : D → D → Option D} {d e z : D} {C C' : CH} (h : pureO g d e C = some (z, C')) : g d e = some z ∧ C' = C := by
  unfold pureO at h
  cases q : g d e with
  | none => rw [q] at h; cases h
  | some w =>
    rw [q] at h
    simp only [Option.map_some, Option.some.injEq, Prod.mk.injEq] at h
    exact ⟨by rw [h.1], h.2.symm⟩

/-- a condition that the kernel never reckons -/
noncomputable def ck (p : Prop) : Bool := @decide p (Classical.propDecidable p)
theorem ck_iff {p : Prop} : ck p = true ↔ p := @decide_eq_true_iff p (Classical.propDecidable p)
theorem ck_of {p : Prop} (h : p) : ck p = true := ck_iff.mpr h
/-! ### ints -/
def iI (P : Int → Int → Bool) (g : Int → Int → D) : D → D → Option D
  | .int i, .int j => if P i j = true then some (g i j) else none
  | _, _ => none
theorem iI_inv {P : Int → Int → Bool} {g : Int → Int → D} {d e z : D} (h : iI P g d e = some z) : ∃ i j, d = .int i ∧ e = .int j ∧ P i j = true ∧ z = g i j := by
  unfold iI at h
  split at h
  · split at h
    · rename_i i j hp
      exact ⟨i, j, rfl, rfl, hp, by simpa using h.symm⟩
    · cases h
  · cases h
theorem rgI {Cd : Int → Int → Prop} {f : Int → Int → V} {P : Int → Int → Bool} {g : Int → Int → D} (hC : ∀ i j, P i j = true → Cd i j) (hr : ∀ ad H i j, Rl K ad H (g i j) (f i j)) : RG K (rI Cd f) (pureO (iI P g)) := by
  intro ad H C x y d e z C' hh rx ry h Q q
  obtain ⟨h2, rfl⟩ := pureO_inv h
  clear h
  obtain ⟨i, j, rfl, rfl, hp, rfl⟩ := iI_inv h2
  cases rx
  cases ry
  exact ⟨i, j, rfl, rfl, hC i j hp, q _ H (.intro hh (hr ad H i j))⟩
theorem rgI0 {f : Int → Int → V} {g : Int → Int → D} (hr : ∀ ad H i j, Rl K ad H (g i j) (f i j)) : RG K (rI0 f) (pureO (iI (fun _ _ => true) g)) := by
  intro ad H C x y d e z C' hh rx ry h Q q
  obtain ⟨h2, rfl⟩ := pureO_inv h
  clear h
  obtain ⟨i, j, rfl, rfl, hp, rfl⟩ := iI_inv h2
  cases rx
  cases ry
  exact ⟨i, j, rfl, rfl, q _ H (.intro hh (hr ad H i j))⟩
/-! ### texts, tuples, lists added -/
def sAdd : D → D → Option D
  | .str x, .str y => if x.length + y.length ≤ 1000000 then some (.str (x ++ y)) else none
  | _, _ => none
theorem mil {n : Nat} (h : n ≤ 1000000) : n ≤ sizeLine := Nat.le_trans h (by decide)
theorem rgS : RG K (fun x y H Q => ∃ i j, x = .str i ∧ y = .str j ∧ i.length + j.length ≤ sizeLine ∧ Q (.str (i ++ j)) H) (pureO sAdd) := by
  intro ad H C x y d e z C' hh rx ry h Q q
  obtain ⟨h2, rfl⟩ := pureO_inv h
  clear h
  have h := h2
  unfold sAdd at h
  split at h
  · split at h
    · rename_i hz
      cases rx
      cases ry
      cases h
      exact ⟨_, _, rfl, rfl, mil hz, q _ H (.intro hh (.str _))⟩
    · cases h
  · cases h
def tAddO : D → D → Option D
  | .tup x, .tup y => if x.length + y.length ≤ 1000000 then some (.tup (x ++ y)) else none
  | _, _ => none
theorem rgT : RG K (rCatA K) (pureO tAddO) := by
  intro ad H C x y d e z C' hh rx ry h Q q
  obtain ⟨h2, rfl⟩ := pureO_inv h
  clear h
  have h := h2
  unfold tAddO at h
  split at h
  · rename_i xs ys
    split at h
    · rename_i hz
      cases h
      cases rx with
      | tup h1 r1 =>
        rename_i a vs
        cases ry with
        | tup h2 r2 =>
          rename_i b ws
          refine ⟨a, b, vs, ws, rfl, rfl, .of h1, .of h2, by rw [← r1.length, ← r2.length]; exact mil hz, fun e0 => ?_, fun e0 e1 => ?_, fun e0 e1 p hp => ?_⟩
          · subst e0
            cases r1
            exact q _ H (.intro hh (Rl.tup (ds := ys) ‹_› r2))
          · subst e1
            cases r2
            rw [List.append_nil] at q
            exact q _ H (.intro hh (.tup h1 r1))
          · exact q _ _ ⟨ad, ext_new hp, hh.new hp, .tup upd_same ((r1.append r2).mono (ext_new hp))⟩
    · cases h
  · cases h
def lAddO : Og := fun d e C => match d, e with
  | .ref n, .ref m => match C[n]?, C[m]? with
    | some (.lst xs), some (.lst ys) => if xs.length + ys.length ≤ 1000000 then some (.ref C.length, C ++ [.lst (xs ++ ys)]) else none
    | _, _ => none
  | _, _ => none
theorem rgL : RG K rCat lAddO := by
  intro ad H C x y d e z C' hh rx ry h Q q
  unfold lAddO at h
  split at h
  · rename_i n m
    split at h
    · rename_i xs ys e1 e2
      split at h
      · rename_i hz
        cases h
        cases rx with
        | ref ha =>
          cases ry with
          | ref hb =>
            rename_i a b
            obtain ⟨u, h1, vs, rfl, r1⟩ := hh.obj n _ a e1 ha
            obtain ⟨u, h2, ws, rfl, r2⟩ := hh.obj m _ b e2 hb
            refine ⟨a, b, vs, ws, rfl, rfl, h1, h2, by rw [← r1.length, ← r2.length]; exact mil hz, fun p hp => ?_⟩
            exact q _ _ ⟨ad ++ [p], ext_alloc hp, hh.alloc hp ⟨_, rfl, (r1.append r2).mono (ext_alloc hp)⟩, .ref (alloc_at hh)⟩
      · cases h
    · cases h
  · cases h
def oAdd : Og := orO (pureO (iI (fun _ _ => true) fun i j => .int (i + j))) (orO (pureO sAdd) (orO (pureO tAddO) lAddO))
def oSub : Og := pureO (iI (fun _ _ => true) fun i j => .int (i - j))
noncomputable def bMul (i j : Int) : Bool := ck (CMul i j)
theorem bMul_ok (i j : Int) (h : bMul i j = true) : CMul i j := ck_iff.mp h
noncomputable def oMul : Og := pureO (iI bMul fun i j => .int (i * j))
noncomputable def bDiv (i j : Int) : Bool := ck (CDiv i j)
noncomputable def oDiv : Og := pureO (iI bDiv fun i j => .int (i / j))
def oMod : Og := pureO (iI (fun _ j => decide (0 < j)) fun i j => .int (i % j))
noncomputable def bPow (i j : Int) : Bool := ck (CPow i j)
noncomputable def oPow : Og := pureO (iI bPow fun i j => .int (i ^ j.toNat))
section
variable {X : Cx} {W : WX} {a b : Expr} {fa fb : Fe} {pos : Pos}
theorem cAdd (ha : CE X W a fa) (hb : CE X W b fb) : CE X W (.BinOp a .Add b pos) (dBin oAdd fa fb) :=
  cBin (op_add.or (op_add_str.or (op_catA.or op_cat))) ((rgI0 fun _ _ _ _ => .int _).orO (rgS.orO (rgT.orO rgL))) ha hb
theorem cSub (ha : CE X W a fa) (hb : CE X W b fb) : CE X W (.BinOp a .Sub b pos) (dBin oSub fa fb) := cBin op_sub (rgI0 fun _ _ _ _ => .int _) ha hb
theorem cMul (ha : CE X W a fa) (hb : CE X W b fb) : CE X W (.BinOp a .Mult b pos) (dBin oMul fa fb) := cBin op_mul (rgI bMul_ok fun _ _ _ _ => .int _) ha hb
theorem cDiv (ha : CE X W a fa) (hb : CE X W b fb) : CE X W (.BinOp a .FloorDiv b pos) (dBin oDiv fa fb) :=
  cBin op_fdiv (rgI (fun i j h => ck_iff.mp h) fun _ _ _ _ => .int _) ha hb
theorem cMod (ha : CE X W a fa) (hb : CE X W b fb) : CE X W (.BinOp a .Mod b pos) (dBin oMod fa fb) :=
  cBin op_mod (rgI (fun i j h => by simpa only [decide_eq_true_eq] using h) fun _ _ _ _ => .int _) ha hb
theorem cPow (ha : CE X W a fa) (hb : CE X W b fb) : CE X W (.BinOp a .Pow b pos) (dBin oPow fa fb) :=
  cBin op_pow (rgI (fun i j h => ck_iff.mp h) fun _ _ _ _ => .int _) ha hb
def dNeg (fa : Fe) : Fe := fun sc C => (fa sc C).bind fun d C1 => match d with
  | .int i => .ok (.int (-i)) C1
  | _ => .bad
theorem cNeg (ha : CE X W a fa) : CE X W (.UnaryOp .USub a pos) (dNeg fa) := by
  refine PE_imp (pe_un un_neg ha) fun σ H Q ⟨ad, sc, C, hs, hh, h⟩ => ?_
  refine tE_bind hs hh (.refl _ _) h fun d C1 ad1 H1 v E1 hs1 hh1 r1 h1 => ?_
  cases r1 with
  | int i => exact ⟨i, rfl, h1 _ H1 ⟨ad1, E1, hh1, .int _⟩⟩
  | _ => exact h1.elim
end

/-! ### data, for ==, in, repr -/
def py (C : CH) : Nat → D → Option PyData
  | 0, _ => none
  | k + 1, d => match d with
    | .non => some .none
    | .bl b => some (.bool b)
    | .int i => some (.int i)
    | .str x => if PyData.strOk x then some (.str x) else none
    | .tup ds => (ds.mapM (py C k)).map .tuple
    | .fl ds => (ds.mapM (py C k)).map .list
    | .ref n => match C[n]? with
      | some (.lst ds) => (ds.mapM (py C k)).map .list
      | _ => none
    | .v _ => none
theorem mapM_cons_some {α β : Type} {f : α → Option β} {x : α} {xs : List α} {ys : List β} (h : (x :: xs).mapM f = some ys) : ∃ y r, f x = some y ∧ xs.mapM f = some r ∧ ys = y :: r := by
  rw [List.mapM_cons] at h
  cases e : f x with
  | none => rw [e] at h; cases h
  | some y =>
    rw [e] at h
    cases e2 : xs.mapM f with
    | none => rw [e2] at h; cases h
    | some r =>
      rw [e2] at h
      exact ⟨y, r, rfl, rfl, by simpa using h.symm⟩
theorem py_dp {ad : List Addr} {H : Hp} {C : CH} (hh : HRel K ad H C) : ∀ (k : Nat) (d : D) (p : PyData) (v : V), py C k d = some p → Rl K ad H d v → Dp K H v p := by
  intro k
  induction k with
  | zero => intro d p v h; cases h
  | succ k ih =>
    have all : ∀ (ds : List D) (ps : List PyData) (vs : List V), ds.mapM (py C k) = some ps → Rls K ad H ds vs → DpAll K H vs ps := by
      intro ds
      induction ds with
      | nil =>
        intro ps vs h r
        cases r
        have : ps = [] := by simpa using h.symm
        subst this
        exact .nil
      | cons d ds ihd =>
        intro ps vs h r
        obtain ⟨y, r', e1, e2, rfl⟩ := mapM_cons_some h
        cases r with
        | cons r1 r2 => exact .cons (ih _ _ _ e1 r1) (ihd _ _ e2 r2)
    intro d p v h r
    cases r with
    | non => cases h; exact .non
    | bl b => cases h; exact .bl b
    | int i => cases h; exact .int i
    | str x =>
      have h : (if PyData.strOk x then some (PyData.str x) else none) = some p := h
      split at h
      · cases h; exact .str x
      · cases h
    | tup h1 r1 =>
      rename_i ds a vs
      have h : (ds.mapM (py C k)).map PyData.tuple = some p := h
      cases e : ds.mapM (py C k) with
      | none => rw [e] at h; cases h
      | some ps =>
        rw [e] at h
        cases h
        exact .tup (.of h1) (all _ _ _ e r1)
    | fl h1 r1 =>
      rename_i ds a vs
      have h : (ds.mapM (py C k)).map PyData.list = some p := h
      cases e : ds.mapM (py C k) with
      | none => rw [e] at h; cases h
      | some ps =>
        rw [e] at h
        cases h
        exact .lst h1.sq (all _ _ _ e r1)
    | ref ha =>
      rename_i n a
      have h : (match C[n]? with | some (.lst ds) => (ds.mapM (py C k)).map PyData.list | _ => none) = some p := h
      split at h
      · rename_i ds e
        cases e2 : ds.mapM (py C k) with
        | none => rw [e2] at h; cases h
        | some ps =>
          rw [e2] at h
          cases h
          obtain ⟨u, h1, vs, rfl, r1⟩ := hh.obj n _ a e ha
          exact .lst (.of h1) (all _ _ _ e2 r1)
      · cases h
    | v x => cases h
def eqP (C : CH) (d e : D) : Option Bool := (py C 66 d).bind fun p => (py C 66 e).bind fun q => if SeqAt.shaped p && SeqAt.shaped q then some (PyData.eqv p q) else none
theorem eqP_inv {C : CH} {d e : D} {z : Bool} (h : eqP C d e = some z) : ∃ p q, py C 66 d = some p ∧ py C 66 e = some q ∧ SeqAt.shaped p = true ∧ SeqAt.shaped q = true ∧ z = PyData.eqv p q := by
  unfold eqP at h
  cases e1 : py C 66 d with
  | none => rw [e1] at h; cases h
  | some p =>
    cases e2 : py C 66 e with
    | none => rw [e1, e2] at h; cases h
    | some q =>
      rw [e1, e2] at h
      simp only [Option.bind_some] at h
      split at h
      · rename_i hb
        rw [Bool.and_eq_true] at hb
        exact ⟨p, q, rfl, rfl, hb.1, hb.2, by simpa using h.symm⟩
      · cases h
/-- == of data: ints and texts at once, all else as data -/
def eqO (C : CH) : D → D → Option Bool
  | .int i, .int j => some (decide (i = j))
  | .str x, .str y => some (decide (x = y))
  | .bl x, .bl y => some (decide (x = y))
  | d, e => eqP C d e
def oEq : Og := fun d e C => (eqO C d e).map fun z => (.bl z, C)
def oNe : Og := fun d e C => (eqO C d e).map fun z => (.bl (!z), C)
theorem eq_cases {C : CH} {d e : D} {z : Bool} (h : eqO C d e = some z) : (∃ i j, d = .int i ∧ e = .int j ∧ z = decide (i = j)) ∨ (∃ i j, d = .str i ∧ e = .str j ∧ z = decide (i = j)) ∨ (∃ i j, d = .bl i ∧ e = .bl j ∧ z = decide (i = j)) ∨ eqP C d e = some z := by
  unfold eqO at h
  split at h
  · exact .inl ⟨_, _, rfl, rfl, by simpa using h.symm⟩
  · exact .inr (.inl ⟨_, _, rfl, rfl, by simpa using h.symm⟩)
  · exact .inr (.inr (.inl ⟨_, _, rfl, rfl, by simpa using h.symm⟩))
  · exact .inr (.inr (.inr h))
theorem dec_i (i j : Int) : decide (V.int i = V.int j) = decide (i = j) := by by_cases h : i = j <;> simp [h]
theorem dec_s (i j : Str) : decide (V.str i = V.str j) = decide (i = j) := by by_cases h : i = j <;> simp [h]
theorem dec_b (i j : Bool) : decide (V.bl i = V.bl j) = decide (i = j) := by by_cases h : i = j <;> simp [h]
theorem rgEq : RG K (fun x y H Q => rEq x y H Q ∨ rEqD K x y H Q) oEq := by
  intro ad H C x y d e z C' hh rx ry h Q q
  unfold oEq at h
  cases e0 : eqO C d e with
  | none => rw [e0] at h; cases h
  | some b =>
    rw [e0] at h
    cases h
    rcases eq_cases e0 with ⟨i, j, rfl, rfl, rfl⟩ | ⟨i, j, rfl, rfl, rfl⟩ | ⟨i, j, rfl, rfl, rfl⟩ | e1
    · cases rx; cases ry
      exact .inl ⟨rfl, by rw [dec_i]; exact q _ H (.intro hh (.bl _))⟩
    · cases rx; cases ry
      exact .inl ⟨rfl, by rw [dec_s]; exact q _ H (.intro hh (.bl _))⟩
    · cases rx; cases ry
      exact .inl ⟨rfl, by rw [dec_b]; exact q _ H (.intro hh (.bl _))⟩
    · obtain ⟨p, q', h1, h2, s1, s2, rfl⟩ := eqP_inv e1
      exact .inr ⟨p, q', py_dp hh _ _ _ _ h1 rx, py_dp hh _ _ _ _ h2 ry, s1, s2, q _ H (.intro hh (.bl _))⟩
theorem rgNe : RG K (fun x y H Q => rNe x y H Q ∨ rNeD K x y H Q) oNe := by
  intro ad H C x y d e z C' hh rx ry h Q q
  unfold oNe at h
  cases e0 : eqO C d e with
  | none => rw [e0] at h; cases h
  | some b =>
    rw [e0] at h
    cases h
    rcases eq_cases e0 with ⟨i, j, rfl, rfl, rfl⟩ | ⟨i, j, rfl, rfl, rfl⟩ | ⟨i, j, rfl, rfl, rfl⟩ | e1
    · cases rx; cases ry
      exact .inl ⟨rfl, by rw [dec_i]; exact q _ H (.intro hh (.bl _))⟩
    · cases rx; cases ry
      exact .inl ⟨rfl, by rw [dec_s]; exact q _ H (.intro hh (.bl _))⟩
    · cases rx; cases ry
      exact .inl ⟨rfl, by rw [dec_b]; exact q _ H (.intro hh (.bl _))⟩
    · obtain ⟨p, q', h1, h2, s1, s2, rfl⟩ := eqP_inv e1
      exact .inr ⟨p, q', py_dp hh _ _ _ _ h1 rx, py_dp hh _ _ _ _ h2 ry, s1, s2, q _ H (.intro hh (.bl _))⟩
def oLt : Og := pureO (iI (fun _ _ => true) fun i j => .bl (decide (i < j)))
def oLe : Og := pureO (iI (fun _ _ => true) fun i j => .bl (decide (i ≤ j)))
def oGt : Og := pureO (iI (fun _ _ => true) fun i j => .bl (decide (j < i)))
def oGe : Og := pureO (iI (fun _ _ => true) fun i j => .bl (decide (j ≤ i)))
/-- in a list or a tuple of flat things -/
def flat : D → Bool
  | .int _ => true
  | .str _ => true
  | _ => false
def eqF : D → D → Bool
  | .int i, .int j => decide (i = j)
  | .str i, .str j => decide (i = j)
  | _, _ => false
def itemsOf (C : CH) : D → Option (List D)
  | .tup ds => some ds
  | .fl ds => some ds
  | .ref n => match C[n]? with
    | some (.lst ds) => some ds
    | _ => none
  | _ => none
def inF (d : D) (ds : List D) : Bool := ds.any fun e => eqF e d
def oIn (neg : Bool) : Og := fun d e C => (itemsOf C e).bind fun ds => if flat d && ds.all flat then some (.bl (if neg then !inF d ds else inF d ds), C) else none
theorem items_sq {ad : List Addr} {H : Hp} {C : CH} (hh : HRel K ad H C) {d : D} {v : V} {ds : List D} (r : Rl K ad H d v) (h : itemsOf C d = some ds) : ∃ p vs, v = .ref p ∧ (SqL K H p vs ∨ SqT K H p vs) ∧ Rls K ad H ds vs := by
  cases r with
  | tup h1 r1 => cases h; exact ⟨_, _, rfl, .inr (.of h1), r1⟩
  | fl h1 r1 => cases h; exact ⟨_, _, rfl, .inl h1.sq, r1⟩
  | ref ha =>
    rename_i n a
    have h : (match C[n]? with | some (.lst ds) => some ds | _ => none) = some ds := h
    split at h
    · rename_i e
      cases h
      obtain ⟨u, h1, vs, rfl, r1⟩ := hh.obj n _ a e ha
      exact ⟨_, _, rfl, .inl (.of h1), r1⟩
    · cases h
  | _ => cases h
end
end Cl
set_option maxHeartbeats 4000000
/-! Cl, part D: comparisons, in, dicts, subscripts, slices, built-ins, methods. -/
namespace Cl
open PySem PySem.Spec L2

theorem PE_or {X : Cx} {e : Expr} {t t' : TE} (h : PE X e t) (h' : PE X e t') : PE X e (fun σ H Q => t σ H Q ∨ t' σ H Q) :=
  ⟨fun pins s σ H Q I z => z.elim (h.run pins s σ H Q I) (h'.run pins s σ H Q I)⟩
theorem PT_or {X : Cx} {e : Expr} {t t' : TT} (h : PT X e t) (h' : PT X e t') : PT X e (fun σ H Q => t σ H Q ∨ t' σ H Q) :=
  ⟨fun pins s σ H Q I z => z.elim (h.run pins s σ H Q I) (h'.run pins s σ H Q I)⟩
theorem PS_or {X : Cx} {e : Stmt} {t t' : TS} (h : PS X e t) (h' : PS X e t') : PS X e (fun D σ H => t D σ H ∨ t' D σ H) :=
  ⟨fun pins s σ H Q I z => z.elim (h.run pins s σ H Q I) (h'.run pins s σ H Q I)⟩
theorem dBin_or (g g' : Og) (fa fb : Fe) (sc : Sc) (C : CH) : dBin (orO g g') fa fb sc C = dBin g fa fb sc C ∨ dBin (orO g g') fa fb sc C = dBin g' fa fb sc C := by
  unfold dBin
  cases fa sc C with
  | bad => exact .inl rfl
  | ex x C1 => exact .inl rfl
  | ok d C1 =>
    simp only [Res.bind_ok]
    cases fb sc C1 with
    | bad => exact .inl rfl
    | ex x C2 => exact .inl rfl
    | ok e C2 =>
      simp only [Res.bind_ok]
      unfold orO
      cases g d e C2 with
      | some p => exact .inl rfl
      | none => exact .inr rfl
theorem two_or {K : PySem.W.Frag} {W : WX} {g g' : Og} {fa fb : Fe} {σ : L2.St} {H : Hp} {Q : VK} (h : tE K W (dBin (orO g g') fa fb) σ H Q) : tE K W (dBin g fa fb) σ H Q ∨ tE K W (dBin g' fa fb) σ H Q := by
  obtain ⟨ad, sc, C, hs, hh, h⟩ := h
  rcases dBin_or g g' fa fb sc C with e | e
  · exact .inl ⟨ad, sc, C, hs, hh, by rw [← e]; exact h⟩
  · exact .inr ⟨ad, sc, C, hs, hh, by rw [← e]; exact h⟩
theorem test_or {K : PySem.W.Frag} {W : WX} {g g' : Og} {fa fb : Fe} {σ : L2.St} {H : Hp} {Q : Bool → Hp → Prop} (h : tT K W (dTest (dBin (orO g g') fa fb)) σ H Q) : tT K W (dTest (dBin g fa fb)) σ H Q ∨ tT K W (dTest (dBin g' fa fb)) σ H Q := by
  obtain ⟨ad, sc, C, hs, hh, h⟩ := h
  have e1 : ∀ f : Fe, dTest f sc C = (f sc C).bind fun d C1 => match d with
      | .bl b => .ok b C1
      | _ => .bad := fun _ => rfl
  rw [e1] at h
  rcases dBin_or g g' fa fb sc C with e | e
  · exact .inl ⟨ad, sc, C, hs, hh, by rw [e1, ← e]; exact h⟩
  · exact .inr ⟨ad, sc, C, hs, hh, by rw [e1, ← e]; exact h⟩

/-! ### in a list or a tuple -/
section
variable {K : PySem.W.Frag}
theorem flat_rel {ad : List Addr} {H : Hp} {d : D} {v : V} (f : flat d = true) (r : Rl K ad H d v) : flatV v = true := by
  cases r <;> first | rfl | cases f
theorem flat_all {ad : List Addr} {H : Hp} : ∀ {ds : List D} {vs : List V}, ds.all flat = true → Rls K ad H ds vs → vs.all flatV = true
  | _, _, _, .nil => rfl
  | _, _, f, .cons r t => by
    rw [List.all_cons, Bool.and_eq_true] at f ⊢
    exact ⟨flat_rel f.1 r, flat_all f.2 t⟩
theorem eqF_rel {ad : List Addr} {H : Hp} {d e : D} {v w : V} (f : flat d = true) (f2 : flat e = true) (r : Rl K ad H d v) (r2 : Rl K ad H e w) : L2.eqV v w = eqF d e := by
  cases r with
  | int i =>
    cases r2 with
    | int j =>
      show (i == j) = decide (i = j)
      rw [Bool.beq_eq_decide_eq]
    | str j => rfl
    | _ => cases f2
  | str i =>
    cases r2 with
    | str j =>
      show (i == j) = decide (i = j)
      rw [Bool.beq_eq_decide_eq]
    | int j => rfl
    | _ => cases f2
  | _ => cases f
theorem inF_rel {ad : List Addr} {H : Hp} {d : D} {v : V} (f : flat d = true) (r : Rl K ad H d v) : ∀ {ds : List D} {vs : List V}, ds.all flat = true → Rls K ad H ds vs → inV v vs = inF d ds
  | _, _, _, .nil => rfl
  | _, _, g, .cons r1 t => by
    rw [List.all_cons, Bool.and_eq_true] at g
    have ih := inF_rel f r g.2 t
    unfold inV inF at ih ⊢
    rw [List.any_cons, List.any_cons, ih, eqF_rel g.1 f r1 r]
theorem rgIn (neg : Bool) : RG K (rIn K neg) (oIn neg) := by
  intro ad H C x y d e z C' hh rx ry h Q q
  unfold oIn at h
  cases e0 : itemsOf C e with
  | none => rw [e0] at h; cases h
  | some ds =>
    rw [e0] at h
    simp only [Option.bind_some] at h
    split at h
    · rename_i hb
      rw [Bool.and_eq_true] at hb
      cases h
      obtain ⟨p, vs, rfl, hq, rs⟩ := items_sq hh ry e0
      refine ⟨p, vs, rfl, hq, flat_rel hb.1 rx, flat_all hb.2 rs, ?_⟩
      rw [inF_rel hb.1 rx hb.2 rs]
      exact q _ H (.intro hh (.bl _))
    · cases h
/-- .. of any data in a list -/
def isList (C : CH) : D → Bool
  | .fl _ => true
  | .ref n => match C[n]? with
    | some (.lst _) => true
    | _ => false
  | _ => false
def oInD (neg : Bool) : Og := fun d e C => (py C 66 d).bind fun p => (py C 66 e).bind fun q => match q with
  | .list ds => if SeqAt.shaped p && SeqAt.shaped (.list ds) then some (.bl (if neg then !ds.any (fun z => PyData.eqv z p) else ds.any fun z => PyData.eqv z p), C) else none
  | _ => none
theorem oInD_inv {neg : Bool} {d e z : D} {C C' : CH} (h : oInD neg d e C = some (z, C')) : ∃ p ds, py C 66 d = some p ∧ py C 66 e = some (.list ds) ∧ SeqAt.shaped p = true ∧ SeqAt.shaped (.list ds) = true ∧ C' = C ∧ z = .bl (if neg then !ds.any (fun z => PyData.eqv z p) else ds.any fun z => PyData.eqv z p) := by
  unfold oInD at h
  cases e1 : py C 66 d with
  | none => rw [e1] at h; cases h
  | some p =>
    cases e2 : py C 66 e with
    | none => rw [e1, e2] at h; cases h
    | some q =>
      rw [e1, e2] at h
      simp only [Option.bind_some] at h
      split at h
      · rename_i ds
        split at h
        · rename_i hb
          rw [Bool.and_eq_true] at hb
          cases h
          exact ⟨p, ds, rfl, rfl, hb.1, hb.2, rfl, rfl⟩
        · cases h
      · cases h
theorem rgInD : RG K (rInD K) (oInD false) := by
  intro ad H C x y d e z C' hh rx ry h Q q
  obtain ⟨p, ds, h1, h2, s1, s2, rfl, rfl⟩ := oInD_inv h
  exact ⟨p, ds, py_dp hh _ _ _ _ h1 rx, py_dp hh _ _ _ _ h2 ry, s1, s2, q _ H (.intro hh (.bl _))⟩
theorem rgNotInD : RG K (rNotInD K) (oInD true) := by
  intro ad H C x y d e z C' hh rx ry h Q q
  obtain ⟨p, ds, h1, h2, s1, s2, rfl, rfl⟩ := oInD_inv h
  exact ⟨p, ds, py_dp hh _ _ _ _ h1 rx, py_dp hh _ _ _ _ h2 ry, s1, s2, q _ H (.intro hh (.bl _))⟩

/-! ### dicts -/
def keyOf : D → Option Key
  | .int i => some (.inl i)
  | .str x => some (.inr x)
  | _ => none
def keysOf : D → Option (List Key)
  | .tup ds => ds.mapM keyOf
  | _ => none
def valD {κ : Type} [DecidableEq κ] (kvs : List (κ × D)) (k : κ) : Option D := (kvs.find? fun kv => decide (kv.1 = k)).map (·.2)
def putD {κ : Type} [DecidableEq κ] (kvs : List (κ × D)) (k : κ) (v : D) : List (κ × D) :=
  if kvs.any (fun kv => decide (kv.1 = k)) then kvs.map fun kv => if kv.1 = k then (kv.1, v) else kv else kvs ++ [(k, v)]
theorem key_rel {ad : List Addr} {H : Hp} {d : D} {v : V} {k : Key} (h : keyOf d = some k) (r : Rl K ad H d v) : v = kV k := by
  cases r <;> first | (cases h; rfl) | cases h
theorem keys_rel {ad : List Addr} {H : Hp} : ∀ {ds : List D} {vs : List V} {ks : List Key}, ds.mapM keyOf = some ks → Rls K ad H ds vs → vs = ks.map kV
  | _, _, ks, h, .nil => by
    have : ks = [] := by simpa using h.symm
    subst this; rfl
  | _, _, ks, h, .cons r t => by
    obtain ⟨y, r', e1, e2, rfl⟩ := mapM_cons_some h
    rw [key_rel e1 r, keys_rel e2 t]
    rfl
theorem val_rel {κ : Type} [DecidableEq κ] {ad : List Addr} {H : Hp} (k : κ) : ∀ {kvs : List (κ × D)} {vs : List (κ × V)}, KR K ad H kvs vs → (valD kvs k = none ∧ valV vs k = none) ∨ ∃ d v, valD kvs k = some d ∧ valV vs k = some v ∧ Rl K ad H d v
  | _, _, .nil => .inl ⟨rfl, rfl⟩
  | p :: ps, q :: qs, .cons r t => by
    by_cases e : p.1 = k
    · refine .inr ⟨p.2, q.2, ?_, valV_pos (by rw [← r.1]; exact e), r.2⟩
      unfold valD
      rw [List.find?_cons, decide_eq_true e]
      rfl
    · have e2 : ¬ q.1 = k := by rw [← r.1]; exact e
      have h1 : valD (p :: ps) k = valD ps k := by
        unfold valD
        rw [List.find?_cons, decide_eq_false e]
      rw [valV_neg e2]
      rcases val_rel k t with ⟨a, b⟩ | ⟨d, v, a, b, c⟩
      · exact .inl ⟨h1.trans a, b⟩
      · exact .inr ⟨d, v, h1.trans a, b, c⟩
theorem any_rel {κ : Type} [DecidableEq κ] {ad : List Addr} {H : Hp} (k : κ) : ∀ {kvs : List (κ × D)} {vs : List (κ × V)}, KR K ad H kvs vs → (kvs.any fun kv => decide (kv.1 = k)) = vs.any fun kv => decide (kv.1 = k)
  | _, _, .nil => rfl
  | _, _, .cons r t => by rw [List.any_cons, List.any_cons, any_rel k t, r.1]
theorem put_rel {κ : Type} [DecidableEq κ] {ad : List Addr} {H : Hp} (k : κ) {d : D} {v : V} (rv : Rl K ad H d v) {kvs : List (κ × D)} {vs : List (κ × V)} (h : KR K ad H kvs vs) : KR K ad H (putD kvs k d) (putK vs k v) := by
  unfold putD putK
  rw [any_rel k h]
  have m1 : ∀ {kvs : List (κ × D)} {vs : List (κ × V)}, KR K ad H kvs vs → KR K ad H (kvs.map fun kv => if kv.1 = k then (kv.1, d) else kv) (vs.map fun kv => if kv.1 = k then (kv.1, v) else kv) := by
    intro kvs vs h
    induction h with
    | nil => exact .nil
    | cons r t ih =>
      rename_i p q ps qs
      refine Paired.cons ?_ ih
      by_cases e : p.1 = k
      · have e2 : q.1 = k := by rw [← r.1]; exact e
        dsimp only
        rw [if_pos e, if_pos e2]
        exact ⟨r.1, rv⟩
      · have e2 : ¬ q.1 = k := by rw [← r.1]; exact e
        dsimp only
        rw [if_neg e, if_neg e2]
        exact r
  have m2 : ∀ {kvs : List (κ × D)} {vs : List (κ × V)}, KR K ad H kvs vs → KR K ad H (kvs ++ [(k, d)]) (vs ++ [(k, v)]) := by
    intro kvs vs h
    induction h with
    | nil => exact .cons ⟨rfl, rv⟩ .nil
    | cons r t ih => exact Paired.cons r ih
  split
  · exact m1 h
  · exact m2 h
theorem KR.length {κ : Type} {ad : List Addr} {H : Hp} {kvs : List (κ × D)} {vs : List (κ × V)} (h : KR K ad H kvs vs) : kvs.length = vs.length := Paired.length h
/-- what a dict holds at a key -/
def dGetO (C : CH) (o k : D) : Option (Option D) := match o with
  | .ref n => match C[n]? with
    | some (.dK kvs) => (keyOf k).map fun i => valD kvs i
    | some (.dT kvs) => (keysOf k).map fun i => valD kvs i
    | _ => none
  | _ => none
theorem dGet_rel {ad : List Addr} {H : Hp} {C : CH} (hh : HRel K ad H C) {o k : D} {x y : V} {z : Option D} (rx : Rl K ad H o x) (ry : Rl K ad H k y) (h : dGetO C o k = some z) :
    ∃ a w, x = .ref a ∧ DGet H a y w ∧ ((z = none ∧ w = none) ∨ ∃ d v, z = some d ∧ w = some v ∧ Rl K ad H d v) := by
  unfold dGetO at h
  split at h
  · rename_i n
    cases rx with
    | ref ha =>
      rename_i a
      split at h
      · rename_i kvs e
        obtain ⟨u, h1, vs, rfl, r1⟩ := hh.obj n _ a e ha
        cases e2 : keyOf k with
        | none => rw [e2] at h; cases h
        | some i =>
          rw [e2] at h
          cases h
          rw [key_rel e2 ry]
          refine ⟨a, _, rfl, DGet.k h1, ?_⟩
          rcases val_rel i r1 with ⟨p, q⟩ | ⟨d, v, p, q, r⟩
          · exact .inl ⟨p, q⟩
          · exact .inr ⟨d, v, p, q, r⟩
      · rename_i kvs e
        obtain ⟨u, h1, vs, rfl, r1⟩ := hh.obj n _ a e ha
        cases e2 : keysOf k with
        | none => rw [e2] at h; cases h
        | some i =>
          rw [e2] at h
          cases h
          unfold keysOf at e2
          split at e2
          · cases ry with
            | tup h2 r2 =>
              rename_i b ws
              have := keys_rel e2 r2
              subst this
              refine ⟨a, _, rfl, DGet.t h1 h2, ?_⟩
              rcases val_rel i r1 with ⟨p, q⟩ | ⟨d, v, p, q, r⟩
              · exact .inl ⟨p, q⟩
              · exact .inr ⟨d, v, p, q, r⟩
          · cases e2
      · cases h
  · cases h
def rDIn (neg : Bool) : R2 := fun y x H Q => ∃ a o, x = .ref a ∧ DGet H a y o ∧ Q (.bl (if neg then !o.isSome else o.isSome)) H
def oDIn (neg : Bool) : Og := fun d e C => (dGetO C e d).map fun z => (.bl (if neg then !z.isSome else z.isSome), C)
theorem rgDIn (neg : Bool) : RG K (rDIn neg) (oDIn neg) := by
  intro ad H C x y d e z C' hh rx ry h Q q
  unfold oDIn at h
  cases e0 : dGetO C e d with
  | none => rw [e0] at h; cases h
  | some w =>
    rw [e0] at h
    cases h
    obtain ⟨a, o, rfl, g, c⟩ := dGet_rel hh ry rx e0
    refine ⟨a, o, rfl, g, ?_⟩
    have : o.isSome = w.isSome := by
      rcases c with ⟨rfl, rfl⟩ | ⟨_, _, rfl, rfl, _⟩ <;> rfl
    rw [this]
    exact q _ H (.intro hh (.bl _))
def rDGet : R2 := fun x y H Q => ∃ a v, x = .ref a ∧ DGet H a y (some v) ∧ Q v H
def oDGet : Og := fun d e C => match dGetO C d e with
  | some (some z) => some (z, C)
  | _ => none
theorem rgDGet : RG K rDGet oDGet := by
  intro ad H C x y d e z C' hh rx ry h Q q
  unfold oDGet at h
  split at h
  · rename_i w e0
    cases h
    obtain ⟨a, o, rfl, g, c⟩ := dGet_rel hh rx ry e0
    rcases c with ⟨z1, _⟩ | ⟨d', v, z1, rfl, r⟩
    · cases z1
    · cases z1
      exact ⟨a, v, rfl, g, q _ H (.intro hh r)⟩
  · cases h

/-! ### subscripts -/
def oIx : Og := fun d e C => match e with
  | .int i => match d with
    | .str z => if z.length ≤ 1000000 then (atI z.cps.toList i).map fun c => (.str ⟨#[c]⟩, C) else none
    | _ => (itemsOf C d).bind fun ds => (atI ds i).map fun w => (w, C)
  | _ => none
theorem atI_rel {ad : List Addr} {H : Hp} {ds : List D} {vs : List V} {i : Int} {d : D} (r : Rls K ad H ds vs) (h : atI ds i = some d) : ∃ v, atI vs i = some v ∧ Rl K ad H d v := by
  unfold atI at h ⊢
  rw [r.length] at h
  cases e : ixN vs.length i with
  | none => rw [e] at h; cases h
  | some j =>
    rw [e] at h
    exact r.get h
theorem rgIx : RG K (rIx K) oIx := by
  intro ad H C x y d e z C' hh rx ry h Q q
  unfold oIx at h
  split at h
  · rename_i i
    cases ry
    split at h
    · rename_i s
      split at h
      · rename_i hz
        cases rx
        cases e1 : atI s.cps.toList i with
        | none => rw [e1] at h; cases h
        | some c =>
          rw [e1] at h
          cases h
          exact .inr (.inr ⟨s, i, c, rfl, rfl, mil hz, e1, q _ H (.intro hh (.str _))⟩)
      · cases h
    · cases e0 : itemsOf C d with
      | none => rw [e0] at h; cases h
      | some ds =>
        rw [e0] at h
        simp only [Option.bind_some] at h
        cases e1 : atI ds i with
        | none => rw [e1] at h; cases h
        | some w =>
          rw [e1] at h
          cases h
          obtain ⟨p, vs, rfl, hq, rs⟩ := items_sq hh rx e0
          obtain ⟨v, a1, r1⟩ := atI_rel rs e1
          rcases hq with hq | hq
          · exact .inl ⟨p, vs, i, v, rfl, rfl, hq, a1, q _ H (.intro hh r1)⟩
          · exact .inr (.inl ⟨p, vs, i, v, rfl, rfl, hq, a1, q _ H (.intro hh r1)⟩)
  · cases h
def oSub2 : Og := orO oIx oDGet
def oIn2 (neg : Bool) : Og := orO (oIn neg) (orO (oDIn neg) (oInD neg))
end
section
variable {k : Nat} {X : Cx} {W : WX} {a b : Expr} {fa fb : Fe} {pos : Pos}
theorem cSubs (c : Ctx k X W) (ha : CE X W a fa) (hb : CE X W b fb) (hs : PlainIx b) : CE X W (.Subscript a b pos) (dBin oSub2 fa fb) :=
  PE_imp (PE_or (pe_ix ix_seq ha hb hs) (pe_dget c.un1 ha hb hs)) fun σ H Q h => (two_or h).elim (fun q => .inl (two rgIx q)) fun q => .inr (two rgDGet q)
theorem cIn (c : Ctx (k + 1) X W) (ha : CE X W a fa) (hb : CE X W b fb) (hm : behindInMarks .In b = false) : CE X W (.Compare a [.In] [b] pos) (dBin (oIn2 false) fa fb) :=
  PE_imp (PE_or (pe_cmpR op_in_seq ha hb hm) (PE_or (pe_cmp (pc_din c.un1 ha hb) hm) (pe_cmpR (op_inD (by have := c.room.un; omega)) ha hb hm))) fun σ H Q h =>
    (two_or h).elim (fun q => .inl (two (rgIn false) q)) fun q => .inr ((two_or q).elim (fun q => .inl (two (r := rDIn false) (rgDIn false) q)) fun q => .inr (two rgInD q))
theorem cNotIn (c : Ctx (k + 1) X W) (ha : CE X W a fa) (hb : CE X W b fb) (hm : behindInMarks .NotIn b = false) : CE X W (.Compare a [.NotIn] [b] pos) (dBin (oIn2 true) fa fb) :=
  PE_imp (PE_or (pe_cmpR op_notIn_seq ha hb hm) (PE_or (pe_cmp (pc_dnotin c.un1 ha hb) hm) (pe_cmpR (op_notInD (by have := c.room.un; omega)) ha hb hm))) fun σ H Q h =>
    (two_or h).elim (fun q => .inl (two (rgIn true) q)) fun q => .inr ((two_or q).elim (fun q => .inl (two (r := rDIn true) (rgDIn true) q)) fun q => .inr (two rgNotInD q))
theorem cEq (c : Ctx k X W) (ha : CE X W a fa) (hb : CE X W b fb) : CE X W (.Compare a [.Eq] [b] pos) (dBin oEq fa fb) := cCmp (op_eq.or (op_eqD c.un)) rgEq ha hb (nomark _)
theorem cNe (c : Ctx k X W) (ha : CE X W a fa) (hb : CE X W b fb) : CE X W (.Compare a [.NotEq] [b] pos) (dBin oNe fa fb) := cCmp (op_ne.or (op_neD c.un)) rgNe ha hb (nomark _)
theorem cLt (ha : CE X W a fa) (hb : CE X W b fb) : CE X W (.Compare a [.Lt] [b] pos) (dBin oLt fa fb) := cCmp op_lt (rgI0 fun _ _ _ _ => .bl _) ha hb (nomark _)
theorem cLe (ha : CE X W a fa) (hb : CE X W b fb) : CE X W (.Compare a [.LtE] [b] pos) (dBin oLe fa fb) := cCmp op_le (rgI0 fun _ _ _ _ => .bl _) ha hb (nomark _)
theorem cGt (ha : CE X W a fa) (hb : CE X W b fb) : CE X W (.Compare a [.Gt] [b] pos) (dBin oGt fa fb) := cCmp op_gt (rgI0 fun _ _ _ _ => .bl _) ha hb (nomark _)
theorem cGe (ha : CE X W a fa) (hb : CE X W b fb) : CE X W (.Compare a [.GtE] [b] pos) (dBin oGe fa fb) := cCmp op_ge (rgI0 fun _ _ _ _ => .bl _) ha hb (nomark _)
/-- any comparison of one operator, as a test -/
theorem ctOf {op : CmpOp} {r : R2} {g : Og} (ho : OpR X (compareOp op) r) (rg : RG X.K r g) (ha : CE X W a fa) (hb : CE X W b fb) (hm : behindInMarks op b = false) : CT X W (.Compare a [op] [b] pos) (dTest (dBin g fa fb)) := ctCmp ho rg ha hb hm
theorem tEq (c : Ctx k X W) (ha : CE X W a fa) (hb : CE X W b fb) : CT X W (.Compare a [.Eq] [b] pos) (dTest (dBin oEq fa fb)) := ctCmp (op_eq.or (op_eqD c.un)) rgEq ha hb (nomark _)
theorem tNe (c : Ctx k X W) (ha : CE X W a fa) (hb : CE X W b fb) : CT X W (.Compare a [.NotEq] [b] pos) (dTest (dBin oNe fa fb)) := ctCmp (op_ne.or (op_neD c.un)) rgNe ha hb (nomark _)
theorem tLt (ha : CE X W a fa) (hb : CE X W b fb) : CT X W (.Compare a [.Lt] [b] pos) (dTest (dBin oLt fa fb)) := ctCmp op_lt (rgI0 fun _ _ _ _ => .bl _) ha hb (nomark _)
theorem tLe (ha : CE X W a fa) (hb : CE X W b fb) : CT X W (.Compare a [.LtE] [b] pos) (dTest (dBin oLe fa fb)) := ctCmp op_le (rgI0 fun _ _ _ _ => .bl _) ha hb (nomark _)
theorem tGt (ha : CE X W a fa) (hb : CE X W b fb) : CT X W (.Compare a [.Gt] [b] pos) (dTest (dBin oGt fa fb)) := ctCmp op_gt (rgI0 fun _ _ _ _ => .bl _) ha hb (nomark _)
theorem tGe (ha : CE X W a fa) (hb : CE X W b fb) : CT X W (.Compare a [.GtE] [b] pos) (dTest (dBin oGe fa fb)) := ctCmp op_ge (rgI0 fun _ _ _ _ => .bl _) ha hb (nomark _)
theorem tIn (c : Ctx (k + 1) X W) (ha : CE X W a fa) (hb : CE X W b fb) (hm : behindInMarks .In b = false) : CT X W (.Compare a [.In] [b] pos) (dTest (dBin (oIn2 false) fa fb)) :=
  PT_imp (PT_or (pt_cmpR op_in_seq ha hb hm) (PT_or (pt_cmp (pc_din c.un1 ha hb) hm) (pt_cmpR (op_inD (by have := c.room.un; omega)) ha hb hm))) fun σ H Q h =>
    (test_or h).elim (fun q => .inl (test (fun _ _ _ z => two (rgIn false) z) q)) fun q => .inr ((test_or q).elim (fun q => .inl (test (fun _ _ _ z => two (r := rDIn false) (rgDIn false) z) q)) fun q => .inr (test (fun _ _ _ z => two rgInD z) q))
theorem tNotIn (c : Ctx (k + 1) X W) (ha : CE X W a fa) (hb : CE X W b fb) (hm : behindInMarks .NotIn b = false) : CT X W (.Compare a [.NotIn] [b] pos) (dTest (dBin (oIn2 true) fa fb)) :=
  PT_imp (PT_or (pt_cmpR op_notIn_seq ha hb hm) (PT_or (pt_cmp (pc_dnotin c.un1 ha hb) hm) (pt_cmpR (op_notInD (by have := c.room.un; omega)) ha hb hm))) fun σ H Q h =>
    (test_or h).elim (fun q => .inl (test (fun _ _ _ z => two (rgIn true) z) q)) fun q => .inr ((test_or q).elim (fun q => .inl (test (fun _ _ _ z => two (r := rDIn true) (rgDIn true) z) q)) fun q => .inr (test (fun _ _ _ z => two rgNotInD z) q))
end
end Cl
set_option maxHeartbeats 4000000
/-! Cl, part E: truth, slices, built-ins, methods; statements. -/
namespace Cl
open PySem PySem.Spec L2

/-! ### truth -/
def truB : D → CH → Option Bool
  | .non, _ => some false
  | .bl b, _ => some b
  | .int i, _ => some (i != 0)
  | .str x, _ => if x.length ≤ 1000000 then some ((x.length : Int) != 0) else none
  | .tup ds, _ => some (!ds.isEmpty)
  | .fl ds, _ => some (!ds.isEmpty)
  | .ref n, C => match C[n]? with
    | some (.lst ds) => some (!ds.isEmpty)
    | some (.dK ds) => some (!ds.isEmpty)
    | _ => none
  | .v _, _ => none
theorem Rls.isEmpty {K : PySem.W.Frag} {ad : List Addr} {H : Hp} {ds : List D} {vs : List V} (r : Rls K ad H ds vs) : ds.isEmpty = vs.isEmpty := by cases r <;> rfl
theorem truB_rel {K : PySem.W.Frag} {ad : List Addr} {H : Hp} {C : CH} (hh : HRel K ad H C) {d : D} {v : V} {b : Bool} (r : Rl K ad H d v) (h : truB d C = some b) : TruV K v H b := by
  cases r with
  | non => cases h; rfl
  | bl c => cases h; rfl
  | int i => cases h; rfl
  | str x =>
    have h : (if x.length ≤ 1000000 then some ((x.length : Int) != 0) else none) = some b := h
    split at h
    · rename_i hz
      cases h
      exact ⟨mil hz, rfl⟩
    · cases h
  | tup h1 r1 =>
    cases h
    exact .inr (.inl ⟨_, .of h1, by rw [r1.isEmpty]⟩)
  | fl h1 r1 =>
    cases h
    exact .inl ⟨_, h1.sq, by rw [r1.isEmpty]⟩
  | ref ha =>
    rename_i n a
    have h : (match C[n]? with | some (.lst ds) => some (!ds.isEmpty) | some (.dK ds) => some (!ds.isEmpty) | _ => none) = some b := h
    split at h
    · rename_i e
      cases h
      obtain ⟨u, h1, vs, rfl, r1⟩ := hh.obj n _ a e ha
      exact .inl ⟨_, .of h1, by rw [r1.isEmpty]⟩
    · rename_i e
      cases h
      obtain ⟨u, h1, vs, rfl, r1⟩ := hh.obj n _ a e ha
      refine .inr (.inr ⟨_, h1, ?_⟩)
      cases r1 <;> rfl
    · cases h
  | v x => cases h
def dTru (f : Fe) : Ft := fun sc C => (f sc C).bind fun d C1 => match truB d C1 with
  | some b => .ok b C1
  | none => .bad
section
variable {k : Nat} {X : Cx} {W : WX} {a b : Expr} {fa fb : Fe} {pos : Pos}
theorem tTru (ha : CE X W a fa) (he : ∀ whole, isTrue a X.env whole = (do let v ← whole; standAt a.pos; holding [v] (truthy v)) := by intro _; rfl) : CT X W a (dTru fa) := by
  refine PT_imp (pt_truth ha he) fun σ H Q ⟨ad, sc, C, hs, hh, h⟩ => ?_
  refine tE_bind hs hh (.refl _ _) h fun d C1 ad1 H1 v E1 hs1 hh1 r1 h1 => ?_
  split at h1
  · rename_i b e
    exact ⟨b, truB_rel hh1 r1 e, h1 H1 ⟨ad1, E1, hh1, trivial⟩⟩
  · exact h1.elim

/-! ### slices -/
abbrev Fo := Sc → CH → Res (Option Int)
def tO (K : PySem.W.Frag) (W : WX) (f : Fo) : TO := fun σ H Q => ∃ ad sc C, SRel K ad H sc σ ∧ HRel K ad H C ∧ RP K W ad H σ (f sc C) fun o C' => ∀ H', Aft K ad H C' (fun _ _ => True) H' → Q o H'
abbrev CO (X : Cx) (W : WX) (e : Option Expr) (f : Fo) : Prop := PO X e (tO X.K W f)
def dPN : Fo := fun _ C => .ok none C
def dPS (f : Fe) : Fo := fun sc C => (f sc C).bind fun d C1 => match d with
  | .int i => .ok (some i) C1
  | _ => .bad
theorem PO_imp {e : Option Expr} {t t' : TO} (h : PO X e t) (i : ∀ σ H Q, t' σ H Q → t σ H Q) : PO X e t' := ⟨fun pins s σ H Q I z => h.run pins s σ H Q I (i σ H Q z)⟩
theorem coN : CO X W none dPN := PO_imp po_none fun σ H Q ⟨ad, sc, C, hs, hh, h⟩ => h H (.intro hh trivial)
theorem coS (ha : CE X W a fa) : CO X W (some a) (dPS fa) := by
  refine PO_imp (po_some ha) fun σ H Q ⟨ad, sc, C, hs, hh, h⟩ => ?_
  refine tE_bind hs hh (.refl _ _) h fun d C1 ad1 H1 v E1 hs1 hh1 r1 h1 => ?_
  cases r1 with
  | int i => exact ⟨i, rfl, h1 H1 ⟨ad1, E1, hh1, trivial⟩⟩
  | _ => exact h1.elim
theorem tO_bind {K : PySem.W.Frag} {W : WX} {ad0 ad : List Addr} {H0 H : Hp} {sc : Sc} {C : CH} {σ : L2.St} {β : Type} {fa : Fo} {k : Option Int → CH → Res β} {P : β → CH → Prop} {R : Option Int → Hp → Prop} (hs : SRel K ad H sc σ) (hh : HRel K ad H C) (E : Ext ad0 H0 ad H)
    (h : RP K W ad0 H0 σ ((fa sc C).bind k) P)
    (n : ∀ d C1 ad1 H1, Ext ad H ad1 H1 → SRel K ad1 H1 sc σ → HRel K ad1 H1 C1 → RP K W ad0 H0 σ (k d C1) P → R d H1) : tO K W fa σ H R := by
  refine ⟨ad, sc, C, hs, hh, ?_⟩
  refine (h.bind).later E fun d C1 q H1 a => ?_
  obtain ⟨ad1, E1, h1, _⟩ := a
  exact n d C1 ad1 H1 E1 (hs.mono E1) h1 q
def cutD (xs : List D) (lo hi : Option Int) : List D := (xs.drop (HT.sIx xs.length 0 lo)).take (HT.sIx xs.length xs.length hi - HT.sIx xs.length 0 lo)
theorem cut_rel {K : PySem.W.Frag} {ad : List Addr} {H : Hp} {ds : List D} {vs : List V} (r : Rls K ad H ds vs) (lo hi : Option Int) : Rls K ad H (cutD ds lo hi) (cutV vs lo hi) := by
  unfold cutD cutV
  rw [r.length]
  exact (r.drop _).take _
def slO (d : D) (lo hi : Option Int) (C : CH) : Option (D × CH) := match d with
  | .str z => if z.length ≤ 1000000 then some (.str (cutS z lo hi), C) else none
  | .tup ds => some (.tup (cutD ds lo hi), C)
  | _ => (itemsOf C d).map fun ds => (.ref C.length, C ++ [.lst (cutD ds lo hi)])
def dSl (fe : Fe) (fl fu : Fo) : Fe := fun sc C => (fe sc C).bind fun d C1 => (fl sc C1).bind fun lo C2 => (fu sc C2).bind fun hi C3 => .lift (slO d lo hi C3)
theorem cut_whole {vs : List V} {lo hi : Option Int} (h : HT.sIx vs.length 0 lo = 0 ∧ HT.sIx vs.length vs.length hi = vs.length) : cutV vs lo hi = vs := by
  unfold cutV
  rw [h.1, h.2]
  simp
theorem cSl {lo hi : Option Expr} {fl fu : Fo} {p2 : Pos} (ha : CE X W a fa) (hl : CO X W lo fl) (hu : CO X W hi fu) : CE X W (.Subscript a (.Slice lo hi none p2) pos) (dSl fa fl fu) := by
  refine PE_imp (pe_slice (sl_list.or (sl_tupA.or sl_str)) ha hl hu) fun σ H Q ⟨ad, sc, C, hs, hh, h⟩ => ?_
  refine tE_bind hs hh (.refl _ _) h fun d C1 ad1 H1 v E1 hs1 hh1 r1 h1 => ?_
  refine tO_bind hs1 hh1 E1 h1 fun l C2 ad2 H2 E2 hs2 hh2 h2 => ?_
  refine tO_bind hs2 hh2 (E1.trans E2) h2 fun u C3 ad3 H3 E3 hs3 hh3 h3 => ?_
  obtain ⟨z, C4, e, q⟩ := RP.lift h3
  have EE : Ext ad H ad3 H3 := E1.trans (E2.trans E3)
  have r := r1.mono (E2.trans E3)
  unfold slO at e
  split at e
  · split at e
    · rename_i hz
      cases e
      cases r
      exact .inr (.inr ⟨_, rfl, mil hz, q _ _ ⟨ad3, EE, hh3, .str _⟩⟩)
    · cases e
  · cases e
    cases r with
    | tup g1 g2 =>
      rename_i ds x vs
      refine .inr (.inl ⟨x, vs, rfl, .of g1, fun hw => ?_, fun hw p hp => ?_⟩)
      · refine q _ _ ⟨ad3, EE, hh3, .tup g1 ?_⟩
        have := cut_rel g2 l u
        rw [cut_whole hw] at this
        exact this
      · exact q _ _ ⟨ad3, EE.trans (ext_new hp), hh3.new hp, .tup upd_same ((cut_rel g2 l u).mono (ext_new hp))⟩
  · rename_i n1 n2
    cases e0 : itemsOf C3 d with
    | none => rw [e0] at e; cases e
    | some ds =>
      rw [e0] at e
      cases e
      have key : ∀ (p : Addr) (vs : List V), SqL X.K H3 p vs → Rls X.K ad3 H3 ds vs → rSlL X.K (.ref p) l u H3 Q := fun p vs hq rs =>
        ⟨p, vs, rfl, hq, fun p hp => q _ _ ⟨ad3 ++ [p], EE.trans (ext_alloc hp), hh3.alloc hp ⟨_, rfl, (cut_rel rs l u).mono (ext_alloc hp)⟩, .ref (alloc_at hh3)⟩⟩
      cases r with
      | tup g1 g2 => exact absurd rfl (n2 _)
      | fl g1 g2 => cases e0; exact .inl (key _ _ g1.sq g2)
      | ref ha =>
        rename_i n x
        have e0 : (match C3[n]? with | some (.lst ds) => some ds | _ => none) = some ds := e0
        split at e0
        · rename_i e5
          cases e0
          obtain ⟨w, g1, vs, rfl, g2⟩ := hh3.obj n _ x e5 ha
          exact .inl (key _ _ (.of g1) g2)
        · cases e0
      | _ => cases e0

/-! ### built-in functions and classes -/
abbrev Og1 := List D → CH → Option (D × CH)
def CG (K : PySem.W.Frag) (r : List V → Hp → VK → Prop) (g : Og1) : Prop := ∀ ad H C ds vs z C', HRel K ad H C → Rls K ad H ds vs → g ds C = some (z, C') →
  ∀ Q : VK, (∀ v H', Aft K ad H C' (fun ad' H' => Rl K ad' H' z v) H' → Q v H') → r vs H Q
def dCB (g : Og1) (fs : Fa) : Fe := fun sc C => (fs sc C).bind fun ds C1 => .lift (g ds C1)
theorem cb {K : PySem.W.Frag} {r : List V → Hp → VK → Prop} {g : Og1} (cg : CG K r g) {fs : Fa} {σ : L2.St} {H : Hp} {Q : VK} (h : tE K W (dCB g fs) σ H Q) : tCB r (tA K W fs) σ H Q := by
  obtain ⟨ad, sc, C, hs, hh, h⟩ := h
  refine tA_bind hs hh (.refl _ _) h fun ds C1 ad1 H1 vs E1 hs1 hh1 r1 h1 => ?_
  obtain ⟨z, C2, e, q⟩ := RP.lift h1
  exact cg ad1 H1 C1 ds vs z C2 hh1 r1 e Q fun v H' a => q v H' (a.trans E1)
theorem CG.or {K : PySem.W.Frag} {r r' : List V → Hp → VK → Prop} {g g' : Og1} (h : CG K r g) (h' : CG K r' g') : CG K (fun xs H Q => r xs H Q ∨ r' xs H Q) (fun ds C => (g ds C).orElse fun _ => g' ds C) := by
  intro ad H C ds vs z C' hh rs e Q q
  cases e1 : g ds C with
  | some p =>
    dsimp only at e
    rw [e1] at e
    simp only [Option.orElse_some] at e
    rw [e] at e1
    exact .inl (h ad H C ds vs z C' hh rs e1 Q q)
  | none =>
    dsimp only at e
    rw [e1] at e
    simp only [Option.orElse_none] at e
    exact .inr (h' ad H C ds vs z C' hh rs e Q q)
variable {x : Str} {p : Pos} {e : Expr} {es : List Expr} {fs : Fa} {id T : String}
theorem cCB {r : List V → Hp → VK → Prop} {g : Og1} (hc : CallR X (.builtin id) r) (cg : CG X.K r g) (hg : Gl X x) (hm : X.mg x = none) (hv : bootBuiltins x = some (.builtin id)) (ha : CA X W (e :: es) fs) (hn : x ≠ "__name__" := by decide) (hdb : (x == ("__debug__" : Str)) = false := by decide)
    (he : starEach (e :: es) X.env = (false, eval e X.env) :: starEach es X.env := by rfl) (hpl : (backTo pos (starEach es X.env)).any (·.1) = false := by rfl) : CE X W (.Call (.Name x p) (e :: es) [] pos) (dCB g fs) :=
  PE_imp (pe_callB hc hg hm hv ha hn hdb he hpl) fun _ _ _ h => cb cg h
theorem cCT {r : List V → Hp → VK → Prop} {g : Og1} (hc : CallR X (.type T) r) (cg : CG X.K r g) (hg : Gl X x) (hm : X.mg x = none) (hv : bootBuiltins x = some (.type T)) (ha : CA X W (e :: es) fs) (hn : x ≠ "__name__" := by decide) (hdb : (x == ("__debug__" : Str)) = false := by decide)
    (he : starEach (e :: es) X.env = (false, eval e X.env) :: starEach es X.env := by rfl) (hpl : (backTo pos (starEach es X.env)).any (·.1) = false := by rfl) : CE X W (.Call (.Name x p) (e :: es) [] pos) (dCB g fs) :=
  PE_imp (pe_callTy hc hg hm hv ha hn hdb he hpl) fun _ _ _ h => cb cg h
/-- len -/
def gLen : Og1 := fun ds C => match ds with
  | [.str z] => if z.length ≤ 1000000 then some (.int z.length, C) else none
  | [d] => (itemsOf C d).map fun ds => (.int ds.length, C)
  | _ => none
theorem cgLen {K : PySem.W.Frag} : CG K (fun xs H Q => ∃ x n, xs = [x] ∧ LenV K x H n ∧ Q (.int n) H) gLen := by
  intro ad H C ds vs z C' hh rs e Q q
  unfold gLen at e
  split at e
  · split at e
    · rename_i hz
      cases e
      cases rs with
      | cons r1 r2 =>
        cases r2
        cases r1
        exact ⟨_, _, rfl, ⟨mil hz, rfl⟩, q _ _ (.intro hh (.int _))⟩
    · cases e
  · rename_i d _
    cases e0 : itemsOf C d with
    | none => rw [e0] at e; cases e
    | some es =>
      rw [e0] at e
      cases e
      cases rs with
      | cons r1 r2 =>
        cases r2
        obtain ⟨p, ws, rfl, hq, rr⟩ := items_sq hh r1 e0
        refine ⟨_, ws.length, rfl, ?_, by rw [← rr.length]; exact q _ _ (.intro hh (.int _))⟩
        rcases hq with hq | hq
        · exact .inl ⟨ws, hq, rfl⟩
        · exact .inr ⟨ws, hq, rfl⟩
  · cases e
/-- len of a dict -/
def gLenD : Og1 := fun ds C => match ds with
  | [.ref n] => match C[n]? with
    | some (.dK kvs) => some (.int kvs.length, C)
    | _ => none
  | _ => none
theorem cgLenD {K : PySem.W.Frag} : CG K (fun xs H Q => ∃ a kvs, xs = [V.ref a] ∧ H a = some (.dK kvs) ∧ Q (.int kvs.length) H) gLenD := by
  intro ad H C ds vs z C' hh rs e Q q
  unfold gLenD at e
  split at e
  · split at e
    · rename_i e1
      cases e
      cases rs with
      | cons r1 r2 =>
        cases r2
        cases r1 with
        | ref ha =>
          obtain ⟨u, h1, ws, rfl, rr⟩ := hh.obj _ _ _ e1 ha
          exact ⟨_, ws, rfl, h1, by rw [← rr.length]; exact q _ _ (.intro hh (.int _))⟩
    · cases e
  · cases e
def gLen2 : Og1 := fun ds C => (gLen ds C).orElse fun _ => gLenD ds C
theorem cLen (hg : Gl X "len") (hm : X.mg "len" = none) (ha : CA X W [e] fs) (he : starEach [e] X.env = (false, eval e X.env) :: starEach [] X.env := by rfl) : CE X W (.Call (.Name "len" p) [e] [] pos) (dCB gLen2 fs) :=
  cCB (call_len.or call_lenD) (cgLen.or cgLenD) hg hm PySem.boot_len ha (by decide) (by decide) he
/-- min, max of two ints -/
def g2I (f : Int → Int → Int) : Og1 := fun ds C => match ds with
  | [.int i, .int j] => some (.int (f i j), C)
  | _ => none
theorem cg2I {K : PySem.W.Frag} {f : Int → Int → Int} : CG K (fun xs H Q => ∃ i j, xs = [.int i, .int j] ∧ Q (.int (f i j)) H) (g2I f) := by
  intro ad H C ds vs z C' hh rs e Q q
  unfold g2I at e
  split at e
  · cases e
    cases rs with
    | cons r1 r2 =>
      cases r2 with
      | cons r2 r3 =>
        cases r3
        cases r1
        cases r2
        exact ⟨_, _, rfl, q _ _ (.intro hh (.int _))⟩
  · cases e
def minI (i j : Int) : Int := if j < i then j else i
def maxI (i j : Int) : Int := if j > i then j else i
theorem cMin2 {e2 : Expr} (c : Ctx k X W) (hg : Gl X "min") (hm : X.mg "min" = none) (ha : CA X W [e, e2] fs) (he : starEach [e, e2] X.env = (false, eval e X.env) :: starEach [e2] X.env := by rfl) (hpl : (backTo pos (starEach [e2] X.env)).any (·.1) = false := by rfl) : CE X W (.Call (.Name "min" p) [e, e2] [] pos) (dCB (g2I minI) fs) :=
  cCB (call_min2 c.calm) cg2I hg hm (by decide +kernel) ha (by decide) (by decide) he hpl
theorem cMax2 {e2 : Expr} (c : Ctx k X W) (hg : Gl X "max") (hm : X.mg "max" = none) (ha : CA X W [e, e2] fs) (he : starEach [e, e2] X.env = (false, eval e X.env) :: starEach [e2] X.env := by rfl) (hpl : (backTo pos (starEach [e2] X.env)).any (·.1) = false := by rfl) : CE X W (.Call (.Name "max" p) [e, e2] [] pos) (dCB (g2I maxI) fs) :=
  cCB (call_max2 c.calm) cg2I hg hm (by decide +kernel) ha (by decide) (by decide) he hpl
/-- int of an int, of a bool -/
def gInt : Og1 := fun ds C => match ds with
  | [.int i] => some (.int i, C)
  | [.bl b] => some (.int (if b then 1 else 0), C)
  | _ => none
theorem cgInt {K : PySem.W.Frag} : CG K (fun xs H Q => (∃ i, xs = [.int i] ∧ Q (.int i) H) ∨ ∃ k, xs = [.bl k] ∧ Q (.int (if k then 1 else 0)) H) gInt := by
  intro ad H C ds vs z C' hh rs e Q q
  unfold gInt at e
  split at e
  · cases e
    cases rs with
    | cons r1 r2 => cases r2; cases r1; exact .inl ⟨_, rfl, q _ _ (.intro hh (.int _))⟩
  · cases e
    cases rs with
    | cons r1 r2 => cases r2; cases r1; exact .inr ⟨_, rfl, q _ _ (.intro hh (.int _))⟩
  · cases e
theorem cIntOf (hg : Gl X "int") (hm : X.mg "int" = none) (ha : CA X W [e] fs) (he : starEach [e] X.env = (false, eval e X.env) :: starEach [] X.env := by rfl) : CE X W (.Call (.Name "int" p) [e] [] pos) (dCB gInt fs) :=
  cCT call_int1 cgInt hg hm (by decide +kernel) ha (by decide) (by decide) he
/-- tuple(xs), list(xs) -/
def gTup : Og1 := fun ds C => match ds with
  | [d] => (itemsOf C d).map fun ds => (.tup ds, C)
  | _ => none
theorem cgTup {K : PySem.W.Frag} : CG K (fun xs H Q => ∃ p ys, xs = [.ref p] ∧ ((SqL K H p ys ∧ ∀ l, H l = none → Q (.ref l) (upd H l (.tup ys))) ∨ (SqT K H p ys ∧ Q (.ref p) H))) gTup := by
  intro ad H C ds vs z C' hh rs e Q q
  unfold gTup at e
  split at e
  · rename_i d
    cases e0 : itemsOf C d with
    | none => rw [e0] at e; cases e
    | some es =>
      rw [e0] at e
      cases e
      cases rs with
      | cons r1 r2 =>
        cases r2
        have key : ∀ (p : Addr) (ws : List V), SqL K H p ws → Rls K ad H es ws → (SqL K H p ws ∧ ∀ l, H l = none → Q (.ref l) (upd H l (.tup ws))) := fun p ws hq rr =>
          ⟨hq, fun l hl => q _ _ ⟨ad, ext_new hl, hh.new hl, .tup upd_same (rr.mono (ext_new hl))⟩⟩
        cases r1 with
        | tup g1 g2 => cases e0; exact ⟨_, _, rfl, .inr ⟨.of g1, q _ _ (.intro hh (.tup g1 g2))⟩⟩
        | fl g1 g2 => cases e0; exact ⟨_, _, rfl, .inl (key _ _ g1.sq g2)⟩
        | ref ha =>
          rename_i n x
          have e0 : (match C[n]? with | some (.lst ds) => some ds | _ => none) = some es := e0
          split at e0
          · rename_i e5
            cases e0
            obtain ⟨w, g1, ws, rfl, g2⟩ := hh.obj n _ x e5 ha
            exact ⟨_, _, rfl, .inl (key _ _ (.of g1) g2)⟩
          · cases e0
        | _ => cases e0
  · cases e
theorem cTupOf (hg : Gl X "tuple") (hm : X.mg "tuple" = none) (ha : CA X W [e] fs) (he : starEach [e] X.env = (false, eval e X.env) :: starEach [] X.env := by rfl) : CE X W (.Call (.Name "tuple" p) [e] [] pos) (dCB gTup fs) :=
  cCT call_tuple_of cgTup hg hm (by decide +kernel) ha (by decide) (by decide) he
def gList : Og1 := fun ds C => match ds with
  | [d] => (itemsOf C d).map fun ds => (.ref C.length, C ++ [.lst ds])
  | _ => none
theorem cgList {K : PySem.W.Frag} : CG K (fun xs H Q => ∃ p ys, xs = [.ref p] ∧ (SqL K H p ys ∨ SqT K H p ys) ∧ ∀ l, H l = none → Q (.ref l) (upd H l (.lst ys))) gList := by
  intro ad H C ds vs z C' hh rs e Q q
  unfold gList at e
  split at e
  · rename_i d
    cases e0 : itemsOf C d with
    | none => rw [e0] at e; cases e
    | some es =>
      rw [e0] at e
      cases e
      cases rs with
      | cons r1 r2 =>
        cases r2
        obtain ⟨p, ws, rfl, hq, rr⟩ := items_sq hh r1 e0
        exact ⟨p, ws, rfl, hq, fun l hl => q _ _ ⟨ad ++ [l], ext_alloc hl, hh.alloc hl ⟨_, rfl, rr.mono (ext_alloc hl)⟩, .ref (alloc_at hh)⟩⟩
  · cases e
theorem cListOf (hg : Gl X "list") (hm : X.mg "list" = none) (ha : CA X W [e] fs) (he : starEach [e] X.env = (false, eval e X.env) :: starEach [] X.env := by rfl) : CE X W (.Call (.Name "list" p) [e] [] pos) (dCB gList fs) :=
  cCT call_list_of cgList hg hm (by decide +kernel) ha (by decide) (by decide) he

/-! ### methods of lists -/
abbrev Ogm := D → List D → CH → Option (D × CH)
def isLst (C : CH) : D → Bool
  | .ref n => match C[n]? with
    | some (.lst _) => true
    | _ => false
  | _ => false
theorem isLst_ty {K : PySem.W.Frag} {ad : List Addr} {H : Hp} {C : CH} (hh : HRel K ad H C) {d : D} {v : V} (r : Rl K ad H d v) (h : isLst C d = true) : tyV K "list" v H := by
  cases r with
  | ref ha =>
    rename_i n a
    have h : (match C[n]? with | some (.lst _) => true | _ => false) = true := h
    split at h
    · rename_i e
      obtain ⟨u, h1, vs, rfl, r1⟩ := hh.obj n _ a e ha
      exact Or.inl ⟨rfl, vs, .of h1⟩
    · cases h
  | _ => cases h
def MG (K : PySem.W.Frag) (r : V → List V → Hp → VK → Prop) (g : Ogm) : Prop := ∀ ad H C d ds v vs z C', HRel K ad H C → Rl K ad H d v → Rls K ad H ds vs → g d ds C = some (z, C') →
  ∀ Q : VK, (∀ v H', Aft K ad H C' (fun ad' H' => Rl K ad' H' z v) H' → Q v H') → r v vs H Q
def dBM (chk : CH → D → Bool) (g : Ogm) (fo : Fe) (fs : Fa) : Fe := fun sc C => (fo sc C).bind fun d C1 => if chk C1 d = true then (fs sc C1).bind fun ds C2 => .lift (g d ds C2) else .bad
theorem bm {K : PySem.W.Frag} {r : V → List V → Hp → VK → Prop} {chk : CH → D → Bool} {g : Ogm} {T : String} (ty : ∀ {ad H C d v}, HRel K ad H C → Rl K ad H d v → chk C d = true → tyV K T v H) (mg : MG K r g) {fo : Fe} {fs : Fa} {σ : L2.St} {H : Hp} {Q : VK}
    (h : tE K W (dBM chk g fo fs) σ H Q) : tBM K T r (tE K W fo) (tA K W fs) σ H Q := by
  obtain ⟨ad, sc, C, hs, hh, h⟩ := h
  refine tE_bind hs hh (.refl _ _) h fun d C1 ad1 H1 v E1 hs1 hh1 r1 h1 => ?_
  by_cases hc : chk C1 d = true
  · rw [if_pos hc] at h1
    refine ⟨ty hh1 r1 hc, tA_bind hs1 hh1 E1 h1 fun ds C2 ad2 H2 vs E2 hs2 hh2 r2 h2 => ?_⟩
    obtain ⟨z, C3, e, q⟩ := RP.lift h2
    exact mg ad2 H2 C2 d ds v vs z C3 hh2 (r1.mono E2) r2 e Q fun v H' a => q v H' (a.trans (E1.trans E2))
  · rw [if_neg hc] at h1
    exact h1.elim
def gApp : Ogm := fun d ds C => match d, ds with
  | .ref n, [x] => match C[n]? with
    | some (.lst xs) => if xs.length ≤ 1000000 then some (.non, C.set n (.lst (xs ++ [x]))) else none
    | _ => none
  | _, _ => none
theorem mil2 {n : Nat} (h : n ≤ 1000000) : n < sizeLine := Nat.lt_of_le_of_lt h (by decide)
theorem mgApp {K : PySem.W.Frag} : MG K rAppend gApp := by
  intro ad H C d ds v vs z C' hh r rs e Q q
  unfold gApp at e
  split at e
  · rename_i n x
    split at e
    · rename_i xs e1
      split at e
      · rename_i hz
        cases e
        cases r with
        | ref ha =>
          rename_i a
          cases rs with
          | cons r1 r2 =>
            rename_i y _
            cases r2
            obtain ⟨u, h1, ws, rfl, rr⟩ := hh.obj n _ a e1 ha
            have E := ext_set hh e1 ha (u := .lst (ws ++ [y]))
            exact ⟨a, ws, _, rfl, rfl, h1, by rw [← rr.length]; exact mil2 hz, q _ _ ⟨ad, E, hh.set e1 ha ⟨_, rfl, (rr.mono E).append (.one (r1.mono E))⟩, .non⟩⟩
      · cases e
    · cases e
  · cases e
variable {o : Expr} {fo : Fe} {apos : Pos}
theorem cApp (ho : CE X W o fo) (ha : CA X W [e] fs) (hbase : attributeBase o "append" X.env (eval o X.env) = eval o X.env := by rfl)
    (hfew : ((backTo pos (starEach [e] X.env)).all (fun x => !x.1) && (backToKw pos (keywordEach [] X.env)).all (fun x => x.1.isSome)
      && decide ([e].length + ([] : List Keyword).length + (if ([] : List Keyword).isEmpty then 0 else 1) < 30)) = true := by rfl)
    (hline : (apos.endLine == pos.line) = true := by rfl) (hs : starEach [e] X.env = (false, eval e X.env) :: starEach [] X.env := by rfl) :
    CE X W (.Call (.Attribute o "append" apos) [e] [] pos) (dBM isLst gApp fo fs) :=
  PE_imp (pe_bm PySem.F.plainAttrs_list PySem.F.slot_list_append PySem.F.type_list_append mt_append ho ha hbase hfew hline hs) fun _ _ _ h => bm (fun h r c => isLst_ty h r c) mgApp h
end
end Cl
set_option maxHeartbeats 4000000
/-! Cl, part F: statements, loops. -/
namespace Cl
open PySem PySem.Spec L2

def Res.st {α : Type} (sc : Sc) : Res α → (α → CH → SOut) → SOut
  | .ok a C, k => k a C
  | .ex x C, _ => .ex x sc C
  | .bad, _ => .bad
@[simp] theorem Res.st_ok {α : Type} (sc : Sc) (a : α) (C : CH) (k : α → CH → SOut) : (Res.ok a C).st sc k = k a C := rfl
@[simp] theorem Res.st_ex {α : Type} (sc : Sc) (x : XD) (C : CH) (k : α → CH → SOut) : (Res.ex x C : Res α).st sc k = .ex x sc C := rfl
@[simp] theorem Res.st_bad {α : Type} (sc : Sc) (k : α → CH → SOut) : (Res.bad : Res α).st sc k = .bad := rfl

section
variable {K : PySem.W.Frag} {W : WX} {ad ad0 ad1 : List Addr} {H H0 H1 : Hp} {C : CH} {sc : Sc} {σ : L2.St} {D : Ends}
theorem SPo.later {o : SOut} (E : Ext ad H ad1 H1) (h : SPo K W ad H D o) : SPo K W ad1 H1 D o := by
  cases o with
  | nx sc' C' => exact fun σ' H' a => h σ' H' (a.trans E)
  | rt d C' => exact fun v H' a => h v H' (a.trans E)
  | bk sc' C' => exact fun σ' H' a => h σ' H' (a.trans E)
  | ct sc' C' => exact fun σ' H' a => h σ' H' (a.trans E)
  | ex x sc' C' => exact fun c d σ' H' e a => h c d σ' H' e (a.trans E)
  | bad => exact h
/-- of a result within a statement -/
theorem SPo.res {α : Type} {r : Res α} {k : α → CH → SOut} (hs : SRel K ad H sc σ) (E : Ext ad0 H0 ad H) (h : SPo K W ad0 H0 D (r.st sc k)) : RP K W ad H σ r fun a C' => SPo K W ad0 H0 D (k a C') := by
  cases r with
  | ok a C' => exact h
  | ex x C' =>
    intro c d H' ⟨e, a⟩
    obtain ⟨ad', E', h', f⟩ := a
    exact h c d σ H' e ⟨ad', E.trans E', h', f, hs.mono E'⟩
  | bad => exact h
theorem sE_bind {fa : Fe} {k : Cl.D → CH → SOut} {R : VK} (hs : SRel K ad H sc σ) (hh : HRel K ad H C) (E : Ext ad0 H0 ad H) (h : SPo K W ad0 H0 D ((fa sc C).st sc k))
    (n : ∀ d C1 ad1 H1 v, Ext ad H ad1 H1 → SRel K ad1 H1 sc σ → HRel K ad1 H1 C1 → Rl K ad1 H1 d v → SPo K W ad0 H0 D (k d C1) → R v H1) : tE K W fa σ H R := by
  refine ⟨ad, sc, C, hs, hh, (SPo.res hs E h).imp fun d C1 q v H1 a => ?_⟩
  obtain ⟨ad1, E1, h1, r⟩ := a
  exact n d C1 ad1 H1 v E1 (hs.mono E1) h1 r q
theorem sT_bind {fa : Ft} {k : Bool → CH → SOut} {R : Bool → Hp → Prop} (hs : SRel K ad H sc σ) (hh : HRel K ad H C) (E : Ext ad0 H0 ad H) (h : SPo K W ad0 H0 D ((fa sc C).st sc k))
    (n : ∀ b C1 ad1 H1, Ext ad H ad1 H1 → SRel K ad1 H1 sc σ → HRel K ad1 H1 C1 → SPo K W ad0 H0 D (k b C1) → R b H1) : tT K W fa σ H R := by
  refine ⟨ad, sc, C, hs, hh, (SPo.res hs E h).imp fun d C1 q H1 a => ?_⟩
  obtain ⟨ad1, E1, h1, _⟩ := a
  exact n d C1 ad1 H1 E1 (hs.mono E1) h1 q
theorem sA_bind {fa : Fa} {k : List Cl.D → CH → SOut} {R : List V → Hp → Prop} (hs : SRel K ad H sc σ) (hh : HRel K ad H C) (E : Ext ad0 H0 ad H) (h : SPo K W ad0 H0 D ((fa sc C).st sc k))
    (n : ∀ d C1 ad1 H1 v, Ext ad H ad1 H1 → SRel K ad1 H1 sc σ → HRel K ad1 H1 C1 → Rls K ad1 H1 d v → SPo K W ad0 H0 D (k d C1) → R v H1) : tA K W fa σ H R := by
  refine ⟨ad, sc, C, hs, hh, (SPo.res hs E h).imp fun d C1 q v H1 a => ?_⟩
  obtain ⟨ad1, E1, h1, r⟩ := a
  exact n d C1 ad1 H1 v E1 (hs.mono E1) h1 r q
end

/-! ### small statements -/
def SOut.seq : SOut → Fs → SOut
  | .nx sc C, g => g sc C
  | .rt d C, _ => .rt d C
  | .bk sc C, _ => .bk sc C
  | .ct sc C, _ => .ct sc C
  | .ex x sc C, _ => .ex x sc C
  | .bad, _ => .bad
@[simp] theorem SOut.seq_nx (sc : Sc) (C : CH) (g : Fs) : (SOut.nx sc C).seq g = g sc C := rfl
@[simp] theorem SOut.seq_rt (d : D) (C : CH) (g : Fs) : (SOut.rt d C).seq g = .rt d C := rfl
@[simp] theorem SOut.seq_bk (sc : Sc) (C : CH) (g : Fs) : (SOut.bk sc C).seq g = .bk sc C := rfl
@[simp] theorem SOut.seq_ct (sc : Sc) (C : CH) (g : Fs) : (SOut.ct sc C).seq g = .ct sc C := rfl
@[simp] theorem SOut.seq_ex (x : XD) (sc : Sc) (C : CH) (g : Fs) : (SOut.ex x sc C).seq g = .ex x sc C := rfl
@[simp] theorem SOut.seq_bad (g : Fs) : SOut.bad.seq g = .bad := rfl
def sNx : Fs := fun sc C => .nx sc C
def sSeq (g1 g2 : Fs) : Fs := fun sc C => (g1 sc C).seq g2
def sIf (t : Ft) (g1 g2 : Fs) : Fs := fun sc C => (t sc C).st sc fun b C1 => if b then g1 sc C1 else g2 sc C1
def sRet (f : Fe) : Fs := fun sc C => (f sc C).st sc fun d C1 => .rt d C1
def sRetN : Fs := fun _ C => .rt .non C
def sDrop (f : Fe) : Fs := fun sc C => (f sc C).st sc fun _ C1 => .nx sc C1
def sBrk : Fs := fun sc C => .bk sc C
def sCt : Fs := fun sc C => .ct sc C
section
variable {k : Nat} {X : Cx} {W : WX} {st : Stmt} {rest : List Stmt} {g g1 g2 : Fs} {f : Ft} {a e : Expr} {fa : Fe} {pos : Pos}
theorem csN : CSs X W [] sNx := PSs_imp pss_nil fun D σ H ⟨ad, sc, C, hs, hh, h⟩ => h σ H (.intro hh hs)
theorem csC (h1 : CS X W st g1) (h2 : CSs X W rest g2) : CSs X W (st :: rest) (sSeq g1 g2) := by
  refine PSs_imp (pss_cons h1 h2) fun D σ H ⟨ad, sc, C, hs, hh, h⟩ => ⟨ad, sc, C, hs, hh, ?_⟩
  have h : SPo X.K W ad H D ((g1 sc C).seq g2) := h
  cases e : g1 sc C with
  | nx sc' C' =>
    rw [e] at h
    intro σ' H' ⟨ad', E, h', s'⟩
    exact ⟨ad', sc', C', s', h', h.later E⟩
  | rt d C' => rw [e] at h; exact h
  | bk sc' C' => rw [e] at h; exact h
  | ct sc' C' => rw [e] at h; exact h
  | ex x sc' C' => rw [e] at h; exact h
  | bad => rw [e] at h; exact h
theorem csO (h1 : CS X W st g1) : CSs X W [st] g1 := pss_one h1
theorem csPass : CS X W (.Pass pos) sNx := PS_imp ps_pass fun D σ H ⟨ad, sc, C, hs, hh, h⟩ => h σ H (.intro hh hs)
theorem csBrk : CS X W (.Break pos) sBrk := PS_imp ps_break fun D σ H ⟨ad, sc, C, hs, hh, h⟩ => h σ H (.intro hh hs)
theorem csCt : CS X W (.Continue pos) sCt := PS_imp ps_continue fun D σ H ⟨ad, sc, C, hs, hh, h⟩ => h σ H (.intro hh hs)
theorem csRet (ha : CE X W a fa) : CS X W (.Return (some a) pos) (sRet fa) := by
  refine PS_imp (ps_ret ha) fun D σ H ⟨ad, sc, C, hs, hh, h⟩ => ?_
  exact sE_bind hs hh (.refl _ _) h fun d C1 ad1 H1 v E1 hs1 hh1 r1 h1 => h1 v H1 ⟨ad1, E1, hh1, r1⟩
theorem csRetN : CS X W (.Return none pos) sRetN := PS_imp ps_retN fun D σ H ⟨ad, sc, C, hs, hh, h⟩ => h _ H (.intro hh .non)
theorem csE (ha : CE X W a fa) (hsw : swapsWith a none pos.line X.env = pure false := by rfl) : CS X W (.Expr a pos) (sDrop fa) := by
  refine PS_imp (ps_expr ha hsw) fun D σ H ⟨ad, sc, C, hs, hh, h⟩ => ?_
  exact sE_bind hs hh (.refl _ _) h fun d C1 ad1 H1 v E1 hs1 hh1 r1 h1 => h1 σ H1 ⟨ad1, E1, hh1, hs1⟩
theorem csIf {c : Expr} {ss ts : List Stmt} (hc : CT X W c f) (h1 : CSs X W ss g1) (h2 : CSs X W ts g2) : CS X W (.If c ss ts pos) (sIf f g1 g2) := by
  refine PS_imp (ps_if hc h1 h2) fun D σ H ⟨ad, sc, C, hs, hh, h⟩ => ?_
  refine sT_bind hs hh (.refl _ _) h fun b C1 ad1 H1 E1 hs1 hh1 q => ?_
  cases b with
  | true => exact ⟨ad1, sc, C1, hs1, hh1, SPo.later E1 q⟩
  | false => exact ⟨ad1, sc, C1, hs1, hh1, SPo.later E1 q⟩

/-! ### targets, assignments -/
abbrev Fg := D → Sc → Option Sc
def tG (K : PySem.W.Frag) (is : List Nat) (g : Fg) : TG := fun v σ H Q => ∃ ad sc C d sc', SRel K ad H sc σ ∧ HRel K ad H C ∧ Rl K ad H d v ∧ g d sc = some sc' ∧ ∀ σ' : L2.St, SRel K ad H sc' σ' → (σ'.length = σ.length ∧ ∀ j, j ∉ is → σ'[j]? = σ[j]?) → Q σ' H
abbrev CGt (X : Cx) (tg : Expr) (is : List Nat) (g : Fg) : Prop := PG X tg (tG X.K is g)
abbrev Fgs := List D → Sc → Option Sc
def tGs (K : PySem.W.Frag) (is : List Nat) (g : Fgs) : TGs := fun vs σ H Q => ∃ ad sc C ds sc', SRel K ad H sc σ ∧ HRel K ad H C ∧ Rls K ad H ds vs ∧ g ds sc = some sc' ∧ ∀ σ' : L2.St, SRel K ad H sc' σ' → (σ'.length = σ.length ∧ ∀ j, j ∉ is → σ'[j]? = σ[j]?) → Q σ' H
abbrev CGts (X : Cx) (tgs : List Expr) (is : List Nat) (g : Fgs) : Prop := PGs X tgs (tGs X.K is g)
theorem PG_imp {e : Expr} {t t' : TG} (h : PG X e t) (i : ∀ v σ H Q, t' v σ H Q → t v σ H Q) : PG X e t' := ⟨fun pins s σ H v u Q I r z => h.run pins s σ H v u Q I r (i v σ H Q z)⟩
theorem PGs_imp {e : List Expr} {t t' : TGs} (h : PGs X e t) (i : ∀ v σ H Q, t' v σ H Q → t v σ H Q) : PGs X e t' := ⟨fun pins s σ H v u Q I r z => h.run pins s σ H v u Q I r (i v σ H Q z)⟩
def gN (i : Nat) : Fg := fun d sc => some (sc.set i (some d))
theorem cgN {x : Str} (i : Nat) (hN : X.N.Nodup) (hi : X.N[i]? = some x := by rfl) (hx : Loc X.env.scope x := by first | exact Or.inl rfl | exact Or.inr rfl) (hf : X.fn x = true ∨ X.env.scope.names.lookup x = some .local := by first | exact .inl rfl | exact .inr rfl | assumption) : CGt X (.Name x pos) [i] (gN i) := by
  refine PG_imp (pg_name hN hi hx hf) fun v σ H Q ⟨ad, sc, C, d, sc', hs, hh, r, e, q⟩ => ?_
  cases e
  exact q _ (hs.set i r) ⟨by simp, fun j hj => List.getElem?_set_ne (fun z => hj (by simp [z]))⟩
def gsN : Fgs := fun ds sc => match ds with
  | [] => some sc
  | _ => none
def gsC (g : Fg) (gs : Fgs) : Fgs := fun ds sc => match ds with
  | d :: r => (g d sc).bind fun sc1 => gs r sc1
  | [] => none
theorem cgsN : CGts X [] [] gsN := by
  refine PGs_imp pgs_nil fun vs σ H Q ⟨ad, sc, C, ds, sc', hs, hh, r, e, q⟩ => ?_
  cases r with
  | nil => cases e; exact ⟨rfl, q _ hs ⟨rfl, fun _ _ => rfl⟩⟩
  | cons r1 r2 => cases e
theorem cgsC {es : List Expr} {is js : List Nat} {gt : Fg} {gs : Fgs} (h1 : CGt X e is gt) (h2 : CGts X es js gs) (hst : (assignEach (e :: es) X.env).map (·.2) = assign e X.env :: (assignEach es X.env).map (·.2) := by rfl) : CGts X (e :: es) (is ++ js) (gsC gt gs) := by
  refine PGs_imp (pgs_cons h1 h2 hst) fun vs σ H Q ⟨ad, sc, C, ds, sc', hs, hh, r, e, q⟩ => ?_
  cases r with
  | nil => cases e
  | cons r1 r2 =>
    rename_i d v ds vs _
    have e : (gt d sc).bind (fun sc1 => gs ds sc1) = some sc' := e
    cases e1 : gt d sc with
    | none => rw [e1] at e; cases e
    | some sc1 =>
      rw [e1] at e
      exact ⟨v, vs, rfl, ad, sc, C, d, sc1, hs, hh, r1, e1, fun σ1 s1 k1 => ⟨ad, sc1, C, ds, sc', s1, hh, r2, e, fun σ2 s2 k2 => q σ2 s2 ⟨k2.1.trans k1.1, fun j hj => (k2.2 j fun z => hj (List.mem_append_right _ z)).trans (k1.2 j fun z => hj (List.mem_append_left _ z))⟩⟩⟩
def gT (n : Nat) (gs : Fgs) : Fg := fun d sc => match d with
  | .tup ds => if ds.length = n then gs ds sc else none
  | _ => none
theorem cgT {es : List Expr} {is : List Nat} {gs : Fgs} {k1 n : Nat} (c : Ctx k X W) (h : CGts X es is gs) (hn : (assignEach es X.env).length = n := by rfl) (hst : (assignEach es X.env).findIdx? (·.1) = none := by rfl) : CGt X (.Tuple es k1 pos) is (gT n gs) := by
  refine PG_imp (pg_tup c.calm h hn hst) fun v σ H Q ⟨ad, sc, C, d, sc', hs, hh, r, e, q⟩ => ?_
  unfold gT at e
  split at e
  · split at e
    · rename_i hl
      cases r with
      | tup g1 g2 => exact ⟨_, _, rfl, .of g1, by rw [← g2.length]; exact hl, ad, sc, C, _, sc', hs, hh, g2, e, q⟩
    · cases e
  · cases e
def optS {α : Type} : Option α → (α → SOut) → SOut
  | some a, k => k a
  | none, _ => .bad
@[simp] theorem optS_some {α : Type} (a : α) (k : α → SOut) : optS (some a) k = k a := rfl
@[simp] theorem optS_none {α : Type} (k : α → SOut) : optS (none : Option α) k = .bad := rfl
def sAsg (g : Fg) (f : Fe) : Fs := fun sc C => (f sc C).st sc fun d C1 => optS (g d sc) fun sc1 => .nx sc1 C1
theorem asg_in {K : PySem.W.Frag} {W : WX} {is : List Nat} {gt : Fg} {fa : Fe} {D : Ends} {σ : L2.St} {H : Hp} (h : tS K W (sAsg gt fa) D σ H) : tAsg (tE K W fa) (tG K is gt) D σ H := by
  obtain ⟨ad, sc, C, hs, hh, h⟩ := h
  refine sE_bind hs hh (.refl _ _) h fun d C1 ad1 H1 v E1 hs1 hh1 r1 h1 => ?_
  cases e : gt d sc with
  | none => rw [e] at h1; exact h1.elim
  | some sc1 =>
    rw [e] at h1
    exact ⟨ad1, sc, C1, d, sc1, hs1, hh1, r1, e, fun σ' s' _ => h1 σ' H1 ⟨ad1, E1, hh1, s'⟩⟩
theorem csSet {x : Str} {pos' : Pos} (i : Nat) (c : Ctx k X W) (ha : CE X W a fa) (hi : X.N[i]? = some x := by rfl) (hx : Loc X.env.scope x := by first | exact Or.inl rfl | exact Or.inr rfl) (hsw : swapsWith a (some (.Name x pos')) pos.line X.env = pure false := by rfl)
    (hf : X.fn x = true ∨ X.env.scope.names.lookup x = some .local := by first | exact .inl rfl | exact .inr rfl | assumption) : CS X W (.Assign [.Name x pos'] a pos) (sAsg (gN i) fa) := by
  refine PS_imp (ps_set c.nd hi hx ha hsw hf) fun D σ H ⟨ad, sc, C, hs, hh, h⟩ => ?_
  exact sE_bind hs hh (.refl _ _) h fun d C1 ad1 H1 v E1 hs1 hh1 r1 h1 => h1 _ H1 ⟨ad1, E1, hh1, hs1.set i r1⟩
theorem csAsg {tg : Expr} {is : List Nat} {gt : Fg} (ha : CE X W a fa) (hg : CGt X tg is gt) (hs : swapsWithSole [tg] a pos.line X.env = pure false := by rfl) (hw : swappedStores [tg] a X.env = pure none := by rfl)
    (h1 : (assignEach [tg] X.env).map (·.2) = [assign tg X.env] := by rfl) : CS X W (.Assign [tg] a pos) (sAsg gt fa) := PS_imp (ps_asg ha hg hs hw h1) fun _ _ _ h => asg_in h
/-- a, b = x, y -/
def sPar (i j : Nat) (fs : Fa) : Fs := fun sc C => (fs sc C).st sc fun ds C1 => match ds with
  | [d, e] => .nx ((sc.set i (some d)).set j (some e)) C1
  | _ => .bad
theorem csPar {i j : Nat} {x y : Str} {b : Expr} {fs : Fa} {px py' pt : Pos} {kt k2 pt2} (c : Ctx k X W) (ha : CA X W [a, b] fs) (hi : X.N[i]? = some x := by rfl) (hj : X.N[j]? = some y := by rfl) (hij : i ≠ j := by decide)
    (hx : X.env.scope.names.lookup x = some .local := by rfl) (hy : X.env.scope.names.lookup y = some .local := by rfl)
    (hw : swappedStores [.Tuple [.Name x px, .Name y py'] kt pt] (.Tuple [a, b] k2 pt2) X.env = pure (some [x, y]) := by rfl)
    (hs : swapsWithSole [.Tuple [.Name x px, .Name y py'] kt pt] (.Tuple [a, b] k2 pt2) pos.line X.env = pure false := by rfl) :
    CS X W (.Assign [.Tuple [.Name x px, .Name y py'] kt pt] (.Tuple [a, b] k2 pt2) pos) (sPar i j fs) := by
  refine PS_imp (ps_par c.calm c.nd hi hj hij hx hy ha hw hs) fun D σ H ⟨ad, sc, C, hs, hh, h⟩ => ?_
  refine sA_bind hs hh (.refl _ _) h fun ds C1 ad1 H1 vs E1 hs1 hh1 r1 h1 => ?_
  split at h1
  · cases r1 with
    | cons r1 r2 =>
      cases r2 with
      | cons r2 r3 =>
        cases r3
        exact ⟨_, _, rfl, h1 _ H1 ⟨ad1, E1, hh1, (hs1.set i r1).set j r2⟩⟩
  · exact h1.elim
/-- o[i] = v -/
def setO (o i v : D) (C : CH) : Option CH := match o with
  | .ref n => match C[n]? with
    | some (.lst xs) => match i with
      | .int z => (ixN xs.length z).map fun j => C.set n (.lst (xs.set j v))
      | _ => none
    | some (.dK kvs) => if kvs.length ≤ 1000000 then (keyOf i).map fun q => C.set n (.dK (putD kvs q v)) else none
    | some (.dT kvs) => if kvs.length ≤ 1000000 then (keysOf i).map fun q => C.set n (.dT (putD kvs q v)) else none
    | _ => none
  | _ => none
def isDct (C : CH) : D → Bool
  | .ref n => match C[n]? with
    | some (.dK _) => true
    | some (.dT _) => true
    | _ => false
  | _ => false
def sPut (fv fo fi : Fe) : Fs := fun sc C => (fv sc C).st sc fun v C1 => (fo sc C1).st sc fun o C2 => (fi sc C2).st sc fun i C3 => optS (setO o i v C3) fun C4 => .nx sc C4
theorem put_d {K : PySem.W.Frag} {ad : List Addr} {H : Hp} {C C' : CH} (hh : HRel K ad H C) {o i v : D} {x y w : V} (rx : Rl K ad H o x) (ry : Rl K ad H i y) (rw' : Rl K ad H v w) (h : setO o i v C = some C') :
    (isDct C o = false ∧ ∀ Q : Hp → Prop, (∀ H', Ext ad H ad H' → HRel K ad H' C' → Q H') → rSetL x y w H Q) ∨ (isDct C o = true ∧ ∃ a H', x = .ref a ∧ DPut H a y w H' ∧ Ext ad H ad H' ∧ HRel K ad H' C') := by
  unfold setO at h
  split at h
  · rename_i n
    cases rx with
    | ref ha =>
      rename_i a
      split at h
      · rename_i xs e1
        obtain ⟨u, h1, ws, rfl, rr⟩ := hh.obj n _ a e1 ha
        split at h
        · rename_i z
          cases ry
          cases e2 : ixN xs.length z with
          | none => rw [e2] at h; cases h
          | some j =>
            rw [e2] at h
            cases h
            have E := ext_set hh e1 ha (u := .lst (ws.set j w))
            refine .inl ⟨by simp only [isDct, e1], fun Q q => ⟨a, ws, z, j, rfl, rfl, h1, by rw [← rr.length]; exact e2, q _ E (hh.set e1 ha ⟨_, rfl, Rls.set (rw'.mono E) j (rr.mono E)⟩)⟩⟩
        · cases h
      · rename_i kvs e1
        obtain ⟨u, h1, ws, rfl, rr⟩ := hh.obj n _ a e1 ha
        split at h
        · rename_i hz
          cases e2 : keyOf i with
          | none => rw [e2] at h; cases h
          | some q =>
            rw [e2] at h
            cases h
            have E := ext_set hh e1 ha (u := .dK (putK ws q w))
            rw [key_rel e2 ry]
            exact .inr ⟨by simp only [isDct, e1], a, _, rfl, DPut.k h1 (by rw [← rr.length]; exact mil2 hz), E, hh.set e1 ha ⟨_, rfl, put_rel q (rw'.mono E) (rr.mono E)⟩⟩
        · cases h
      · rename_i kvs e1
        obtain ⟨u, h1, ws, rfl, rr⟩ := hh.obj n _ a e1 ha
        split at h
        · rename_i hz
          cases e2 : keysOf i with
          | none => rw [e2] at h; cases h
          | some q =>
            rw [e2] at h
            cases h
            unfold keysOf at e2
            split at e2
            · cases ry with
              | tup g2 r2 =>
                rename_i b vs
                have := keys_rel e2 r2
                subst this
                have E := ext_set hh e1 ha (u := .dT (putK ws q w))
                exact .inr ⟨by simp only [isDct, e1], a, _, rfl, DPut.t h1 g2 (by rw [← rr.length]; exact mil2 hz), E, hh.set e1 ha ⟨_, rfl, put_rel q (rw'.mono E) (rr.mono E)⟩⟩
            · cases e2
        · cases h
      · cases h
  · cases h
/-- which of both ways a store goes -/
theorem put_way (fv fo fi : Fe) (sc : Sc) (C : CH) : (∃ b : Bool, ∀ v C1 o C2 i C3 C4, fv sc C = .ok v C1 → fo sc C1 = .ok o C2 → fi sc C2 = .ok i C3 → setO o i v C3 = some C4 → isDct C3 o = b) := by
  cases e1 : fv sc C with
  | ok v C1 =>
    cases e2 : fo sc C1 with
    | ok o C2 =>
      cases e3 : fi sc C2 with
      | ok i C3 =>
        refine ⟨isDct C3 o, fun v' C1' o' C2' i' C3' C4 f1 f2 f3 _ => ?_⟩
        cases f1
        rw [e2] at f2; cases f2
        rw [e3] at f3; cases f3
        rfl
      | ex x C3 => refine ⟨true, fun v' C1' o' C2' i' C3' C4 f1 f2 f3 _ => ?_⟩; cases f1; rw [e2] at f2; cases f2; rw [e3] at f3; cases f3
      | bad => refine ⟨true, fun v' C1' o' C2' i' C3' C4 f1 f2 f3 _ => ?_⟩; cases f1; rw [e2] at f2; cases f2; rw [e3] at f3; cases f3
    | ex x C2 => refine ⟨true, fun v' C1' o' C2' i' C3' C4 f1 f2 f3 _ => ?_⟩; cases f1; rw [e2] at f2; cases f2
    | bad => refine ⟨true, fun v' C1' o' C2' i' C3' C4 f1 f2 f3 _ => ?_⟩; cases f1; rw [e2] at f2; cases f2
  | ex x C1 => exact ⟨true, fun v' C1' o' C2' i' C3' C4 f1 f2 f3 _ => by cases f1⟩
  | bad => exact ⟨true, fun v' C1' o' C2' i' C3' C4 f1 f2 f3 _ => by cases f1⟩
variable {o i : Expr} {fo fi : Fe} {pos' : Pos}
theorem csPut (c : Ctx k X W) (ho : CE X W o fo) (hi : CE X W i fi) (ha : CE X W a fa) (hsw : swapsWith a (some (.Subscript o i pos')) pos.line X.env = pure false := by rfl)
    (has : ∀ v, assign (.Subscript o i pos') X.env v = (do
      let ov ← holding [v] (eval o X.env)
      let iv ← holding [v, ov] (eval i X.env)
      standAt pos'
      holding [v, ov, iv] (setItem ov iv v)
      release [v, ov, iv] []) := by intro _; rfl)
    (hs : swapsWithSole [.Subscript o i pos'] a pos.line X.env = pure false := by rfl) (hw : swappedStores [.Subscript o i pos'] a X.env = pure none := by rfl)
    (h1 : (assignEach [.Subscript o i pos'] X.env).map (·.2) = [assign (.Subscript o i pos') X.env] := by rfl) : CS X W (.Assign [.Subscript o i pos'] a pos) (sPut fa fo fi) := by
  refine PS_imp (PS_or (ps_asg ha (pg_sub ho hi set_list has) hs hw h1) (ps_dput c.un1 ho hi ha hsw)) fun D σ H ⟨ad, sc, C, hs, hh, h⟩ => ?_
  obtain ⟨b, hb⟩ := put_way fa fo fi sc C
  have go : ∀ R : V → V → V → Hp → Prop, (∀ ad1 H1 v o i C3 C4 x y w, Ext ad H ad1 H1 → SRel X.K ad1 H1 sc σ → HRel X.K ad1 H1 C3 → Rl X.K ad1 H1 o x → Rl X.K ad1 H1 i y → Rl X.K ad1 H1 v w → setO o i v C3 = some C4 → isDct C3 o = b →
      (∀ H', Ext ad1 H1 ad1 H' → HRel X.K ad1 H' C4 → D.nx σ H') → R w x y H1) →
      tE X.K W fa σ H fun w H1 => tE X.K W fo σ H1 fun x H2 => tE X.K W fi σ H2 fun y H3 => R w x y H3 := by
    intro R hR
    refine ⟨ad, sc, C, hs, hh, ?_⟩
    have h : SPo X.K W ad H D ((fa sc C).st sc fun v C1 => (fo sc C1).st sc fun o C2 => (fi sc C2).st sc fun i C3 => optS (setO o i v C3) fun C4 => .nx sc C4) := h
    have q := SPo.res hs (.refl _ _) h
    cases f1 : fa sc C with
    | bad => rw [f1] at q; exact q
    | ex x C1 => rw [f1] at q; exact q
    | ok v C1 =>
      rw [f1] at q
      intro w H1 ⟨ad1, E1, hh1, r1⟩
      have hs1 := hs.mono E1
      refine ⟨ad1, sc, C1, hs1, hh1, ?_⟩
      have q2 := SPo.res hs1 E1 q
      cases f2 : fo sc C1 with
      | bad => rw [f2] at q2; exact q2
      | ex x C2 => rw [f2] at q2; exact q2
      | ok o C2 =>
        rw [f2] at q2
        intro x H2 ⟨ad2, E2, hh2, r2⟩
        have hs2 := hs1.mono E2
        refine ⟨ad2, sc, C2, hs2, hh2, ?_⟩
        have q3 := SPo.res hs2 (E1.trans E2) q2
        cases f3 : fi sc C2 with
        | bad => rw [f3] at q3; exact q3
        | ex x C3 => rw [f3] at q3; exact q3
        | ok i C3 =>
          rw [f3] at q3
          intro y H3 ⟨ad3, E3, hh3, r3⟩
          have q3 : SPo X.K W ad H D (optS (setO o i v C3) fun C4 => .nx sc C4) := q3
          cases f4 : setO o i v C3 with
          | none => rw [f4] at q3; exact q3.elim
          | some C4 =>
            rw [f4] at q3
            have EE := E1.trans (E2.trans E3)
            exact hR ad3 H3 v o i C3 C4 x y w EE (hs2.mono E3) hh3 (r2.mono E3) r3 (r1.mono (E2.trans E3)) f4 (hb v C1 o C2 i C3 C4 f1 f2 f3 f4) fun H' E4 h4 => q3 σ H' ⟨ad3, EE.trans E4, h4, (hs2.mono E3).mono E4⟩
  cases b with
  | false =>
    refine .inl (go (fun w x y H1 => rSetL x y w H1 fun H3 => D.nx σ H3) fun ad1 H1 v o i C3 C4 x y w E s1 hh1 rx ry rw' e isd q => ?_)
    rcases put_d hh1 rx ry rw' e with ⟨_, z⟩ | ⟨z, _⟩
    · exact z _ q
    · rw [isd] at z; cases z
  | true =>
    refine .inr (go (fun w x y H1 => ∃ p H4, x = .ref p ∧ DPut H1 p y w H4 ∧ D.nx σ H4) fun ad1 H1 v o i C3 C4 x y w E s1 hh1 rx ry rw' e isd q => ?_)
    rcases put_d hh1 rx ry rw' e with ⟨z, _⟩ | ⟨_, p, H4, e1, d, E4, h4⟩
    · rw [isd] at z; cases z
    · exact ⟨p, H4, e1, d, q H4 E4 h4⟩
end
end Cl
set_option maxHeartbeats 4000000
/-! Cl, part G: loops, comprehensions. -/
namespace Cl
open PySem PySem.Spec L2

/-! ### while -/
def wh (t : Ft) (b : Fs) : Nat → Sc → CH → SOut
  | 0, _, _ => .bad
  | n + 1, sc, C => (t sc C).st sc fun c C1 => if c = true then (match b sc C1 with
      | .nx sc2 C2 => wh t b n sc2 C2
      | .ct sc2 C2 => wh t b n sc2 C2
      | .bk sc2 C2 => .nx sc2 C2
      | .rt d C2 => .rt d C2
      | .ex x sc2 C2 => .ex x sc2 C2
      | .bad => .bad) else .nx sc C1
theorem wh_succ (t : Ft) (b : Fs) (n : Nat) (sc : Sc) (C : CH) : wh t b (n + 1) sc C = (t sc C).st sc fun c C1 => if c = true then (match b sc C1 with
      | .nx sc2 C2 => wh t b n sc2 C2
      | .ct sc2 C2 => wh t b n sc2 C2
      | .bk sc2 C2 => .nx sc2 C2
      | .rt d C2 => .rt d C2
      | .ex x sc2 C2 => .ex x sc2 C2
      | .bad => .bad) else .nx sc C1 := rfl
theorem wh_more {t : Ft} {b : Fs} : ∀ (n : Nat) (sc : Sc) (C : CH), wh t b n sc C ≠ .bad → wh t b (n + 1) sc C = wh t b n sc C
  | 0, _, _, h => absurd rfl h
  | n + 1, sc, C, h => by
    rw [wh_succ t b (n + 1)]
    rw [wh_succ t b n] at h ⊢
    cases e : t sc C with
    | bad => rfl
    | ex x C1 => rfl
    | ok c C1 =>
      rw [e] at h
      simp only [Res.st_ok] at h ⊢
      cases c with
      | false => rfl
      | true =>
        simp only [if_true] at h ⊢
        cases e2 : b sc C1 with
        | nx sc2 C2 => rw [e2] at h; exact wh_more n sc2 C2 h
        | ct sc2 C2 => rw [e2] at h; exact wh_more n sc2 C2 h
        | bk sc2 C2 => rfl
        | rt d C2 => rfl
        | ex x sc2 C2 => rfl
        | bad => rfl
theorem wh_le {t : Ft} {b : Fs} {n m : Nat} {sc : Sc} {C : CH} (h : wh t b n sc C ≠ .bad) (hm : n ≤ m) : wh t b m sc C = wh t b n sc C := by
  induction hm with
  | refl => rfl
  | step hm ih => rw [wh_more _ _ _ (by rw [ih]; exact h), ih]
open Classical in
noncomputable def sWh (t : Ft) (b : Fs) : Fs := fun sc C => if h : ∃ n, wh t b n sc C ≠ .bad then wh t b h.choose sc C else .bad
theorem sWh_eq {t : Ft} {b : Fs} {n : Nat} {sc : Sc} {C : CH} {o : SOut} (h : wh t b n sc C = o) (ho : o ≠ .bad) : sWh t b sc C = o := by
  have e : ∃ n, wh t b n sc C ≠ .bad := ⟨n, by rw [h]; exact ho⟩
  unfold sWh
  rw [dif_pos e]
  rcases Nat.le_total e.choose n with z | z
  · rw [← wh_le e.choose_spec z, h]
  · rw [wh_le (by rw [h]; exact ho) z, h]
theorem sWh_inv {t : Ft} {b : Fs} {sc : Sc} {C : CH} (h : sWh t b sc C ≠ .bad) : ∃ n, wh t b n sc C = sWh t b sc C := by
  unfold sWh at h ⊢
  by_cases e : ∃ n, wh t b n sc C ≠ .bad
  · rw [dif_pos e]; exact ⟨_, rfl⟩
  · rw [dif_neg e] at h; exact absurd rfl h
/-- one turn of a while, then the rest -/
theorem sWh_turn {t : Ft} {b : Fs} {sc sc2 : Sc} {C C1 C2 : CH} (ht : t sc C = .ok true C1) (hb : b sc C1 = .nx sc2 C2 ∨ b sc C1 = .ct sc2 C2) : sWh t b sc C = sWh t b sc2 C2 := by
  have step : ∀ n, wh t b (n + 1) sc C = wh t b n sc2 C2 := fun n => by
    rw [wh_succ, ht]
    rcases hb with hb | hb <;> simp only [Res.st_ok, if_true, hb]
  by_cases h : sWh t b sc2 C2 = .bad
  · rw [h]
    apply Classical.byContradiction
    intro q
    obtain ⟨n, e⟩ := sWh_inv q
    cases n with
    | zero => exact q (e ▸ rfl)
    | succ n =>
      rw [step] at e
      rw [← e] at q
      exact q (by rw [← h]; exact (sWh_eq rfl q).symm)
  · obtain ⟨n, e⟩ := sWh_inv h
    exact sWh_eq (n := n + 1) (by rw [step, e]) h
theorem sWh_stop {t : Ft} {b : Fs} {sc : Sc} {C C1 : CH} (ht : t sc C = .ok false C1) : sWh t b sc C = .nx sc C1 :=
  sWh_eq (n := 1) (by rw [wh_succ, ht]; rfl) (fun h => by cases h)
theorem sWh_out {t : Ft} {b : Fs} {sc : Sc} {C C1 : CH} {o : SOut} (ht : t sc C = .ok true C1) (hb : b sc C1 = o) (h1 : ∃ d C2, o = .rt d C2) : sWh t b sc C = o := by
  obtain ⟨d, C2, rfl⟩ := h1
  exact sWh_eq (n := 1) (by rw [wh_succ, ht]; simp only [Res.st_ok, if_true, hb]) (fun h => by cases h)
theorem sWh_brk {t : Ft} {b : Fs} {sc sc2 : Sc} {C C1 C2 : CH} (ht : t sc C = .ok true C1) (hb : b sc C1 = .bk sc2 C2) : sWh t b sc C = .nx sc2 C2 :=
  sWh_eq (n := 1) (by rw [wh_succ, ht]; simp only [Res.st_ok, if_true, hb]) (fun h => by cases h)
section
variable {k : Nat} {X : Cx} {W : WX} {pos : Pos}
theorem csWh {c : Expr} {body : List Stmt} {t : Ft} {b : Fs} (x : Ctx k X W) (hc : CT X W c t) (hb : CSs X W body b) : CS X W (.While c body [] pos) (sWh t b) := by
  refine PS_imp (ps_while x.ps hc hb) fun D σ H ⟨ad, sc, C, hs, hh, h⟩ => ?_
  have nb : sWh t b sc C ≠ .bad := fun e => by rw [e] at h; exact h
  obtain ⟨n, en⟩ := sWh_inv nb
  refine ⟨fun m σ H => ∃ ad sc C, SRel X.K ad H sc σ ∧ HRel X.K ad H C ∧ SPo X.K W ad H D (wh t b m sc C), ⟨n, ad, sc, C, hs, hh, by rw [en]; exact h⟩, ?_⟩
  rintro m σ H ⟨ad, sc, C, hs, hh, h⟩
  cases m with
  | zero => exact h.elim
  | succ m =>
    rw [wh_succ] at h
    refine sT_bind hs hh (.refl _ _) h fun c C1 ad1 H1 E1 hs1 hh1 h1 => ?_
    cases c with
    | false => exact h1 σ H1 ⟨ad1, E1, hh1, hs1⟩
    | true =>
      refine ⟨fun σ' H' => ∃ ad sc C, SRel X.K ad H' sc σ' ∧ HRel X.K ad H' C ∧ SPo X.K W ad H' D (wh t b m sc C), fun σ' H' z => ⟨m, Nat.lt_succ_self m, z⟩, ad1, sc, C1, hs1, hh1, ?_⟩
      simp only [if_true] at h1
      cases e2 : b sc C1 with
      | nx sc2 C2 =>
        rw [e2] at h1
        intro σ' H' ⟨ad', E, h', s'⟩
        exact ⟨ad', sc2, C2, s', h', h1.later (E1.trans E)⟩
      | ct sc2 C2 =>
        rw [e2] at h1
        intro σ' H' ⟨ad', E, h', s'⟩
        exact ⟨ad', sc2, C2, s', h', h1.later (E1.trans E)⟩
      | bk sc2 C2 => rw [e2] at h1; exact SPo.later E1 (o := .nx sc2 C2) h1
      | rt d C2 => rw [e2] at h1; exact SPo.later E1 h1
      | ex x sc2 C2 => rw [e2] at h1; exact SPo.later E1 h1
      | bad => rw [e2] at h1; exact h1.elim
end

/-! ### what is walked -/
/-- the items; what must stand at each turn -/
structure Src where
  ds : List D
  chk : CH → Prop
abbrev Fi := Sc → CH → Res Src
/-- J walks the items, from the clean state on -/
def Wk (K : PySem.W.Frag) (J : It) (ad : List Addr) (H : Hp) (S : Src) : Prop := ∀ ad2 H2 C2, Ext ad H ad2 H2 → HRel K ad2 H2 C2 → S.chk C2 →
  (∀ i d, S.ds[i]? = some d → J.go i H2 ∧ ∀ x H3, J.yld i H2 x H3 → ∃ ad3, Ext ad2 H2 ad3 H3 ∧ HRel K ad3 H3 C2 ∧ Rl K ad3 H3 d x) ∧ J.stop S.ds.length H2
def tI (K : PySem.W.Frag) (W : WX) (f : Fi) : TI := fun σ H R => ∃ ad sc C, SRel K ad H sc σ ∧ HRel K ad H C ∧ RP K W ad H σ (f sc C) fun S C' => ∀ J H', Aft K ad H C' (fun ad' H' => Wk K J ad' H' S) H' → R J H'
abbrev CI (X : Cx) (W : WX) (tg iter : Expr) (f : Fi) : Prop := PI X tg iter (tI X.K W f)
theorem PI_imp {X : Cx} {tg it : Expr} {t t' : TI} (h : PI X tg it t) (i : ∀ σ H R, t' σ H R → t σ H R) : PI X tg it t' := ⟨fun pins s σ H R I z => h.run pins s σ H R I (i σ H R z)⟩
theorem Wk.list {K : PySem.W.Frag} {ad : List Addr} {H : Hp} {n : Nat} {ds : List D} {a : Addr} (ha : ad[n]? = some a) : Wk K (Itl K a) ad H ⟨ds, fun C => C[n]? = some (.lst ds)⟩ := by
  intro ad2 H2 C2 E hh hc
  obtain ⟨u, h1, vs, rfl, r⟩ := hh.obj n _ a hc (E.pre n a ha)
  refine ⟨fun i d e => ?_, vs, .of h1, by rw [r.length]; exact Nat.le_refl _⟩
  obtain ⟨v, e1, rv⟩ := r.get e
  refine ⟨⟨vs, v, .of h1, e1⟩, fun x H3 ⟨e2, y⟩ => ?_⟩
  subst e2
  have := y vs (.of h1)
  rw [e1] at this; cases this
  exact ⟨ad2, .refl _ _, hh, rv⟩
theorem Wk.fl {K : PySem.W.Frag} {ad : List Addr} {H : Hp} {ds : List D} {a : Addr} {vs : List V} (f : Fz K H a vs) (r : Rls K ad H ds vs) : Wk K (Itl K a) ad H ⟨ds, fun _ => True⟩ := by
  intro ad2 H2 C2 E hh hc
  have h1 := (f.mono E).sq
  have r := r.mono E
  refine ⟨fun i d e => ?_, vs, h1, by rw [r.length]; exact Nat.le_refl _⟩
  obtain ⟨v, e1, rv⟩ := r.get e
  refine ⟨⟨vs, v, h1, e1⟩, fun x H3 ⟨e2, y⟩ => ?_⟩
  subst e2
  have := y vs h1
  rw [e1] at this; cases this
  exact ⟨ad2, .refl _ _, hh, rv⟩
theorem Wk.tup {K : PySem.W.Frag} {ad : List Addr} {H : Hp} {ds : List D} {a : Addr} {vs : List V} (f : H a = some (.tup vs)) (r : Rls K ad H ds vs) : Wk K (Itt K a) ad H ⟨ds, fun _ => True⟩ := by
  intro ad2 H2 C2 E hh hc
  have h1 : SqT K H2 a vs := .of (E.tup _ _ f)
  have r := r.mono E
  refine ⟨fun i d e => ?_, vs, h1, by rw [r.length]; exact Nat.le_refl _⟩
  obtain ⟨v, e1, rv⟩ := r.get e
  refine ⟨⟨vs, v, h1, e1⟩, fun x H3 ⟨e2, y⟩ => ?_⟩
  subst e2
  have := y vs h1
  rw [e1] at this; cases this
  exact ⟨ad2, .refl _ _, hh, rv⟩
def rngD (lo : Int) (n : Nat) : List D := (List.range n).map fun (i : Nat) => .int (lo + i)
theorem Wk.rng {K : PySem.W.Frag} {ad : List Addr} {H : Hp} (lo : Int) (n : Nat) : Wk K (Itr lo n) ad H ⟨rngD lo n, fun _ => True⟩ := by
  intro ad2 H2 C2 E hh hc
  have hl : (rngD lo n).length = n := by simp [rngD]
  refine ⟨fun i d e => ?_, by show n ≤ _; rw [hl]; exact Nat.le_refl _⟩
  have hi : i < n := by rw [← hl]; exact (List.getElem?_eq_some_iff.mp e).1
  have e : (rngD lo n)[i]? = some d := e
  rw [rngD, List.getElem?_map, List.getElem?_range hi] at e
  cases e
  refine ⟨hi, fun x H3 ⟨e1, e2⟩ => ?_⟩
  subst e1 e2
  exact ⟨ad2, .refl _ _, hh, .int _⟩
section
variable {k : Nat} {X : Cx} {W : WX} {pos : Pos} {tg : Expr}
/-- a list, a tuple, the script -/
def srcOf (C : CH) : D → Option Src
  | .tup ds => some ⟨ds, fun _ => True⟩
  | .fl ds => some ⟨ds, fun _ => True⟩
  | .ref n => match C[n]? with
    | some (.lst ds) => some ⟨ds, fun C => C[n]? = some (.lst ds)⟩
    | _ => none
  | _ => none
def iSeq (f : Fe) : Fi := fun sc C => (f sc C).bind fun d C1 => match srcOf C1 d with
  | some S => .ok S C1
  | none => .bad
theorem PI_or {it : Expr} {t t' : TI} (h : PI X tg it t) (h' : PI X tg it t') : PI X tg it (fun σ H R => t σ H R ∨ t' σ H R) := ⟨fun pins s σ H R I z => z.elim (h.run pins s σ H R I) (h'.run pins s σ H R I)⟩
def isTupD : D → Bool
  | .tup _ => true
  | _ => false
theorem ciSeq {l : Expr} {f : Fe} (hl : CE X W l f) : CI X W tg l (iSeq f) := by
  refine PI_imp (PI_or (pi_list hl) (pi_tup hl)) fun σ H R ⟨ad, sc, C, hs, hh, h⟩ => ?_
  have fin : ∀ d C1 ad1 H1 v, Ext ad H ad1 H1 → HRel X.K ad1 H1 C1 → Rl X.K ad1 H1 d v → RP X.K W ad H σ (match srcOf C1 d with | some S => Res.ok S C1 | none => .bad) (fun S C' => ∀ J H', Aft X.K ad H C' (fun ad' H' => Wk X.K J ad' H' S) H' → R J H') →
      (isTupD d = false → ∃ a, v = .ref a ∧ (∃ xs, SqL X.K H1 a xs) ∧ R (Itl X.K a) H1) ∧ (isTupD d = true → ∃ a, v = .ref a ∧ (∃ xs, SqT X.K H1 a xs) ∧ R (Itt X.K a) H1) := by
    intro d C1 ad1 H1 v E1 hh1 r1 q
    cases r1 with
    | tup g1 g2 => exact ⟨fun z => by (cases z), fun _ => ⟨_, rfl, ⟨_, .of g1⟩, q _ H1 ⟨ad1, E1, hh1, .tup g1 g2⟩⟩⟩
    | fl g1 g2 => exact ⟨fun _ => ⟨_, rfl, ⟨_, g1.sq⟩, q _ H1 ⟨ad1, E1, hh1, .fl g1 g2⟩⟩, fun z => by (cases z)⟩
    | ref ha =>
      rename_i n a
      refine ⟨fun _ => ?_, fun z => by (cases z)⟩
      have q : RP X.K W ad H σ (match (match C1[n]? with | some (.lst ds) => some (Src.mk ds fun C => C[n]? = some (.lst ds)) | _ => none) with | some S => Res.ok S C1 | none => .bad) (fun S C' => ∀ J H', Aft X.K ad H C' (fun ad' H' => Wk X.K J ad' H' S) H' → R J H') := q
      cases e : C1[n]? with
      | none => rw [e] at q; exact q.elim
      | some o =>
        rw [e] at q
        cases o with
        | lst ds =>
          obtain ⟨u, h1, vs, rfl, rr⟩ := hh1.obj n _ a e ha
          exact ⟨a, rfl, ⟨vs, .of h1⟩, q _ H1 ⟨ad1, E1, hh1, .list ha⟩⟩
        | dK _ => exact q.elim
        | dT _ => exact q.elim
    | _ => exact q.elim
  by_cases z : ∃ d C1, f sc C = .ok d C1 ∧ isTupD d = true
  · obtain ⟨d, C1, e, z⟩ := z
    refine .inr ⟨ad, sc, C, hs, hh, ?_⟩
    have h : RP X.K W ad H σ ((f sc C).bind fun d C1 => match srcOf C1 d with | some S => Res.ok S C1 | none => .bad) _ := h
    rw [e] at h ⊢
    intro v H1 ⟨ad1, E1, hh1, r1⟩
    exact (fin d C1 ad1 H1 v E1 hh1 r1 h).2 z
  · refine .inl ⟨ad, sc, C, hs, hh, ?_⟩
    have h : RP X.K W ad H σ ((f sc C).bind fun d C1 => match srcOf C1 d with | some S => Res.ok S C1 | none => .bad) _ := h
    cases e : f sc C with
    | bad => rw [e] at h; exact h
    | ex x C1 => rw [e] at h; exact h
    | ok d C1 =>
      rw [e] at h
      intro v H1 ⟨ad1, E1, hh1, r1⟩
      refine (fin d C1 ad1 H1 v E1 hh1 r1 h).1 ?_
      cases q : isTupD d with
      | false => rfl
      | true => exact absurd ⟨d, C1, e, q⟩ z
/-- range(n), range(a, b) -/
noncomputable def bSm (i : Int) : Bool := ck (-(2 ^ 62) ≤ i ∧ i < 2 ^ 62)
theorem bSm_iff {i : Int} : bSm i = true ↔ -(2 ^ 62) ≤ i ∧ i < 2 ^ 62 := ck_iff
noncomputable def rng1 (ds : List D) (C1 : CH) : Res Src := match ds with
  | [.int j] => if bSm j = true then .ok ⟨rngD 0 j.toNat, fun _ => True⟩ C1 else .bad
  | _ => .bad
noncomputable def rng2 (ds : List D) (C1 : CH) : Res Src := match ds with
  | [.int i, .int j] => if bSm i && bSm j then .ok ⟨rngD i (j - i).toNat, fun _ => True⟩ C1 else .bad
  | _ => .bad
theorem rng1_i {j : Int} (h1 : -(2 ^ 62) ≤ j) (h2 : j < 2 ^ 62) (C1 : CH) : rng1 [.int j] C1 = .ok ⟨rngD 0 j.toNat, fun _ => True⟩ C1 := by
  have h : bSm j = true := bSm_iff.mpr ⟨h1, h2⟩
  show (if bSm j = true then _ else _) = _
  exact if_pos h
theorem rng2_i {i j : Int} (h1 : -(2 ^ 62) ≤ i) (h2 : i < 2 ^ 62) (h3 : -(2 ^ 62) ≤ j) (h4 : j < 2 ^ 62) (C1 : CH) : rng2 [.int i, .int j] C1 = .ok ⟨rngD i (j - i).toNat, fun _ => True⟩ C1 := by
  have h : (bSm i && bSm j) = true := by rw [bSm_iff.mpr ⟨h1, h2⟩, bSm_iff.mpr ⟨h3, h4⟩]; rfl
  show (if (bSm i && bSm j) = true then _ else _) = _
  exact if_pos h
noncomputable def iR1 (fs : Fa) : Fi := fun sc C => (fs sc C).bind rng1
noncomputable def iR2 (fs : Fa) : Fi := fun sc C => (fs sc C).bind rng2
variable {a b : Expr} {fs : Fa} {p : Pos}
theorem ciR1 (hg : Gl X "range") (hm : X.mg "range" = none) (ha : CA X W [a] fs) (hs : starEach [a] X.env = [(false, eval a X.env)] := by rfl) : CI X W tg (.Call (.Name "range" p) [a] [] pos) (iR1 fs) := by
  refine PI_imp (pi_range1 hg hm ha hs) fun σ H R ⟨ad, sc, C, hs, hh, h⟩ => ?_
  refine tA_bind hs hh (.refl _ _) h fun ds C1 ad1 H1 vs E1 hs1 hh1 r1 h1 => ?_
  unfold rng1 at h1
  split at h1
  · split at h1
    · rename_i hz
      obtain ⟨z1, z2⟩ := bSm_iff.mp hz
      cases r1 with
      | cons r1 r2 => cases r2; cases r1; exact ⟨_, rfl, z1, z2, h1 _ H1 ⟨ad1, E1, hh1, .rng 0 _⟩⟩
    · exact h1.elim
  · exact h1.elim
theorem ciR2 (hg : Gl X "range") (hm : X.mg "range" = none) (ha : CA X W [a, b] fs) (hs : starEach [a, b] X.env = [(false, eval a X.env), (false, eval b X.env)] := by rfl) (hs2 : starEach [b] X.env = [(false, eval b X.env)] := by rfl) : CI X W tg (.Call (.Name "range" p) [a, b] [] pos) (iR2 fs) := by
  refine PI_imp (pi_range2 hg hm ha hs hs2) fun σ H R ⟨ad, sc, C, hs, hh, h⟩ => ?_
  refine tA_bind hs hh (.refl _ _) h fun ds C1 ad1 H1 vs E1 hs1 hh1 r1 h1 => ?_
  unfold rng2 at h1
  split at h1
  · split at h1
    · rename_i hz
      rw [Bool.and_eq_true] at hz
      obtain ⟨z1, z2⟩ := bSm_iff.mp hz.1
      obtain ⟨z3, z4⟩ := bSm_iff.mp hz.2
      cases r1 with
      | cons r1 r2 =>
        cases r2 with
        | cons r2 r3 => cases r3; cases r1; cases r2; exact ⟨_, _, rfl, ⟨z1, z2, z3, z4⟩, h1 _ H1 ⟨ad1, E1, hh1, .rng _ _⟩⟩
    · exact h1.elim
  · exact h1.elim

/-! ### for -/
open Classical in
noncomputable def fr (chk : CH → Prop) (g : Fg) (b : Fs) : List D → Sc → CH → SOut
  | [], sc, C => if chk C then .nx sc C else .bad
  | d :: ds, sc, C => if chk C then optS (g d sc) fun sc1 => (match b sc1 C with
      | .nx sc2 C2 => fr chk g b ds sc2 C2
      | .ct sc2 C2 => fr chk g b ds sc2 C2
      | .bk sc2 C2 => .nx sc2 C2
      | .rt d C2 => .rt d C2
      | .ex x sc2 C2 => .ex x sc2 C2
      | .bad => .bad) else .bad
noncomputable def sFor (fi : Fi) (g : Fg) (b : Fs) : Fs := fun sc C => (fi sc C).st sc fun S C1 => fr S.chk g b S.ds sc C1
theorem csFor {iter : Expr} {body : List Stmt} {fi : Fi} {g : Fg} {b : Fs} (c : Ctx k X W) (hi : CI X W tg iter fi) {is : List Nat} (hg : CGt X tg is g) (hb : CSs X W body b) (hsx : ∀ x, foldedSetIterable iter X.env x = pure x := by intro _; rfl) : CS X W (.For tg iter body [] pos) (sFor fi g b) := by
  refine PS_imp (ps_for c.ps c.calm hi hg hb hsx) fun D σ H ⟨ad, sc, C, hs, hh, h⟩ => ?_
  refine ⟨ad, sc, C, hs, hh, (SPo.res hs (.refl _ _) h).imp fun S C1 q J H1 ⟨ad1, E1, hh1, wk⟩ => ?_⟩
  obtain ⟨ds, chk⟩ := S
  refine ⟨fun i m σ H2 => ∃ ad2 sc2 C2, Ext ad1 H1 ad2 H2 ∧ SRel X.K ad2 H2 sc2 σ ∧ HRel X.K ad2 H2 C2 ∧ m = ds.length - i ∧ i ≤ ds.length ∧ SPo X.K W ad2 H2 D (fr chk g b (ds.drop i) sc2 C2), ⟨ds.length, ad1, sc, C1, .refl _ _, hs.mono E1, hh1, by simp, Nat.zero_le _, SPo.later E1 (by rw [List.drop_zero]; exact q)⟩, ?_⟩
  rintro i m σ2 H2 ⟨ad2, sc2, C2, E2, hs2, hh2, rfl, hi2, q2⟩
  have hchk : chk C2 := by
    apply Classical.byContradiction
    intro z
    cases e : ds.drop i with
    | nil => rw [e, fr, if_neg z] at q2; exact q2
    | cons d r => rw [e, fr, if_neg z] at q2; exact q2
  obtain ⟨w1, w2⟩ := wk ad2 H2 C2 E2 hh2 hchk
  by_cases hlt : i < ds.length
  · have e : ds.drop i = ds[i] :: ds.drop (i + 1) := (List.drop_eq_getElem_cons hlt)
    rw [e, fr, if_pos hchk] at q2
    obtain ⟨j1, j2⟩ := w1 i ds[i] (List.getElem?_eq_getElem hlt)
    refine .inr ⟨j1, fun σ' H' => ∃ ad2 sc2 C2, Ext ad1 H1 ad2 H' ∧ SRel X.K ad2 H' sc2 σ' ∧ HRel X.K ad2 H' C2 ∧ SPo X.K W ad2 H' D (fr chk g b (ds.drop (i + 1)) sc2 C2),
      fun σ' H' ⟨ad3, sc3, C3, z1, z2, z3, z4⟩ => ⟨ds.length - (i + 1), by omega, ad3, sc3, C3, z1, z2, z3, rfl, hlt, z4⟩, fun x H3 y => ?_⟩
    obtain ⟨ad3, E3, hh3, rd⟩ := j2 x H3 y
    cases eg : g ds[i] sc2 with
    | none => rw [eg] at q2; exact q2.elim
    | some sc3 =>
      rw [eg] at q2
      simp only [optS_some] at q2
      refine ⟨ad3, sc2, C2, ds[i], sc3, hs2.mono E3, hh3, rd, eg, fun σ3 s3 _ => ⟨ad3, sc3, C2, s3, hh3, ?_⟩⟩
      cases eb : b sc3 C2 with
      | nx sc4 C4 =>
        rw [eb] at q2
        intro σ4 H4 ⟨ad4, E4, hh4, s4⟩
        exact ⟨ad4, sc4, C4, E2.trans (E3.trans E4), s4, hh4, q2.later (E3.trans E4)⟩
      | ct sc4 C4 =>
        rw [eb] at q2
        intro σ4 H4 ⟨ad4, E4, hh4, s4⟩
        exact ⟨ad4, sc4, C4, E2.trans (E3.trans E4), s4, hh4, q2.later (E3.trans E4)⟩
      | bk sc4 C4 => rw [eb] at q2; exact SPo.later E3 (o := .nx sc4 C4) q2
      | rt d C4 => rw [eb] at q2; exact SPo.later E3 q2
      | ex x sc4 C4 => rw [eb] at q2; exact SPo.later E3 q2
      | bad => rw [eb] at q2; exact q2.elim
  · have e : i = ds.length := by omega
    subst e
    rw [List.drop_length, fr, if_pos hchk] at q2
    exact .inl ⟨w2, q2 σ2 H2 (.intro hh2 hs2)⟩
end
end Cl
set_option maxHeartbeats 4000000
/-! Cl, part H: comprehensions; defs, their calls, the law's end. -/
namespace Cl
open PySem PySem.Spec L2

/-! ### list comprehensions -/
def Ctx.blk {k : Nat} {X : Cx} {W : WX} (c : Ctx k X W) (s : Shared) (H : Hp) (scope : Scope) (cenv : Env) (fp : List Addr) : Ctx k (X.blk s H scope cenv fp) (fun _ _ _ _ => False) :=
  ⟨takes0, c.calm, c.room, c.gd, c.nd, PassesOwn.never⟩
def wipeD (sc : Sc) : List Nat → Sc
  | [] => sc
  | v :: vs => (wipeD sc vs).set v none
theorem SRel.wipe {K : PySem.W.Frag} {ad : List Addr} {H : Hp} {sc : Sc} {σ : L2.St} (h : SRel K ad H sc σ) : ∀ vs : List Nat, SRel K ad H (wipeD sc vs) (wipe σ vs)
  | [] => h
  | v :: vs => (SRel.wipe h vs).unset v
theorem wipe_at (σ : L2.St) (j : Nat) : ∀ vs : List Nat, (wipe σ vs)[j]? = if j ∈ vs then (σ[j]?).map (fun _ => none) else σ[j]?
  | [] => by simp [wipe]
  | v :: vs => by
    unfold wipe
    by_cases h : j = v
    · subst h
      rw [if_pos (List.mem_cons_self)]
      by_cases hl : j < σ.length
      · rw [List.getElem?_set_self (by rw [wipe_length]; exact hl), List.getElem?_eq_getElem hl]; rfl
      · rw [List.getElem?_eq_none (by rw [List.length_set, wipe_length]; omega), List.getElem?_eq_none (by omega)]; rfl
    · rw [List.getElem?_set_ne (Ne.symm h), wipe_at σ j vs]
      by_cases h2 : j ∈ vs
      · rw [if_pos h2, if_pos (List.mem_cons_of_mem _ h2)]
      · rw [if_neg h2, if_neg (fun z => (List.mem_cons.mp z).elim h h2)]
theorem wipe_same {σ τ : L2.St} {vs : List Nat} (hl : τ.length = σ.length) (h : ∀ j, j ∉ vs → τ[j]? = (wipe σ vs)[j]?) : wipe τ vs = wipe σ vs := by
  apply List.ext_getElem?
  intro j
  by_cases hj : j ∈ vs
  · rw [wipe_at, wipe_at, if_pos hj, if_pos hj]
    by_cases z : j < σ.length
    · rw [List.getElem?_eq_getElem z, List.getElem?_eq_getElem (by omega)]; rfl
    · rw [List.getElem?_eq_none (by omega), List.getElem?_eq_none (by omega)]
  · rw [wipe_at, if_neg hj, h j hj]
def Res.opt {α : Type} : Res α → Option (α × CH)
  | .ok a C => some (a, C)
  | _ => none
@[simp] theorem Res.opt_ok {α : Type} (a : α) (C : CH) : (Res.ok a C).opt = some (a, C) := rfl
theorem opt_inv {α : Type} {r : Res α} {a : α} {C : CH} (h : r.opt = some (a, C)) : r = .ok a C := by
  cases r with
  | ok b C' => cases h; rfl
  | ex x C' => cases h
  | bad => cases h
/-- y put behind the list n -/
def pushD (n : Nat) (y : D) (C : CH) : Option CH := match C[n]? with
  | some (.lst acc) => if acc.length ≤ 1000000 then some (C.set n (.lst (acc ++ [y]))) else none
  | _ => none
open Classical in
noncomputable def lc (chk : CH → Prop) (g : Fg) (t : Ft) (f : Fe) (n : Nat) (sc : Sc) : List D → CH → Option (D × CH)
  | [], C => if chk C then some (.ref n, C) else none
  | d :: ds, C => if chk C then (g d sc).bind fun sc1 => (t sc1 C).opt.bind fun b => if b.1 = true then (f sc1 b.2).opt.bind fun y => (pushD n y.1 y.2).bind fun C3 => lc chk g t f n sc ds C3
      else lc chk g t f n sc ds b.2 else none
noncomputable def dLc (fi : Fi) (g : Fg) (t : Ft) (f : Fe) (vs : List Nat) : Fe := fun sc C => (fi sc C).bind fun S C1 => .lift (lc S.chk g t f C1.length (wipeD sc vs) S.ds (C1 ++ [.lst []]))
def dYes : Ft := fun _ C => .ok true C
abbrev CTs (X : Cx) (W : WX) (ifs : List Expr) (f : Ft) : Prop := PTs X ifs (tT X.K W f)
theorem PTs_imp {X : Cx} {e : List Expr} {t t' : TT} (h : PTs X e t) (i : ∀ σ H Q, t' σ H Q → t σ H Q) : PTs X e t' := ⟨fun pins s σ H Q I z => h.run pins s σ H Q I (i σ H Q z)⟩
theorem bind_inv {α β : Type} {o : Option α} {f : α → Option β} {b : β} (h : o.bind f = some b) : ∃ a, o = some a ∧ f a = some b := by
  cases o with
  | none => cases h
  | some a => exact ⟨a, rfl, h⟩
section
variable {k : Nat} {X : Cx} {W : WX} {pos : Pos}
theorem ctsN : CTs X W [] dYes := PTs_imp pts_nil fun σ H Q ⟨ad, sc, C, hs, hh, h⟩ => h H (.intro hh trivial)
theorem ctsO {c : Expr} {f : Ft} (h : CT X W c f) : CTs X W [c] f := pts_one h
abbrev W0 : WX := fun _ _ _ _ => False
theorem lc_in {K : PySem.W.Frag} {W : WX} {fi : Fi} {g : Fg} {t : Ft} {f : Fe} {is vs : List Nat} {σ : L2.St} {H : Hp} {Q : VK} (hv : ∀ j ∈ is, j ∈ vs) (h : tE K W (dLc fi g t f vs) σ H Q) : tLc (tI K W fi) (tG K is g) (tT K W0 t) (tE K W0 f) vs σ H Q := by
  obtain ⟨ad, sc, C, hs, hh, h⟩ := h
  refine ⟨ad, sc, C, hs, hh, ?_⟩
  have h : RP K W ad H σ ((fi sc C).bind fun S C1 => .lift (lc S.chk g t f C1.length (wipeD sc vs) S.ds (C1 ++ [.lst []]))) _ := h
  refine (h.bind).imp fun S C1 q J H1 ⟨ad1, E1, hh1, wk⟩ Dn hD => ?_
  obtain ⟨ds, chk⟩ := S
  obtain ⟨z, Cz, ez, hQ⟩ := RP.lift q
  refine ⟨fun i m H2 => ∃ ad2 C2, Ext (ad1 ++ [Dn]) (upd H1 Dn (.lst [])) ad2 H2 ∧ HRel K ad2 H2 C2 ∧ m = ds.length - i ∧ i ≤ ds.length ∧ lc chk g t f C1.length (wipeD sc vs) (ds.drop i) C2 = some (z, Cz),
    ⟨ds.length, ad1 ++ [Dn], C1 ++ [.lst []], .refl _ _, hh1.alloc (o := .lst []) hD ⟨[], rfl, .nil⟩, by simp, Nat.zero_le _, by rw [List.drop_zero]; exact ez⟩, ?_⟩
  rintro i m H2 ⟨ad2, C2, E2, hh2, rfl, hi2, q2⟩
  have E0 : Ext ad1 H1 ad2 H2 := (ext_alloc hD).trans E2
  have hchk : chk C2 := by
    apply Classical.byContradiction
    intro z
    cases e : ds.drop i with
    | nil => rw [e, lc, if_neg z] at q2; cases q2
    | cons d r => rw [e, lc, if_neg z] at q2; cases q2
  have hDn : ad2[C1.length]? = some Dn := E2.pre _ _ (alloc_at hh1)
  obtain ⟨w1, w2⟩ := wk ad2 H2 C2 E0 hh2 hchk
  by_cases hlt : i < ds.length
  · have e : ds.drop i = ds[i] :: ds.drop (i + 1) := List.drop_eq_getElem_cons hlt
    rw [e, lc, if_pos hchk] at q2
    obtain ⟨sc3, eg, q2⟩ := bind_inv q2
    obtain ⟨⟨b, C3⟩, et, q2⟩ := bind_inv q2
    have et := opt_inv et
    dsimp only at q2
    obtain ⟨j1, j2⟩ := w1 i ds[i] (List.getElem?_eq_getElem hlt)
    refine .inr ⟨j1, fun H' => ∃ ad2 C2, Ext (ad1 ++ [Dn]) (upd H1 Dn (.lst [])) ad2 H' ∧ HRel K ad2 H' C2 ∧ lc chk g t f C1.length (wipeD sc vs) (ds.drop (i + 1)) C2 = some (z, Cz),
      fun H' ⟨ad3, C3, z1, z2, z4⟩ => ⟨ds.length - (i + 1), by omega, ad3, C3, z1, z2, rfl, hlt, z4⟩, fun x H3 y => ?_⟩
    obtain ⟨ad3, E3, hh3, rd⟩ := j2 x H3 y
    refine ⟨ad3, wipeD sc vs, C2, ds[i], sc3, (hs.mono (E1.trans (E0.trans E3))).wipe vs, hh3, rd, eg, fun σ3 s3 k3 => ⟨wipe_same (by rw [k3.1, wipe_length]) fun j hj => k3.2 j fun z => hj (hv j z), ad3, sc3, C2, s3, hh3, ?_⟩⟩
    rw [et]
    intro H4 ⟨ad4, E4, hh4, _⟩
    cases b with
    | false =>
      rw [if_neg Bool.false_ne_true] at q2 ⊢
      exact ⟨ad4, C3, E2.trans (E3.trans E4), hh4, q2⟩
    | true =>
      rw [if_pos rfl] at q2 ⊢
      obtain ⟨⟨y, C4⟩, ef, q2⟩ := bind_inv q2
      have ef := opt_inv ef
      obtain ⟨C5, ep, q2⟩ := bind_inv q2
      refine ⟨ad4, sc3, C3, s3.mono E4, hh4, ?_⟩
      rw [ef]
      intro v H5 ⟨ad5, E5, hh5, r5⟩
      have EE : Ext (ad1 ++ [Dn]) (upd H1 Dn (.lst [])) ad5 H5 := E2.trans (E3.trans (E4.trans E5))
      have hD5 : ad5[C1.length]? = some Dn := EE.pre _ _ (alloc_at hh1)
      unfold pushD at ep
      split at ep
      · rename_i acc ea
        split at ep
        · rename_i hz
          cases ep
          obtain ⟨u, h1, ws, rfl, rr⟩ := hh5.obj _ _ _ ea hD5
          have E6 := ext_set hh5 ea hD5 (u := .lst (ws ++ [v]))
          exact ⟨ws, h1, by rw [← rr.length]; exact mil2 hz, ad5, _, EE.trans E6, hh5.set (o' := .lst (acc ++ [y])) ea hD5 ⟨_, rfl, (rr.mono E6).append (.one (r5.mono E6))⟩, q2⟩
        · cases ep
      · cases ep
  · have e : i = ds.length := by omega
    subst e
    rw [List.drop_length, lc, if_pos hchk] at q2
    cases q2
    exact .inl ⟨w2, hQ _ H2 ⟨ad2, E1.trans E0, hh2, .ref hDn⟩⟩
variable {elt tg iter : Expr} {ifs : List Expr} {scope : Scope} {fi : Fi} {g : Fg} {t : Ft} {f : Fe} {is : List Nat}
theorem cLc (own : List (Str × Nat)) (c : Ctx k X W) (hi : CI X W tg iter fi) (ok : BlkOk X.N X.env.scope scope own)
    (hg : ∀ (s : Shared) (H : Hp) (C : Addr) (cl : List (Str × Addr)) (fp : List Addr), Ctx k (X.blk s H scope (compEnvC scope cl C X.env) fp) W0 → CGt (X.blk s H scope (compEnvC scope cl C X.env) fp) tg is g)
    (ht : ∀ (s : Shared) (H : Hp) (C : Addr) (cl : List (Str × Addr)) (fp : List Addr), Ctx k (X.blk s H scope (compEnvC scope cl C X.env) fp) W0 → CTs (X.blk s H scope (compEnvC scope cl C X.env) fp) W0 ifs t)
    (he : ∀ (s : Shared) (H : Hp) (C : Addr) (cl : List (Str × Addr)) (fp : List Addr), Ctx k (X.blk s H scope (compEnvC scope cl C X.env) fp) W0 → CE (X.blk s H scope (compEnvC scope cl C X.env) fp) W0 elt f)
    (hv : ∀ j ∈ is, j ∈ own.map (·.2) := by decide) (hs : ∀ x, foldedSetIterable iter X.env x = pure x := by intro _; rfl) : CE X W (.ListComp elt [⟨tg, iter, ifs, 0⟩] scope pos) (dLc fi g t f (own.map (·.2))) :=
  PE_imp (pe_lc (g := tG X.K is g) (tt := tT X.K W0 t) (te := tE X.K W0 f) c.calm c.nd hi ok (fun s H C cl fp => hg s H C cl fp (c.blk s H scope _ fp)) (fun s H C cl fp => ht s H C cl fp (c.blk s H scope _ fp)) (fun s H C cl fp => he s H C cl fp (c.blk s H scope _ fp)) hs) fun _ _ _ h => lc_in hv h
theorem csLc {y : Str} {py' spos : Pos} (i : Nat) (own : List (Str × Nat)) (c : Ctx k X W) (hsw : swapsWith (.ListComp elt [⟨tg, iter, ifs, 0⟩] scope pos) (some (.Name y py')) spos.line X.env = pure true) (hi : CI X W tg iter fi) (ok : BlkOk X.N X.env.scope scope own)
    (hg : ∀ (s : Shared) (H : Hp) (C : Addr) (cl : List (Str × Addr)) (fp : List Addr), Ctx k (X.blk s H scope (compEnvC scope cl C X.env) fp) W0 → CGt (X.blk s H scope (compEnvC scope cl C X.env) fp) tg is g)
    (ht : ∀ (s : Shared) (H : Hp) (C : Addr) (cl : List (Str × Addr)) (fp : List Addr), Ctx k (X.blk s H scope (compEnvC scope cl C X.env) fp) W0 → CTs (X.blk s H scope (compEnvC scope cl C X.env) fp) W0 ifs t)
    (he : ∀ (s : Shared) (H : Hp) (C : Addr) (cl : List (Str × Addr)) (fp : List Addr), Ctx k (X.blk s H scope (compEnvC scope cl C X.env) fp) W0 → CE (X.blk s H scope (compEnvC scope cl C X.env) fp) W0 elt f)
    (hy : X.N[i]? = some y := by rfl) (hyl : X.env.scope.names.lookup y = some .local := by rfl) (hv : ∀ j ∈ is, j ∈ own.map (·.2) := by decide) (hs : ∀ x, foldedSetIterable iter X.env x = pure x := by intro _; rfl) :
    CS X W (.Assign [.Name y py'] (.ListComp elt [⟨tg, iter, ifs, 0⟩] scope pos) spos) (sAsg (gN i) (dLc fi g t f (own.map (·.2)))) := by
  refine PS_imp (ps_setLc (g := tG X.K is g) (tt := tT X.K W0 t) (te := tE X.K W0 f) c.calm c.nd hy hyl hsw hi ok (fun s H C cl fp => hg s H C cl fp (c.blk s H scope _ fp)) (fun s H C cl fp => ht s H C cl fp (c.blk s H scope _ fp)) (fun s H C cl fp => he s H C cl fp (c.blk s H scope _ fp)) hs) fun D σ H ⟨ad, sc, C, hs, hh, h⟩ => ?_
  refine lc_in (W := W) hv (sE_bind hs hh (.refl _ _) h fun d C1 ad1 H1 v E1 hs1 hh1 r1 h1 => ?_)
  exact h1 _ H1 ⟨ad1, E1, hh1, hs1.set i r1⟩
end
end Cl
set_option maxHeartbeats 4000000
/-! Cl, part I: defs, their calls, the law's end. -/
namespace Cl
open PySem PySem.Spec L2

/-- the promise of a def that does what F does -/
def spC (K : PySem.W.Frag) (n : Nat) (F : List D → CH → Res D) : Sp := fun vs H Q E => ∃ ad C ds, HRel K ad H C ∧ Rls K ad H ds vs ∧ vs.length = n ∧
  RP K (fun c d _ H' => E c d H') ad H [] (F ds C) fun d C' => ∀ v H', Aft K ad H C' (fun ad' H' => Rl K ad' H' d v) H' → Q v H'
/-- the def at f does what F does (room k; no repr is running) -/
structure FnG (P : Program) (w : World) (K : PySem.W.Frag) (mg : Str → Option Value) (base : Heap) (k : Nat) (f : Addr) (fd : FuncData) (ps : List Str) (F : List D → CH → Res D) : Prop where
  run : ∀ (A : Around) (outer : List Env) (s : Shared) (H : Hp) (args : Args) (us : List Value) (vs : List V) (Q : VK) (E : XK), Room k A → A.guards = some [] → Env0 P w K mg base A outer s H →
    BindsTo s fd args (ps.zip us) → Vals vs us → spC K ps.length F vs H Q E → codeAny (model P w) A (.call (.ref f) args) (CR (L2.CX P w) outer P w H s Q E) s
section
variable {P : Program} {w : World} {K : PySem.W.Frag} {mg : Str → Option Value} {base : Heap} {f : Addr} {fd : FuncData} {ps : List Str} {F F' : List D → CH → Res D}
theorem FnG.mono {j k : Nat} (x : FnG P w K mg base j f fd ps F) (h : j ≤ k) : FnG P w K mg base k f fd ps F :=
  ⟨fun A outer s H args us vs Q E hr => x.run A outer s H args us vs Q E (hr.mono h)⟩
/-- the value of a body -/
def bodyOut : SOut → Res D
  | .nx _ C => .ok .non C
  | .rt d C => .ok d C
  | .ex x _ C => .ex x C
  | _ => .bad
def startD (n : Nat) (ds : List D) : Sc := ds.map some ++ List.replicate (n - ds.length) none
def fnBody (n : Nat) (g : Fs) : List D → CH → Res D := fun ds C => bodyOut (g (startD n ds) C)
theorem start_rel {ad : List Addr} {H : Hp} {N : List Str} {ds : List D} {vs : List V} (r : Rls K ad H ds vs) : SRel K ad H (startD N.length ds) (L2.start N vs) := by
  unfold startD L2.start
  refine ⟨by simp [r.length], fun i d e => ?_⟩
  rw [List.getElem?_append] at e
  split at e
  · rename_i hi
    rw [List.length_map] at hi
    rw [List.getElem?_map] at e
    cases q : ds[i]? with
    | none => rw [q] at e; cases e
    | some d' =>
      rw [q] at e
      cases e
      obtain ⟨v, e1, rv⟩ := r.get q
      refine ⟨v, ?_, rv⟩
      rw [List.getElem?_append_left (by rw [List.length_map, ← r.length]; exact hi), List.getElem?_map, e1]
      rfl
  · rw [List.getElem?_replicate] at e
    split at e <;> cases e
theorem spC_body {N : List Str} {g : Fs} {vs : List V} {H : Hp} {Q : VK} {E : XK} {n : Nat} (h : spC K n (fnBody N.length g) vs H Q E) :
    tS K (fun c d _ H' => E c d H') g { nx := fun _ H' => Q .non H', rt := Q } (L2.start N vs) H := by
  obtain ⟨ad, C, ds, hh, r, hl, h⟩ := h
  refine ⟨ad, _, C, start_rel r, hh, ?_⟩
  have h : RP K (fun c d _ H' => E c d H') ad H [] (bodyOut (g (startD N.length ds) C)) _ := h
  cases e : g (startD N.length ds) C with
  | nx sc' C' => rw [e] at h; exact fun σ' H' ⟨ad', E', h', _⟩ => h .non H' ⟨ad', E', h', .non⟩
  | rt d C' => rw [e] at h; exact h
  | bk sc' C' => rw [e] at h; exact h.elim
  | ct sc' C' => rw [e] at h; exact h.elim
  | ex x sc' C' =>
    rw [e] at h
    intro c d σ' H' e1 ⟨ad', E', h', xf, _⟩
    exact h c d H' ⟨e1, ad', E', h', xf⟩
  | bad => rw [e] at h; exact h.elim
/-- a def of the text, by its body -/
theorem FnG.of {x qual : Str} {st : Stmt} {N : List Str} {k : Nat} {g : Fs} (Fu : Fun K x qual st f fd) (S : FnScope N ps (defScope st))
    (hb : ∀ (cdv : Value) (A : Around) (outer : List Env) (s : Shared) (H : Hp) (E : XK), Ctx k (cxOf (L2.CX P w) P w K mg base N qual (defScope st) f cdv A outer s H E) (fun c d _ H' => E c d H') →
      CSs (cxOf (L2.CX P w) P w K mg base N qual (defScope st) f cdv A outer s H E) (fun c d _ H' => E c d H') (defBody st) g) : FnG P w K mg base (k + 1) f fd ps (fnBody N.length g) := by
  obtain ⟨oc, od, kV, doc, pm, an, cdv, ct, osl, e0, lk, hcd⟩ := Fu.ex
  subst e0
  constructor
  intro A outer s H args us vs Q E hr hg en hbd rv hsp
  have hlen : vs.length = ps.length := by obtain ⟨_, _, _, _, _, z, _⟩ := hsp; exact z
  have inK : K.In s.heap := en.mod.kin.keeps fun b o e => (en.bs b o e).1
  have inL : s.heap.NoLimit := en.mod.nolimit.keeps fun b o e => (en.bs b o e).1
  have kinds : ∀ y ∈ ps.zip us, (defScope st).names.lookup y.1 = some .local ∨ ((defScope st).names.lookup y.1 = some .cell ∧ ((cellsFrom (s.heap.objs.size + 1) (defScope st).names []).lookup y.1).isSome = true) := by
    intro y hy
    have hm : y.1 ∈ ps := (List.of_mem_zip (a := y.1) (b := y.2) hy).1
    cases S.par y.1 hm with
    | inl q => exact Or.inl q
    | inr q => exact Or.inr (And.intro q (PySem.W.cellsFrom_some _ _ _ (Or.inl q)))
  apply codeAny_call_function hr.depth (inK _ _ lk) rfl S.co S.gen rfl (PySem.W.codeRec_of inK hcd)
  apply hbd
  apply wpAny_newFunctionEnv_cells S.kind kinds
  intro env e1 s1 inc
  subst e1
  constructor
  · exact inL.keeps inc.toInCall.keep
  apply codeAny_func
  have cx : Ctx k (cxOf (L2.CX P w) P w K mg base N qual (defScope st) f cdv A outer s H E) (fun c d _ H' => E c d H') :=
    ⟨takes_of rfl rfl rfl rfl, rfl, hr.deeper _, hg, S.nd, passes_of rfl⟩
  have I : Inv (cxOf (L2.CX P w) P w K mg base N qual (defScope st) f cdv A outer s H E) [] (L2.start N vs) H s1 := inv_start S hr.hd en hlen rv inc
  have body := (hb cdv A outer s H E cx).run [] s1 (L2.start N vs) H { nx := fun _ H' => Q .non H', rt := Q } I (spC_body hsp)
  refine wpAny_mono body ?_ fun _ _ z => z
  intro fl s' hs
  cases fl with
  | ret u => obtain ⟨v, σ', H', J, r', q⟩ := hs; exact ⟨v, H', J.os, J.bare, J.base, J.hok, r', q⟩
  | next => obtain ⟨σ', H', J, q⟩ := hs; exact ⟨.non, H', J.os, J.bare, J.base, J.hok, rfl, q⟩
  | brk => obtain ⟨_, _, _, q⟩ := hs; exact absurd q id
  | cont => obtain ⟨_, _, _, q⟩ := hs; exact absurd q id

/-! ### the objects of a call forgotten behind it -/
mutual
def D.bel (k : Nat) : D → Bool
  | .ref n => decide (n < k)
  | .tup ds => bels k ds
  | .fl ds => bels k ds
  | _ => true
def bels (k : Nat) : List D → Bool
  | [] => true
  | d :: ds => d.bel k && bels k ds
end
def belK {κ : Type} (k : Nat) (kvs : List (κ × D)) : Bool := kvs.all fun kv => kv.2.bel k
def O.bel (k : Nat) : O → Bool
  | .lst ds => bels k ds
  | .dK kvs => belK k kvs
  | .dT kvs => belK k kvs
def Wf (C : CH) : Prop := ∀ o ∈ C, o.bel C.length = true
mutual
theorem Rl.bel {ad : List Addr} {H : Hp} : ∀ {d : D} {v : V}, Rl K ad H d v → d.bel ad.length = true
  | _, _, .non => by simp only [D.bel]
  | _, _, .bl b => by simp only [D.bel]
  | _, _, .int i => by simp only [D.bel]
  | _, _, .str x => by simp only [D.bel]
  | _, _, .tup h r => by rw [D.bel]; exact Rls.bel r
  | _, _, .fl h r => by rw [D.bel]; exact Rls.bel r
  | _, _, .ref h => by rw [D.bel]; exact decide_eq_true (List.getElem?_eq_some_iff.mp h).1
  | _, _, .v x => by simp only [D.bel]
theorem Rls.bel {ad : List Addr} {H : Hp} : ∀ {ds : List D} {vs : List V}, Rls K ad H ds vs → bels ad.length ds = true
  | _, _, .nil => by simp only [bels]
  | _, _, .cons r t => by rw [bels, Rl.bel r, Rls.bel t]; rfl
end
mutual
theorem Rl.cut {ad : List Addr} {H : Hp} {k : Nat} : ∀ {d : D} {v : V}, Rl K ad H d v → d.bel k = true → Rl K (ad.take k) H d v
  | _, _, .non, _ => .non
  | _, _, .bl b, _ => .bl b
  | _, _, .int i, _ => .int i
  | _, _, .str x, _ => .str x
  | _, _, .tup h r, b => .tup h (Rls.cut r (by rw [D.bel] at b; exact b))
  | _, _, .fl h r, b => .fl h (Rls.cut r (by rw [D.bel] at b; exact b))
  | _, _, .ref h, b => .ref (by rw [D.bel] at b; rw [List.getElem?_take, if_pos (of_decide_eq_true b)]; exact h)
  | _, _, .v x, _ => .v x
theorem Rls.cut {ad : List Addr} {H : Hp} {k : Nat} : ∀ {ds : List D} {vs : List V}, Rls K ad H ds vs → bels k ds = true → Rls K (ad.take k) H ds vs
  | _, _, .nil, _ => .nil
  | _, _, .cons r t, b => by
    rw [bels, Bool.and_eq_true] at b
    exact .cons (Rl.cut r b.1) (Rls.cut t b.2)
end
theorem KR.bel {κ : Type} {ad : List Addr} {H : Hp} {xs : List (κ × D)} {ys : List (κ × V)} (h : KR K ad H xs ys) : belK ad.length xs = true := by
  unfold belK
  induction h with
  | nil => rfl
  | cons r t ih => rw [List.all_cons, r.2.bel, ih]; rfl
theorem KR.cut {κ : Type} {ad : List Addr} {H : Hp} {k : Nat} {xs : List (κ × D)} {ys : List (κ × V)} (h : KR K ad H xs ys) (b : belK k xs = true) : KR K (ad.take k) H xs ys := by
  unfold belK at b
  induction h with
  | nil => exact .nil
  | cons r t ih =>
    rw [List.all_cons, Bool.and_eq_true] at b
    exact .cons ⟨r.1, r.2.cut b.1⟩ (ih b.2)
theorem OR.bel {ad : List Addr} {H : Hp} {o : O} {u : HO} (h : OR K ad H o u) : o.bel ad.length = true := by
  cases o with
  | lst ds => obtain ⟨vs, _, r⟩ := h; exact r.bel
  | dK ds => obtain ⟨vs, _, r⟩ := h; exact KR.bel r
  | dT ds => obtain ⟨vs, _, r⟩ := h; exact KR.bel r
theorem OR.cut {ad : List Addr} {H : Hp} {k : Nat} {o : O} {u : HO} (h : OR K ad H o u) (b : o.bel k = true) : OR K (ad.take k) H o u := by
  cases o with
  | lst ds => obtain ⟨vs, e, r⟩ := h; exact ⟨vs, e, r.cut b⟩
  | dK ds => obtain ⟨vs, e, r⟩ := h; exact ⟨vs, e, KR.cut r b⟩
  | dT ds => obtain ⟨vs, e, r⟩ := h; exact ⟨vs, e, KR.cut r b⟩
theorem HRel.wf {ad : List Addr} {H : Hp} {C : CH} (h : HRel K ad H C) : Wf C := fun o ho => by
  obtain ⟨n, hn, e⟩ := List.mem_iff_getElem.mp ho
  obtain ⟨a, u, e1, e2, r⟩ := h.at (n := n) (o := o) (by rw [← e]; exact List.getElem?_eq_getElem hn)
  rw [← h.len]
  exact r.bel
/-- r' is r, or r with the newest objects forgotten that nothing leads to -/
def Cuts (C : CH) (r r' : Res D) : Prop := r' = .bad ∨ r = r' ∨ ∃ d C2 k, r = .ok d C2 ∧ r' = .ok d (C2.take k) ∧ C.length ≤ k ∧ d.bel k = true ∧ ∀ o ∈ C2.take k, o.bel k = true
theorem FnG.spec {k : Nat} (x : FnG P w K mg base k f fd ps F) (h : ∀ ds C, Wf C → bels C.length ds = true → ds.length = ps.length → Cuts C (F ds C) (F' ds C)) : FnG P w K mg base k f fd ps F' := by
  refine ⟨fun A outer s H args us vs Q E hr hg en hb rv sp => x.run A outer s H args us vs Q E hr hg en hb rv ?_⟩
  obtain ⟨ad, C, ds, hh, r, hl, q⟩ := sp
  refine ⟨ad, C, ds, hh, r, hl, ?_⟩
  rcases h ds C hh.wf (by rw [← hh.len]; exact r.bel) (by rw [r.length]; exact hl) with e | e | ⟨d, C2, k, e1, e2, hk, b1, b2⟩
  · rw [e] at q; exact q.elim
  · rw [e]; exact q
  · rw [e2] at q
    rw [e1]
    intro v H' ⟨ad', E', h', r'⟩
    refine q v H' ⟨ad'.take k, ⟨fun n a z => ?_, E'.tup, E'.frz⟩, h'.cut k fun n o u hn e z => z.cut (b2 o ?_), r'.cut b1⟩
    · have hn : n < k := Nat.lt_of_lt_of_le (by rw [← hh.len]; exact (List.getElem?_eq_some_iff.mp z).1) hk
      rw [List.getElem?_take, if_pos hn]
      exact E'.pre n a z
    · refine List.mem_iff_getElem?.mpr ⟨n, ?_⟩
      rw [List.getElem?_take, if_pos hn]
      exact e
end

/-! ### calls -/
def dCall (n : Nat) (F : List D → CH → Res D) (fs : Fa) : Fe := fun sc C => (fs sc C).bind fun ds C1 => if ds.length = n then F ds C1 else .bad
section
variable {k j : Nat} {X : Cx} {W : WX} {f : Addr} {fd : FuncData} {ps : List Str} {F : List D → CH → Res D} {x : Str} {p pos : Pos} {e : Expr} {es : List Expr} {fs : Fa}
theorem call_in {pins : List (Addr × Obj)} {σ : L2.St} {H : Hp} {s : Shared} {Q : VK} {us : List Value} {vs : List V} (G : FnG X.prog X.w X.K X.mg X.base j f fd ps F) (c : Ctx k X W) (hj : j ≤ k) (hb : Binds X.K fd ps []) (I : Inv X pins σ H s) (rv : Vals vs us)
    (h : spC X.K ps.length F vs H Q (fun cl d H' => W cl d σ H')) : wpAny (model X.prog X.w) X.A (call (.ref f) us) (EP X pins σ Q) X.xe s := by
  have hl : us.length = ps.length := by
    obtain ⟨_, _, _, _, _, z, _⟩ := h
    rw [← rv.length]; exact z
  have b0 := hb s us I.kIn (by rw [List.append_nil]; exact hl)
  rw [List.append_nil] at b0
  have run := G.run X.A X.stack s H ⟨us, []⟩ us vs Q (fun cl d H' => W cl d σ H') (c.room.mono hj) c.gd I.env0 b0 rv h
  refine wpAny_call (codeAny_mono run ?_)
  intro r s' hq
  cases r with
  | error er => exact c.tk er s' (XE.of_call I (fun _ _ _ z => z) hq)
  | ok fl =>
    cases fl with
    | ret u => exact Inv.after I hq
    | next => exact absurd hq id
    | brk => exact absurd hq id
    | cont => exact absurd hq id
/-- f(e, ..) -/
theorem cCall (c : Ctx k X W) (G : FnG X.prog X.w X.K X.mg X.base j f fd ps F) (hj : j ≤ k) (hm : X.mg x = some (.ref f)) (hk : PySem.W.keepIn X.K (.ref f) = true) (hb : Binds X.K fd ps []) (ha : CA X W (e :: es) fs) (n : Nat) (hn : ps.length = n := by rfl)
    (hg : Gl X x := by rfl) (hdb : (x == ("__debug__" : Str)) = false := by decide) (he : starEach (e :: es) X.env = (false, eval e X.env) :: starEach es X.env := by rfl) (hpl : (backTo pos (starEach es X.env)).any (·.1) = false := by rfl) :
    CE X W (.Call (.Name x p) (e :: es) [] pos) (dCall n F fs) := by
  constructor
  intro pins s σ H Q I h
  refine wpAny_Call_Name_kw (ld_glob I hg hm ?_ hdb)
  refine PySem.W.callWith_K (h₀ := X.base) I.ok.mod.kin hk ?_ he hpl
  obtain ⟨ad, sc, C, hs, hh, h⟩ := h
  have key : tA X.K W fs σ H fun vs H1 => spC X.K ps.length F vs H1 Q (fun cl d H' => W cl d σ H') := by
    refine tA_bind hs hh (.refl _ _) h fun ds C1 ad1 H1 vs E1 hs1 hh1 r1 h1 => ?_
    by_cases hl : ds.length = n
    · rw [if_pos hl] at h1
      refine ⟨ad1, C1, ds, hh1, r1, by rw [← r1.length, hn]; exact hl, ?_⟩
      cases e5 : F ds C1 with
      | ok d C2 => rw [e5] at h1; exact fun v H' a => h1 v H' (a.trans E1)
      | ex y C2 => rw [e5] at h1; exact fun c d H' ⟨z, a⟩ => h1 c d H' ⟨z, a.trans E1⟩
      | bad => rw [e5] at h1; exact h1
    · rw [if_neg hl] at h1
      exact h1.elim
  refine thn (ha.run pos pins s σ H _ I key) ?_
  intro us s1 hq
  obtain ⟨vs, H1, I1, rv, q⟩ := hq
  exact ⟨I1.kIn, call_in G c hj hb I1 rv q⟩
end
end Cl
set_option maxHeartbeats 4000000
/-! Cl, part J: the law's end. -/
namespace Cl
open PySem PySem.Spec L2
open PyProof.Rows (AllBare IntsAre)

def intsD (ns : List Int) : List D := ns.map D.int
theorem intsD_rel {K : PySem.W.Frag} {ad : List Addr} {H : Hp} : ∀ ns : List Int, Rls K ad H (intsD ns) (ns.map V.int)
  | [] => .nil
  | n :: ns => .cons (.int n) (intsD_rel ns)
theorem hrel_nil {K : PySem.W.Frag} {H : Hp} : HRel K [] H [] := ⟨rfl, fun n o a e => by simp at e, fun n m a e => by simp at e⟩
section
variable {P : Program} {w : World} {K : PySem.W.Frag} {mg mb : Str → Option Value} {k : Nat} {fa a : Addr} {fd : FuncData} {x : Str} {F : List D → CH → Res D} {s1 : Shared} {vs : List Value} {ns : List Int}
/-- from an abstract heap that tracks at most the script, as a known one -/
theorem law_from {H : Hp} (inK : K.In s1.heap) (hns : s1.heap.Ns mainGlobals mg) (hb : s1.heap.Ns builtinsNs mb) (hbb : ∀ x : Str, x ≠ "__name__" → mb x = bootBuiltins x) (hlim : s1.heap.NoLimit) (hg : s1.gens = #[])
    (ha : s1.heap.get? a = some { cls := .type "list", data := .seq vs.toArray }) (hr : Room k callerA) (G : ∀ base : Heap, K.In base → base.Ns mainGlobals mg → FnG P w K mg base k fa fd [x] F)
    (hbind : ∀ (s : Shared) (u : Value), BindsTo s fd ⟨[u], []⟩ [(x, u)]) (ok : ∃ C, F [.fl (intsD ns)] [] = .ok (.bl true) C)
    (hH : ∀ b u, H b = some u → b = a ∧ K.lookup a = none ∧ u = .frz { cls := .type "list", data := .seq vs.toArray } (.lst (ns.map V.int))) (hk : HOk P w H s1.heap) (hz : Fz K H a (ns.map V.int)) :
    codeAny (model P w) callerA (.call (.ref fa) ⟨[.ref a], []⟩) (fun r s' => r = .ok (.ret (.bool true)) ∧ OldK s1.heap s'.heap ∧ s'.os = s1.os ∧ AllBare s'.gens) s1 := by
  have nodict : ∀ {b : Addr} {o : Obj} {es : Array DictEntry} {ep : Nat}, s1.heap.get? b = some o → o.data = .dict es ep → H b = none := by
    intro b o es ep e d
    cases q : H b with
    | none => rfl
    | some u =>
      obtain ⟨rfl, _, _⟩ := hH b u q
      rw [ha] at e
      cases e
      exact nomatch (show Data.seq vs.toArray _ = Data.dict es ep from d)
  have ns' : ∀ {b : Addr} {m : Str → Option Value}, s1.heap.Ns b m → (hidT s1.heap H).Ns b m := by
    intro b m h
    obtain ⟨o, es, ep, e, d, r⟩ := h
    exact ⟨o, es, ep, hidT_get e (nodict e d), d, r⟩
  have kin : K.In (hidT s1.heap H) := by
    intro b o e
    refine hidT_get (inK b o e) ?_
    cases q : H b with
    | none => rfl
    | some u =>
      obtain ⟨rfl, z, _⟩ := hH b u q
      rw [z] at e
      cases e
  have md : Mod K mg (hidT s1.heap H) := by
    obtain ⟨mc, c1, c2⟩ := hlim
    exact ⟨kin, ns' hns, ⟨mb, ns' hb, hbb⟩, ⟨mc, ns' c1, c2⟩⟩
  have en : Env0 P w K mg (hidT s1.heap H) callerA [] s1 H := by
    refine ⟨rfl, md, fun b o e => of_hidT e, Nat.le_of_eq (hidT_size _ _), trivial, ?_, hk, .of_eq hg⟩
    intro b hb'
    cases hb'
  obtain ⟨C0, eF⟩ := ok
  have sp : spC K [x].length F [.ref a] H (fun v _ => v = .bl true) (fun _ _ _ => False) := by
    refine ⟨[], [], [.fl (intsD ns)], hrel_nil, .cons (.fl hz (intsD_rel ns)) .nil, rfl, ?_⟩
    rw [eF]
    intro v H' ⟨ad', _, _, r⟩
    cases r
    rfl
  have run := (G _ kin (ns' hns)).run callerA [] s1 H ⟨[.ref a], []⟩ [.ref a] [.ref a] (fun v _ => v = .bl true) (fun _ _ _ => False) hr rfl en (hbind s1 (.ref a)) (.cons rfl .nil) sp
  refine codeAny_mono run ?_
  intro r s' h
  cases r with
  | error e =>
    obtain ⟨_, _, _, _, _, _, _, _, _, _, _, _, z⟩ := h
    exact z.elim
  | ok fl =>
    cases fl with
    | next => exact absurd h id
    | brk => exact absurd h id
    | cont => exact absurd h id
    | ret u =>
      obtain ⟨v, H', os, bare, un, hok', rv, q⟩ := h
      have q : v = .bl true := q
      subst q
      cases (show u = Value.bool true from rv)
      refine ⟨rfl, OldK.of_keep ?_, os, bare⟩
      intro b o e
      cases q : H b with
      | none =>
        refine un.keep b o e q ?_ ?_
        · intro z; cases z
        · intro z; cases z
      | some u =>
        obtain ⟨rfl, _, rfl⟩ := hH b u q
        rw [ha] at e
        cases e
        exact (hok' b _ (un.frzs b _ _ q)).1
theorem law_end (inK : K.In s1.heap) (hns : s1.heap.Ns mainGlobals mg) (hb : s1.heap.Ns builtinsNs mb) (hbb : ∀ x : Str, x ≠ "__name__" → mb x = bootBuiltins x) (hlim : s1.heap.NoLimit) (hg : s1.gens = #[])
    (ha : s1.heap.get? a = some { cls := .type "list", data := .seq vs.toArray }) (hi : IntsAre vs ns) (hl : ns.length ≤ sizeLine) (hr : Room k callerA) (G : ∀ base : Heap, K.In base → base.Ns mainGlobals mg → FnG P w K mg base k fa fd [x] F)
    (hbind : ∀ (s : Shared) (u : Value), BindsTo s fd ⟨[u], []⟩ [(x, u)]) (ok : ∃ C, F [.fl (intsD ns)] [] = .ok (.bl true) C) :
    codeAny (model P w) callerA (.call (.ref fa) ⟨[.ref a], []⟩) (fun r s' => r = .ok (.ret (.bool true)) ∧ OldK s1.heap s'.heap ∧ s'.os = s1.os ∧ AllBare s'.gens) s1 := by
  have rv : Vals (ns.map V.int) vs := L2.vals_ints hi
  have ll : (ns.map V.int).length ≤ sizeLine := by rw [List.length_map]; exact hl
  cases e : K.lookup a with
  | some o =>
    have z := inK a o e
    rw [ha] at z
    cases z
    refine law_from (H := fun _ => none) (ns := ns) inK hns hb hbb hlim hg ha hr G hbind ok (fun b u z => nomatch z) (fun b u z => nomatch z) (.inr ⟨_, vs.toArray, _, e, rfl, rfl, rfl, ?_, by simpa using rv⟩)
    rw [List.size_toArray, ← rv.length]
    exact ll
  | none =>
    refine law_from (H := fun b => if b = a then some (.frz { cls := .type "list", data := .seq vs.toArray } (.lst (ns.map V.int))) else none) (ns := ns) inK hns hb hbb hlim hg ha hr G hbind ok ?_ ?_ (.inl ⟨_, if_pos rfl⟩)
    · intro b u z
      replace z := z; try dsimp only at z
      by_cases q : b = a
      · rw [if_pos q] at z
        cases z
        exact ⟨q, e, rfl⟩
      · rw [if_neg q] at z
        cases z
    · intro b u z
      replace z := z; try dsimp only at z
      by_cases q : b = a
      · rw [if_pos q] at z
        cases z
        subst q
        exact ⟨ha, ll, vs, _, rv, ha⟩
      · rw [if_neg q] at z
        cases z
end
/-- the law's walk -/
theorem walkG {l : PySem.W.OpenLaw} {n k : Nat} {q : Program} {loose : List Str} {XP : (Str → Option Value) → Heap → Prop} {YP : World → Heap → Prop} {d : DefRec} {K : Params → PySem.W.Frag} {x : Str} {F : List D → CH → Res D}
    (hn : l.most = some n) (hn2 : n ≤ sizeLine) (hdf : d.params.defaults = []) (hr : Room k callerA) (hY : ∀ (w : World) (h : Heap), YP w h → (K w.params).In h)
    (hF : ∀ (w : World) (mg : Str → Option Value) (fa : Addr) (h : Heap), (K w.params).In h → h.Ns mainGlobals mg → mg d.name = some (.ref fa) →
      ∃ fd : FuncData, (∀ (s : Shared) (u : Value), BindsTo s fd ⟨[u], []⟩ [(x, u)]) ∧ ∀ base : Heap, (K w.params).In base → base.Ns mainGlobals mg → FnG l.prog w (K w.params) mg base k fa fd [x] F)
    (ok : ∀ ns : List Int, ns.length ≤ n → (∀ z ∈ ns, Builtin.Int.intBits z ≤ 1048576) → ∃ C, F [.fl (intsD ns)] [] = .ok (.bl true) C) :
    PySem.W.WalkO q loose XP YP l.row.toRowW d [] (fun f vs => PySem.call f vs) := by
  refine Att.attach_callB hn hdf ?_
  intro w s0 s1 mg mb fa o pm cd doc a vs ns G Y ho hd hcd hmg hobj hints hlen hbits hg
  obtain ⟨fd, hb, hG⟩ := hF w mg fa _ (hY w _ Y) G.T.g hmg
  exact law_end (hY w _ Y) G.T.g G.T.b G.T.builtins G.T.nolimit hg hobj hints (Nat.le_trans hlen hn2) hr hG hb (ok ns hlen hbits)
end Cl
set_option maxHeartbeats 4000000
/-! Cl, part K: dict displays, repr, [::-1]. -/
namespace Cl
open PySem PySem.Spec L2

/-! ### dict displays -/
def dPairs : List (Fe × Fe) → Sc → CH → Res (List (D × D))
  | [], _, C => .ok [] C
  | p :: r, sc, C => (p.1 sc C).bind fun x C1 => (p.2 sc C1).bind fun y C2 => (dPairs r sc C2).bind fun ps C3 => .ok ((x, y) :: ps) C3
def keyed : List (D × D) → Option (List (Key × D))
  | [] => some []
  | p :: r => (keyOf p.1).bind fun k => (keyed r).bind fun kvs => some ((k, p.2) :: kvs)
def mergeD (kvs more : List (Key × D)) : List (Key × D) := more.foldl (fun acc kv => putD acc kv.1 kv.2) kvs
def dDct (ps : List (Fe × Fe)) : Fe := fun sc C => (dPairs ps sc (C ++ [.dK []])).bind fun ds C1 => match C1[C.length]? with
  | some (.dK []) => (match keyed ds with
    | some kvs => if kvs.length ≤ 15 then .ok (.ref C.length) (C1.set C.length (.dK (mergeD [] kvs))) else .bad
    | none => .bad)
  | _ => .bad
section
variable {K : PySem.W.Frag}
theorem merge_rel {ad : List Addr} {H : Hp} {more : List (Key × D)} {ws : List (Key × V)} (h : KR K ad H more ws) : ∀ {kvs : List (Key × D)} {vs : List (Key × V)}, KR K ad H kvs vs → KR K ad H (mergeD kvs more) (mergeK vs ws) := by
  unfold mergeD mergeK
  induction h with
  | nil => intro kvs vs h; exact h
  | cons r t ih =>
    intro kvs vs h
    rw [List.foldl_cons, List.foldl_cons, ← r.1]
    exact ih (put_rel _ r.2 h)
def Prs (K : PySem.W.Frag) (ad : List Addr) (H : Hp) : List (D × D) → List (V × V) → Prop := Paired fun p q => Rl K ad H p.1 q.1 ∧ Rl K ad H p.2 q.2
theorem keyed_rel {ad : List Addr} {H : Hp} : ∀ {ds : List (D × D)} {ps : List (V × V)} {kvs : List (Key × D)}, Prs K ad H ds ps → keyed ds = some kvs → ∃ ws : List (Key × V), ps = ws.map (fun kv => (kV kv.1, kv.2)) ∧ KR K ad H kvs ws
  | _, _, _, .nil, h => by cases h; exact ⟨[], rfl, .nil⟩
  | _, _, _, .cons (a := p) (b := q) r t, h => by
    obtain ⟨k, e1, h⟩ := bind_inv (show (keyOf p.1).bind _ = some _ from h)
    obtain ⟨kvs, e2, h⟩ := bind_inv h
    cases h
    obtain ⟨ws, rfl, r2⟩ := keyed_rel t e2
    refine ⟨(k, q.2) :: ws, ?_, .cons ⟨rfl, r.2⟩ r2⟩
    rw [List.map_cons, ← key_rel e1 r.1]
theorem pairs_in {W : WX} : ∀ (fs : List (Fe × Fe)) {σ : L2.St} {ad0 ad : List Addr} {H0 H : Hp} {sc : Sc} {C : CH} {β : Type} {k : List (D × D) → CH → Res β} {P : β → CH → Prop} {R : List (V × V) → Hp → Prop}, SRel K ad H sc σ → HRel K ad H C → Ext ad0 H0 ad H →
    RP K W ad0 H0 σ ((dPairs fs sc C).bind k) P →
    (∀ ds C1 ad1 H1 ps, Ext ad H ad1 H1 → SRel K ad1 H1 sc σ → HRel K ad1 H1 C1 → Prs K ad1 H1 ds ps → RP K W ad0 H0 σ (k ds C1) P → R ps H1) → tPairs (fs.map fun p => (tE K W p.1, tE K W p.2)) σ H R
  | [], σ, ad0, ad, H0, H, sc, C, β, k, P, R, hs, hh, E, h, n => n [] C ad H [] (.refl _ _) hs hh .nil h
  | p :: fs, σ, ad0, ad, H0, H, sc, C, β, k, P, R, hs, hh, E, h, n => by
    have h : RP K W ad0 H0 σ ((p.1 sc C).bind fun x C1 => (p.2 sc C1).bind fun y C2 => (dPairs fs sc C2).bind fun ps C3 => k ((x, y) :: ps) C3) P := by
      have e : (dPairs (p :: fs) sc C).bind k = (p.1 sc C).bind fun x C1 => (p.2 sc C1).bind fun y C2 => (dPairs fs sc C2).bind fun ps C3 => k ((x, y) :: ps) C3 := by
        rw [dPairs]
        cases p.1 sc C with
        | bad => rfl
        | ex x C1 => rfl
        | ok x C1 =>
          simp only [Res.bind_ok]
          cases p.2 sc C1 with
          | bad => rfl
          | ex y C2 => rfl
          | ok y C2 =>
            simp only [Res.bind_ok]
            cases dPairs fs sc C2 <;> rfl
      rw [← e]; exact h
    refine tE_bind hs hh E h fun x C1 ad1 H1 v E1 hs1 hh1 r1 h1 => ?_
    refine tE_bind hs1 hh1 (E.trans E1) h1 fun y C2 ad2 H2 w E2 hs2 hh2 r2 h2 => ?_
    refine pairs_in fs hs2 hh2 (E.trans (E1.trans E2)) h2 fun ds C3 ad3 H3 ps E3 hs3 hh3 r3 h3 => ?_
    exact n _ C3 ad3 H3 _ (E1.trans (E2.trans E3)) hs3 hh3 (Paired.cons (a := (x, y)) (b := (v, w)) ⟨r1.mono (E2.trans E3), r2.mono E3⟩ r3) h3
end
section
variable {k : Nat} {X : Cx} {W : WX} {pos : Pos}
abbrev CPs (X : Cx) (W : WX) (pos : Pos) (ks : List (Option Expr)) (vs : List Expr) (fs : List (Fe × Fe)) : Prop := PPs X pos ks vs (fs.map fun p => (tE X.K W p.1, tE X.K W p.2))
theorem cpsN : CPs X W pos [] [] [] := pps_nil
theorem cpsC {kx vx : Expr} {ks : List (Option Expr)} {vs : List Expr} {fk fv : Fe} {fs : List (Fe × Fe)} (hk : CE X W kx fk) (hv : CE X W vx fv) (hr : CPs X W pos ks vs fs) : CPs X W pos (some kx :: ks) (vx :: vs) ((fk, fv) :: fs) := pps_cons hk hv hr
theorem cDct {ks : List (Option Expr)} {vs : List Expr} {fs : List (Fe × Fe)} (h : CPs X W pos ks vs fs) (hall : ks.all (·.isSome) = true := by rfl) (hl : ks.length = vs.length := by rfl) (h0 : ks ≠ [] := by (intro z; cases z)) (hf : ks.length ≤ 15 := by decide) : CE X W (.Dict ks vs pos) (dDct fs) := by
  refine PE_imp (pe_disp h hall hl h0 hf) fun σ H Q ⟨ad, sc, C, hs, hh, q⟩ p hp => ?_
  have E0 : Ext ad H (ad ++ [p]) (upd H p (.dK [])) := ext_alloc hp
  have q : RP X.K W ad H σ ((dPairs fs sc (C ++ [.dK []])).bind fun ds C1 => match C1[C.length]? with
      | some (.dK []) => (match keyed ds with
        | some kvs => if kvs.length ≤ 15 then Res.ok (D.ref C.length) (C1.set C.length (.dK (mergeD [] kvs))) else .bad
        | none => .bad)
      | _ => .bad) _ := q
  refine pairs_in fs (hs.mono E0) (hh.alloc (o := .dK []) hp ⟨[], rfl, .nil⟩) E0 q fun ds C1 ad1 H1 ps E1 hs1 hh1 r1 h1 => ?_
  have hD : ad1[C.length]? = some p := E1.pre _ _ (alloc_at hh)
  split at h1
  · rename_i e
    obtain ⟨u, g1, ws, rfl, g2⟩ := hh1.obj _ _ _ e hD
    cases g2
    split at h1
    · rename_i kvs ek
      split at h1
      · rename_i hz
        obtain ⟨ws, rfl, rr⟩ := keyed_rel r1 ek
        have E2 := ext_set hh1 e hD (u := .dK (mergeK [] ws))
        exact ⟨g1, ws, rfl, by rw [← rr.length]; exact hz, h1 _ _ ⟨ad1, E0.trans (E1.trans E2), hh1.set (o' := .dK (mergeD [] kvs)) e hD ⟨_, rfl, merge_rel (rr.mono E2) .nil⟩, .ref hD⟩⟩
      · exact h1.elim
    · exact h1.elim
  · exact h1.elim
def dNewK : Fe := fun _ C => .ok (.ref C.length) (C ++ [.dK []])
def dNewT : Fe := fun _ C => .ok (.ref C.length) (C ++ [.dT []])
theorem cNewK : CE X W (.Dict [] [] pos) dNewK := PE_imp pe_dnewK fun σ H Q ⟨ad, sc, C, hs, hh, q⟩ p hp => q _ _ ⟨ad ++ [p], ext_alloc hp, hh.alloc (o := .dK []) hp ⟨[], rfl, .nil⟩, .ref (alloc_at hh)⟩
theorem cNewT : CE X W (.Dict [] [] pos) dNewT := PE_imp pe_dnewT fun σ H Q ⟨ad, sc, C, hs, hh, q⟩ p hp => q _ _ ⟨ad ++ [p], ext_alloc hp, hh.alloc (o := .dT []) hp ⟨[], rfl, .nil⟩, .ref (alloc_at hh)⟩
end

/-! ### repr -/
mutual
def szP : PyData → Nat
  | .none => 4
  | .bool _ => 5
  | .int _ => 1921
  | .str x => 10 * x.length + 2
  | .list xs => szPs xs + 2
  | .tuple xs => szPs xs + 3
  | .dict _ => 0
def szPs : List PyData → Nat
  | [] => 0
  | x :: xs => szP x + 2 + szPs xs
end
theorem reprText_le {x : Str} (h : PyData.strOk x = true) : (reprText x).length ≤ 10 * x.length + 2 := by
  refine PySem.StrLaws.reprText_len x fun c hc => ?_
  unfold PyData.strOk at h
  rw [Array.all_eq_true'] at h
  have := of_decide_eq_true (h c (Array.mem_toList_iff.mp hc))
  omega
theorem listText_le : ∀ ts : List Str, (listText ts).length ≤ piled ts + 2
  | [] => by decide
  | t :: r => by
    have e1 : listText (t :: r) = textFrom 1 (("[" : Str) ++ ((if 0 > 0 then ", " else "" : String) : Str) ++ t) r ++ ("]" : Str) := rfl
    have z0 : ((if 0 > 0 then ", " else "" : String) : Str).length = 0 := rfl
    have z1 : ("[" : Str).length = 1 := rfl
    have z2 : ("]" : Str).length = 1 := rfl
    rw [e1, Str.length_append, textFrom_length_pos _ _ _ (Nat.succ_pos 0), Str.length_append, Str.length_append, piled_cons, z0, z1, z2]
    omega
theorem tupleText_le (ts : List Str) : (tupleText ts).length ≤ piled ts + 3 := by
  have z1 : ("(" : Str).length = 1 := rfl
  have z2 : (",)" : Str).length = 2 := rfl
  have z3 : (")" : Str).length = 1 := rfl
  have hj : (Str.join ", " ts).length ≤ piled ts := by
    cases ts with
    | nil => exact Nat.le_refl 0
    | cons t r => have := join_length_add (t :: r) (by simp); omega
  unfold tupleText
  rw [Str.length_append, Str.length_append, z1]
  split
  · rw [z2]; omega
  · rw [z3]; omega
mutual
theorem shown_le : ∀ p : PyData, p.canLay0 = true → p.showable = true → p.shown.length ≤ szP p
  | .none, _, _ => by decide
  | .bool true, _, _ => by decide
  | .bool false, _, _ => by decide
  | .int i, _, h => by
    rw [PyData.showable] at h
    rw [PyData.shown, szP]
    exact PyProof.Rows.int_text_len_1921 (of_decide_eq_true h)
  | .str x, h, _ => by
    rw [PyData.canLay0] at h
    rw [PyData.shown, szP]
    exact reprText_le h
  | .list xs, h, h2 => by
    rw [PyData.canLay0] at h
    rw [PyData.showable] at h2
    rw [PyData.shown, szP]
    have := listText_le (PyData.shownAll xs)
    have := shownAll_le xs h h2
    omega
  | .tuple xs, h, h2 => by
    rw [PyData.canLay0] at h
    rw [PyData.showable] at h2
    rw [PyData.shown, szP]
    have := tupleText_le (PyData.shownAll xs)
    have := shownAll_le xs h h2
    omega
  | .dict _, h, _ => by rw [PyData.canLay0] at h; cases h
theorem shownAll_le : ∀ xs : List PyData, PyData.canLayAll0 xs = true → PyData.showableAll xs = true → piled (PyData.shownAll xs) ≤ szPs xs
  | [], _, _ => by rw [PyData.shownAll, szPs]; exact Nat.le_refl _
  | x :: xs, h, h2 => by
    rw [PyData.canLayAll0, Bool.and_eq_true] at h
    rw [PyData.showableAll, Bool.and_eq_true] at h2
    rw [PyData.shownAll, piled_cons, szPs]
    have := shown_le x h.1 h2.1
    have := shownAll_le xs h.2 h2.2
    omega
end
/-- what repr tells of data -/
def rpr (p : PyData) : Option Str := if SeqAt.shaped p && p.showable && decide (szP p ≤ 16000000) then some p.shown else none
theorem rpr_inv {p : PyData} {z : Str} (h : rpr p = some z) : SeqAt.shaped p = true ∧ p.showable = true ∧ szP p ≤ 16000000 ∧ z = p.shown := by
  unfold rpr at h
  split at h
  · rename_i hb
    rw [Bool.and_eq_true, Bool.and_eq_true] at hb
    cases h
    exact ⟨hb.1.1, hb.1.2, of_decide_eq_true hb.2, rfl⟩
  · cases h
def rRpr (K : PySem.W.Frag) : List V → Hp → VK → Prop := fun xs H Q => ∃ x p z, xs = [x] ∧ Dp K H x p ∧ rpr p = some z ∧ Q (.str z) H
theorem call_repr {X : Cx} (hu : X.A.units + 66 < cLine) (hg : X.A.guards = some []) : CallR X (.builtin "repr") (rRpr X.K) := by
  intro pins s σ H xs us Q I r h
  obtain ⟨x, p, z, rfl, hd, e, q⟩ := h
  obtain ⟨sh, sw, sz, rfl⟩ := rpr_inv e
  obtain ⟨u, rfl, ru⟩ := vals1 r
  have hz : p.shown.length ≤ sizeLine := Nat.le_trans (shown_le p (SeqAt.canLay_of_shaped sh) sw) (Nat.le_trans sz (by decide))
  cases hd with
  | non => cases ru; exact PySem.P.repr_of_none ⟨.str _, H, I.tok _, ⟨_, rfl⟩, q⟩
  | bl b => cases ru; exact PySem.P.repr_of_bool ⟨.str _, H, I.tok _, ⟨_, rfl⟩, by cases b <;> exact q⟩
  | int i =>
    obtain ⟨t, rfl⟩ := ru
    rw [PyData.showable] at sw
    exact PySem.P.repr_of_int (of_decide_eq_true sw) ⟨.str _, H, I.tok _, ⟨_, rfl⟩, q⟩
  | str y =>
    obtain ⟨t, rfl⟩ := ru
    exact PySem.P.repr_of_str ⟨.str _, H, I.tok _, ⟨_, rfl⟩, q⟩ hz
  | lst a b =>
    obtain ⟨as, rd⟩ := Dp.reads I _ _ u (.lst a b) ru
    cases ru
    exact repr_of_reads' rd sw (PyData.noDict_hsm (PyData.hasDict_of_canLay _ (SeqAt.canLay_of_shaped sh))) hg (by have := SeqAt.depth_of_shaped sh; omega) (fun _ _ e => e) (fun h' t tk hk => ⟨.str _, H, I.kept hk, ⟨_, rfl⟩, q⟩) hz
  | tup a b =>
    obtain ⟨as, rd⟩ := Dp.reads I _ _ u (.tup a b) ru
    cases ru
    exact repr_of_reads' rd sw (PyData.noDict_hsm (PyData.hasDict_of_canLay _ (SeqAt.canLay_of_shaped sh))) hg (by have := SeqAt.depth_of_shaped sh; omega) (fun _ _ e => e) (fun h' t tk hk => ⟨.str _, H, I.kept hk, ⟨_, rfl⟩, q⟩) hz
def gRpr : Og1 := fun ds C => match ds with
  | [d] => (py C 66 d).bind fun p => (rpr p).map fun z => (.str z, C)
  | _ => none
theorem cgRpr {K : PySem.W.Frag} : CG K (rRpr K) gRpr := by
  intro ad H C ds vs z C' hh rs e Q q
  unfold gRpr at e
  split at e
  · obtain ⟨p, e1, e⟩ := bind_inv e
    cases e2 : rpr p with
    | none => rw [e2] at e; cases e
    | some y =>
      rw [e2] at e
      cases e
      cases rs with
      | cons r1 r2 =>
        cases r2
        exact ⟨_, p, y, rfl, py_dp hh _ _ _ _ e1 r1, e2, q _ _ (.intro hh (.str _))⟩
  · cases e
section
variable {k : Nat} {X : Cx} {W : WX} {p pos : Pos} {e : Expr} {fs : Fa}
theorem cRpr (c : Ctx (k + 1) X W) (hg : Gl X "repr") (hm : X.mg "repr" = none) (ha : CA X W [e] fs) (he : starEach [e] X.env = (false, eval e X.env) :: starEach [] X.env := by rfl) : CE X W (.Call (.Name "repr" p) [e] [] pos) (dCB gRpr fs) :=
  cCB (call_repr (by have := c.room.un; omega) c.gd) cgRpr hg hm (by decide +kernel) ha (by decide) (by decide) he
end
end Cl
set_option maxHeartbeats 4000000
/-! Cl, part L: xs[::-1] of lists and of tuples. -/
namespace Cl
open PySem PySem.Spec PyProof.Rows L2
theorem fm_congr {α β : Type} {f g : α → Option β} : ∀ l : List α, (∀ x ∈ l, f x = g x) → l.filterMap f = l.filterMap g
  | [], _ => rfl
  | x :: l, h => by rw [List.filterMap_cons, List.filterMap_cons, h x List.mem_cons_self, fm_congr l fun y hy => h y (List.mem_cons_of_mem _ hy)]
section
variable {prog : Program} {w : World} {A : Around} {E : Value → Shared → Prop} {s : Shared}
theorem applied_rev {sl : Addr} {vs : Value} {n : Nat} {Q : Int × Int × Nat → Shared → Prop} (hs : s.heap.IsSliceOf sl .none .none vs) (pv : IsPart vs (some (-1))) (h : Q ((n : Int) - 1, -1, n) s) :
    wpAny (model prog w) A (Builtin.Slice.sliceApplied (.ref sl) (pure (n : Int))) Q E s := by
  obtain ⟨os, hos, _, hds⟩ := id hs
  unfold Builtin.Slice.sliceApplied Builtin.Slice.sliceFields
  apply wpAny_bind
  apply wpAny_bind
  apply wpAny_field hos hds (x := .none) rfl
  apply wpAny_bind
  apply wpAny_field hos hds (x := .none) rfl
  apply wpAny_bind
  apply wpAny_field hos hds (x := vs) rfl
  apply wpAny_pure
  apply wpAny_bind
  apply HT.slicePart_ pv
  show wpAny _ _ (if ((-1 : Int) == 0) = true then _ else _) _ _ s
  rw [if_neg (by decide)]
  apply wpAny_bind
  apply HT.slicePart_ .none
  apply wpAny_bind
  apply HT.slicePart_ .none
  apply wpAny_bind
  apply wpAny_pure
  show wpAny _ _ (pure ((n : Int) - 1, (-1 : Int), Builtin.Slice.slicePlaces ((n : Int) - 1) (-1) (-1))) _ _ s
  have e : Builtin.Slice.slicePlaces ((n : Int) - 1) (-1) (-1) = n := by
    unfold Builtin.Slice.slicePlaces
    rw [if_neg (by decide)]
    split
    · rw [show (- -1 : Int) = 1 by decide, Int.ediv_one]; omega
    · omega
  rw [e]
  exact wpAny_pure h
theorem pick_rev (xs : Array Value) : ((List.range xs.size).filterMap fun (m : Nat) => xs[((xs.size : Int) - 1 + (m : Int) * (-1)).toNat]?).toArray = xs.toList.reverse.toArray := by
  have e : ∀ m ∈ List.range xs.size, xs[((xs.size : Int) - 1 + (m : Int) * (-1)).toNat]? = xs[xs.size - 1 - m]? := by
    intro m hm
    have := List.mem_range.mp hm
    have : ((xs.size : Int) - 1 + (m : Int) * (-1)).toNat = xs.size - 1 - m := by omega
    rw [this]
  rw [fm_congr _ e]
  have e2 : (fun m => xs[xs.size - 1 - m]?) = (fun x => xs[x]?) ∘ fun k => xs.size - 1 - k := rfl
  rw [e2, ← List.filterMap_map, PySem.W.krv_range, List.filterMap_reverse, PySem.W.krv_all]
theorem getItem_rev {t sl : Addr} {its : Array Value} {vs : Value} {Q : Value → Shared → Prop} (ht : IsTup s.heap t its) (hs : s.heap.IsSliceOf sl .none .none vs) (pv : IsPart vs (some (-1))) (hz : its.size ≤ sizeLine)
    (h : Q (.ref s.heap.objs.size) { s with heap := s.heap.push { cls := .type "tuple", data := .seq its.toList.reverse.toArray } }) : wpAny (model prog w) A (getItem (.ref t) (.ref sl)) Q E s := by
  have so : sizeOk (.seq its.toList.reverse.toArray) := by
    show its.toList.reverse.toArray.size ≤ sizeLine
    rw [List.size_toArray, List.length_reverse, Array.length_toList]
    exact hz
  obtain ⟨os, hos, hcs, hds⟩ := id hs
  unfold getItem
  try with_reducible refine wpAny_holding ?_
  first | refine wpAny_bind (wpAny_pure ?_) | skip
  apply wpAny_bind
  refine wpAny_sequenceKey ht.typeIs (by decide) ?_
  apply wpAny_bind
  refine wpAny_callSpecial?_slot (name := Str.ofString "__getitem__") ht.typeIs PyProof.Rows.slot_tuple_getitem ?_
  refine wpAny_call_entry PyProof.Rows.slot_tuple_getitem ht.typeIs PyProof.Rows.entry_tuple_getitem ?_ (PyProof.Rows.args_tuple_getitem _ _)
  show wpAny _ _ (Builtin.Tuple.tupleItemsOf (.ref t) >>= _) _ _ s
  apply wpAny_bind
  apply PyProof.Rows.tupleItemsOf_ ht
  apply wpAny_bind
  have hT : s.TypeIs (.ref sl) "slice" := ⟨os, hos, hcs⟩
  apply wpAny_typeOf hT
  rw [if_pos (by decide)]
  apply wpAny_bind
  apply applied_rev hs pv
  have no : ¬ ((((its.size : Int) - 1) == 0 && (-1 : Int) == 1 && its.size == its.size) = true) := by
    intro q
    rw [Bool.and_eq_true, Bool.and_eq_true] at q
    exact absurd q.1.2 (by decide)
  show wpAny _ _ (if (((its.size : Int) - 1) == 0 && (-1 : Int) == 1 && its.size == its.size) = true then _ else _) _ _ s
  rw [if_neg no, pick_rev]
  first
    | exact wpAny_bind (m := Builtin.Tuple.tupleExact _) (wpAny_newObj_type (wpAny_pure ⟨_, rfl, wpAny_pure h⟩) so)
    | exact wpAny_bind (m := Builtin.Tuple.tupleExact _) (wpAny_newObj_type (wpAny_bind (wpAny_pure (wpAny_pure ⟨_, rfl, wpAny_pure h⟩))) so)
    | exact wpAny_bind (wpAny_bind (m := Builtin.Tuple.tupleExact _) (wpAny_newObj_type (wpAny_pure (wpAny_pure ⟨_, rfl, wpAny_pure h⟩)) so))
    | exact wpAny_bind (wpAny_bind (m := Builtin.Tuple.tupleExact _) (wpAny_newObj_type (wpAny_pure ⟨_, rfl, wpAny_pure h⟩) so))
end
section
variable {k : Nat} {X : Cx} {W : WX} {e : Expr} {kk : Nat} {p1 p2 p3 pos : Pos} {fe : Fe}
def tRevT (K : PySem.W.Frag) (te : TE) : TE := fun σ H Q => te σ H fun x H1 => ∃ a xs, x = .ref a ∧ SqT K H1 a xs ∧ ∀ p, H1 p = none → Q (.ref p) (upd H1 p (.tup xs.reverse))
theorem pe_revT {te : TE} (he : PE X e te) : PE X (.Subscript e (.Slice none none (some (.UnaryOp .USub (.Constant (.int 1) kk p1) p2)) p3) pos) (tRevT X.K te) := by
  constructor
  intro pins s σ H Q I h
  apply Subscript_
  refine thn (he.run pins s σ H _ I h) ?_
  intro v s1 ⟨x, H1, I1, r1, a, xs, ex, hx, q⟩
  subst ex
  cases r1
  have part : PO X (some (.UnaryOp .USub (.Constant (.int 1) kk p1) p2)) (tPart (tUn (rU fun i => .int (-i)) (tC (.int 1)))) := po_some (pe_un un_neg pe_int)
  apply wpAny_Slice
  rw [evalPart_none]
  apply wpAny_pure
  apply wpAny_pure
  refine thn (part.run pins s1 σ H1 (fun o H4 => o = some (-1) ∧ H4 = H1) I1 ⟨1, rfl, -1, rfl, rfl, rfl⟩) ?_
  intro vs s4 ⟨o, H4, I4, ps, eo, e4⟩
  subst eo
  subst e4
  have I5 : Inv X pins σ H4 { s4 with heap := s4.heap.push { cls := .type "slice", data := .fields #[.none, .none, vs] } } := I4.kept (t' := s4.toks) fun b ob z => Heap.get?_push_of_some _ z
  obtain ⟨its, r, ht, hz⟩ := I5.tuple hx
  have hl := r.length
  show wpAny (model X.prog X.w) X.A (subscriptTail e (.Slice none none (some (.UnaryOp .USub (.Constant (.int 1) kk p1) p2)) p3) (.ref a) (.ref s4.heap.objs.size)) (EP X pins σ Q) X.xe _
  refine tail_any (ops := [.ref a, .ref s4.heap.objs.size]) ht.typeIs PyProof.Rows.slot_tuple_getitem.lookup ?_ (by with_unfolding_all rfl)
  refine getItem_rev ht (Heap.IsSliceOf.new _ .none .none vs) ps (by rw [List.size_toArray]; omega) ?_
  refine ⟨.ref _, _, I5.laid (t' := s4.toks) (o := .tup xs.reverse) (fun b ob z => Heap.get?_push_of_some _ z) (Nat.le_refl _) ?_, rfl, q _ (I5.hok.fresh (Nat.le_refl _))⟩
  refine ⟨by rw [List.length_reverse]; exact hz, _, r.reverse, ?_⟩
  exact IsTup.new _ _
def revO (d : D) (C1 : CH) : Res D := match d with
  | .tup ds => .ok (.tup ds.reverse) C1
  | _ => match itemsOf C1 d with
    | some ds => .ok (.ref C1.length) (C1 ++ [.lst ds.reverse])
    | none => .bad
def dRev (f : Fe) : Fe := fun sc C => (f sc C).bind revO
theorem cRev (he : CE X W e fe) : CE X W (.Subscript e (.Slice none none (some (.UnaryOp .USub (.Constant (.int 1) kk p1) p2)) p3) pos) (dRev fe) := by
  refine PE_imp (PE_or (pe_revL he) (pe_revT he)) fun σ H Q ⟨ad, sc, C, hs, hh, h⟩ => ?_
  have h : RP X.K W ad H σ ((fe sc C).bind revO) _ := h
  cases e1 : fe sc C with
  | bad => rw [e1] at h; exact h.elim
  | ex x C1 => rw [e1] at h; exact .inl ⟨ad, sc, C, hs, hh, by rw [e1]; exact h⟩
  | ok d C1 =>
    rw [e1] at h
    simp only [Res.bind_ok] at h
    unfold revO at h
    by_cases z : isTupD d = true
    · refine .inr ⟨ad, sc, C, hs, hh, ?_⟩
      rw [e1]
      intro v H1 ⟨ad1, E1, hh1, r1⟩
      cases r1 with
      | tup g1 g2 => exact ⟨_, _, rfl, .of g1, fun p hp => h _ _ ⟨ad1, E1.trans (ext_new hp), hh1.new hp, .tup upd_same (g2.reverse.mono (ext_new hp))⟩⟩
      | _ => cases z
    · refine .inl ⟨ad, sc, C, hs, hh, ?_⟩
      rw [e1]
      intro v H1 ⟨ad1, E1, hh1, r1⟩
      split at h
      · exact absurd rfl z
      · split at h
        · rename_i ds e2
          obtain ⟨p, vs, rfl, hq, rr⟩ := items_sq hh1 r1 e2
          rcases hq with hq | hq
          · exact ⟨p, vs, rfl, hq, fun p hp => h _ _ ⟨ad1 ++ [p], E1.trans (ext_alloc hp), hh1.alloc (o := .lst ds.reverse) hp ⟨_, rfl, rr.reverse.mono (ext_alloc hp)⟩, .ref (alloc_at hh1)⟩⟩
          · cases r1 with
            | tup g1 g2 => exact absurd rfl z
            | fl g1 g2 => cases e2; exact ⟨_, _, rfl, g1.sq, fun p hp => h _ _ ⟨ad1 ++ [p], E1.trans (ext_alloc hp), hh1.alloc (o := .lst ds.reverse) hp ⟨_, rfl, g2.reverse.mono (ext_alloc hp)⟩, .ref (alloc_at hh1)⟩⟩
            | ref ha =>
              simp only [itemsOf] at e2
              split at e2
              · rename_i e5
                cases e2
                obtain ⟨w, g1, ws, rfl, g2⟩ := hh1.obj _ _ p e5 ha
                exact ⟨_, _, rfl, .of g1, fun p hp => h _ _ ⟨ad1 ++ [p], E1.trans (ext_alloc hp), hh1.alloc (o := .lst ds.reverse) hp ⟨_, rfl, g2.reverse.mono (ext_alloc hp)⟩, .ref (alloc_at hh1)⟩⟩
              · cases e2
            | _ => cases e2
        · exact h.elim
end
end Cl
set_option maxHeartbeats 4000000
/-! Cl, part X: what denotations do: lemmas for going through them. -/
namespace Cl
open PySem L2

theorem atI_n {α : Type} (xs : List α) (n : Nat) : atI xs (n : Int) = xs[n]? := by
  unfold atI ixN
  rw [if_pos (Int.natCast_nonneg n)]
  by_cases h : (n : Int) < xs.length
  · rw [if_pos h]; simp
  · rw [if_neg h, List.getElem?_eq_none (by omega)]; rfl
theorem atI_0 {α : Type} (xs : List α) : atI xs 0 = xs[0]? := atI_n xs 0
theorem atI_1 {α : Type} (xs : List α) : atI xs 1 = xs[1]? := atI_n xs 1
theorem atI_2 {α : Type} (xs : List α) : atI xs 2 = xs[2]? := atI_n xs 2
theorem atI_3 {α : Type} (xs : List α) : atI xs 3 = xs[3]? := atI_n xs 3
theorem atI_4 {α : Type} (xs : List α) : atI xs 4 = xs[4]? := atI_n xs 4
theorem atI_5 {α : Type} (xs : List α) : atI xs 5 = xs[5]? := atI_n xs 5
theorem atI_m1 {α : Type} (xs : List α) (x : α) : atI (xs ++ [x]) (-1) = some x := atI_last xs x
theorem oSub2_tup (ds : List D) (i : Int) (C : CH) : oSub2 (.tup ds) (.int i) C = (atI ds i).map fun w => (w, C) := by
  unfold oSub2 orO oIx
  simp only [itemsOf, Option.bind_some]
  cases atI ds i <;> rfl
theorem oSub2_fl (ds : List D) (i : Int) (C : CH) : oSub2 (.fl ds) (.int i) C = (atI ds i).map fun w => (w, C) := by
  unfold oSub2 orO oIx
  simp only [itemsOf, Option.bind_some]
  cases atI ds i <;> rfl
theorem oSub2_lst {C : CH} {n : Nat} {ds : List D} (h : C[n]? = some (.lst ds)) (i : Int) : oSub2 (.ref n) (.int i) C = (atI ds i).map fun w => (w, C) := by
  unfold oSub2 orO oIx oDGet dGetO
  simp only [itemsOf, h, Option.bind_some]
  cases atI ds i <;> rfl
theorem oSub2_dK {C : CH} {n : Nat} {kvs : List (Key × D)} (h : C[n]? = some (.dK kvs)) {d : D} {k : Key} (hk : keyOf d = some k) : oSub2 (.ref n) d C = (valD kvs k).map fun w => (w, C) := by
  have e : oIx (.ref n) d C = none := by
    unfold oIx
    split
    · simp only [itemsOf, h]; rfl
    · rfl
  unfold oSub2 orO
  rw [e]
  unfold oDGet dGetO
  simp only [h, hk, Option.map_some, Option.orElse_none]
  cases valD kvs k <;> rfl
theorem oAdd_i (i j : Int) (C : CH) : oAdd (.int i) (.int j) C = some (.int (i + j), C) := rfl
theorem oSub_i (i j : Int) (C : CH) : oSub (.int i) (.int j) C = some (.int (i - j), C) := rfl
theorem oMul_i {i j : Int} (C : CH) (h : bMul i j = true) : oMul (.int i) (.int j) C = some (.int (i * j), C) := by
  simp only [oMul, pureO, iI, h, if_true, Option.map_some]
theorem oDiv_i {i j : Int} (C : CH) (h : bDiv i j = true) : oDiv (.int i) (.int j) C = some (.int (i / j), C) := by
  simp only [oDiv, pureO, iI, h, if_true, Option.map_some]
theorem oMod_i {i j : Int} (C : CH) (h : 0 < j) : oMod (.int i) (.int j) C = some (.int (i % j), C) := by
  simp only [oMod, pureO, iI, decide_eq_true h, if_true, Option.map_some]
theorem oPow_i {i j : Int} (C : CH) (h : CPow i j) : oPow (.int i) (.int j) C = some (.int (i ^ j.toNat), C) := by
  simp only [oPow, pureO, iI, show bPow i j = true from ck_of h, if_true, Option.map_some]
theorem bM (i j : Int) (h : -(2 ^ 64) < i) (h2 : i < 2 ^ 64) : bMul i j = true := ck_of (.inl ⟨h, h2⟩)
theorem bM2 (i j : Int) (h : -(2 ^ 64) < j) (h2 : j < 2 ^ 64) : bMul i j = true := ck_of (.inr ⟨h, h2⟩)
theorem bD (i j : Int) (h : 0 < j) (h2 : j < 1073741824) : bDiv i j = true := ck_of ⟨h, h2⟩
theorem oLt_i (i j : Int) (C : CH) : oLt (.int i) (.int j) C = some (.bl (decide (i < j)), C) := rfl
theorem oLe_i (i j : Int) (C : CH) : oLe (.int i) (.int j) C = some (.bl (decide (i ≤ j)), C) := rfl
theorem oGt_i (i j : Int) (C : CH) : oGt (.int i) (.int j) C = some (.bl (decide (j < i)), C) := rfl
theorem oGe_i (i j : Int) (C : CH) : oGe (.int i) (.int j) C = some (.bl (decide (j ≤ i)), C) := rfl
theorem oEq_i (i j : Int) (C : CH) : oEq (.int i) (.int j) C = some (.bl (decide (i = j)), C) := rfl
theorem oNe_i (i j : Int) (C : CH) : oNe (.int i) (.int j) C = some (.bl (!decide (i = j)), C) := rfl
theorem oEq_s (i j : Str) (C : CH) : oEq (.str i) (.str j) C = some (.bl (decide (i = j)), C) := rfl
theorem oNe_s (i j : Str) (C : CH) : oNe (.str i) (.str j) C = some (.bl (!decide (i = j)), C) := rfl

/-- a for, by an invariant; every turn goes on -/
theorem fr_inv {chk : CH → Prop} {g : Fg} {b : Fs} : ∀ (ds : List D) (P : Nat → Sc → CH → Prop) (sc : Sc) (C : CH), P 0 sc C → (∀ i sc C, P i sc C → chk C) →
    (∀ i d sc C, ds[i]? = some d → P i sc C → ∃ sc1, g d sc = some sc1 ∧ ∃ sc2 C2, (b sc1 C = .nx sc2 C2 ∨ b sc1 C = .ct sc2 C2) ∧ P (i + 1) sc2 C2) → ∃ sc' C', fr chk g b ds sc C = .nx sc' C' ∧ P ds.length sc' C'
  | [], P, sc, C, h0, hc, _ => ⟨sc, C, by rw [fr, if_pos (hc 0 sc C h0)], h0⟩
  | d :: ds, P, sc, C, h0, hc, hs => by
    obtain ⟨sc1, e1, sc2, C2, e2, h2⟩ := hs 0 d sc C rfl h0
    obtain ⟨sc', C', e3, h3⟩ := fr_inv ds (fun i => P (i + 1)) sc2 C2 h2 (fun i => hc (i + 1)) (fun i d sc C hd hp => hs (i + 1) d sc C (by simpa using hd) hp)
    refine ⟨sc', C', ?_, h3⟩
    rw [fr, if_pos (hc 0 sc C h0), e1]
    simp only [optS_some]
    rcases e2 with e2 | e2 <;> simp only [e2] <;> exact e3
theorem sSeq_nx {g1 g2 : Fs} {sc sc1 : Sc} {C C1 : CH} (h : g1 sc C = .nx sc1 C1) : sSeq g1 g2 sc C = g2 sc1 C1 := by unfold sSeq; rw [h]; rfl
theorem sSeq_rt {g1 g2 : Fs} {sc : Sc} {C C1 : CH} {d : D} (h : g1 sc C = .rt d C1) : sSeq g1 g2 sc C = .rt d C1 := by unfold sSeq; rw [h]; rfl
theorem sIf_t {t : Ft} {g1 g2 : Fs} {sc : Sc} {C C1 : CH} (h : t sc C = .ok true C1) : sIf t g1 g2 sc C = g1 sc C1 := by unfold sIf; rw [h]; rfl
theorem sIf_f {t : Ft} {g1 g2 : Fs} {sc : Sc} {C C1 : CH} (h : t sc C = .ok false C1) : sIf t g1 g2 sc C = g2 sc C1 := by unfold sIf; rw [h]; rfl
theorem sAsg_eq {g : Fg} {f : Fe} {sc sc1 : Sc} {C C1 : CH} {d : D} (h : f sc C = .ok d C1) (e : g d sc = some sc1) : sAsg g f sc C = .nx sc1 C1 := by unfold sAsg; rw [h]; simp only [Res.st_ok, e, optS_some]
theorem sDrop_eq {f : Fe} {sc : Sc} {C C1 : CH} {d : D} (h : f sc C = .ok d C1) : sDrop f sc C = .nx sc C1 := by unfold sDrop; rw [h]; rfl
theorem sRet_eq {f : Fe} {sc : Sc} {C C1 : CH} {d : D} (h : f sc C = .ok d C1) : sRet f sc C = .rt d C1 := by unfold sRet; rw [h]; rfl
theorem sFor_eq {fi : Fi} {g : Fg} {b : Fs} {sc : Sc} {C C1 : CH} {S : Src} (h : fi sc C = .ok S C1) : sFor fi g b sc C = fr S.chk g b S.ds sc C1 := by unfold sFor; rw [h]; rfl
/-- appending to a heap -/
theorem get_new (C : CH) (o : O) : (C ++ [o])[C.length]? = some o := by simp
theorem get_old {C : CH} {n : Nat} {o x : O} (h : C[n]? = some x) : (C ++ [o])[n]? = some x := by rw [List.getElem?_append_left (List.getElem?_eq_some_iff.mp h).1]; exact h
theorem set_new (C : CH) (o o' : O) : (C ++ [o]).set C.length o' = C ++ [o'] := by simp
theorem set_old {C : CH} {n : Nat} (h : n < C.length) (o o' : O) : (C ++ [o]).set n o' = C.set n o' ++ [o] := by rw [List.set_append_left _ _ h]
theorem cuts_new {C G : CH} {d : D} (wf : Wf C) (h : d.bel C.length = true) : Cuts C (.ok d (C ++ G)) (.ok d C) :=
  .inr (.inr ⟨d, C ++ G, C.length, rfl, by rw [List.take_left], Nat.le_refl _, h, fun o ho => by rw [List.take_left] at ho; exact wf o ho⟩)
theorem atI_of {α : Type} {xs : List α} {i : Int} (h0 : 0 ≤ i) : atI xs i = xs[i.toNat]? := by
  obtain ⟨n, rfl⟩ := Int.eq_ofNat_of_zero_le h0
  rw [atI_n]
  rfl
/-- a comprehension whose parts make nothing -/
theorem lc_pure {chk : CH → Prop} {g : Fg} {t : Ft} {f : Fe} {sc : Sc} {C0 : CH} {bt : D → Bool} {hd : D → D} : ∀ (ds acc : List D), (∀ acc, chk (C0 ++ [.lst acc])) →
    (∀ d ∈ ds, ∀ acc, ∃ sc1, g d sc = some sc1 ∧ t sc1 (C0 ++ [.lst acc]) = .ok (bt d) (C0 ++ [.lst acc]) ∧ (bt d = true → f sc1 (C0 ++ [.lst acc]) = .ok (hd d) (C0 ++ [.lst acc]))) → acc.length + ds.length ≤ 1000000 →
    lc chk g t f C0.length sc ds (C0 ++ [.lst acc]) = some (.ref C0.length, C0 ++ [.lst (acc ++ (ds.filter bt).map hd)])
  | [], acc, hc, _, _ => by rw [lc, if_pos (hc acc)]; simp
  | d :: ds, acc, hc, ht, hl => by
    obtain ⟨sc1, e1, e2, e3⟩ := ht d List.mem_cons_self acc
    have ih := fun acc' => lc_pure ds acc' hc (fun d hd => ht d (List.mem_cons_of_mem _ hd))
    rw [lc, if_pos (hc acc), e1]
    simp only [Option.bind_some, e2, Res.opt_ok]
    cases hb : bt d with
    | false =>
      rw [if_neg Bool.false_ne_true, ih acc (by simp at hl; omega), List.filter_cons, hb]
      rfl
    | true =>
      have ep : pushD C0.length (hd d) (C0 ++ [.lst acc]) = some (C0 ++ [.lst (acc ++ [hd d])]) := by
        unfold pushD
        rw [get_new]
        simp only [List.length_cons] at hl
        simp only [if_pos (show acc.length ≤ 1000000 by omega), set_new]
      rw [if_pos rfl, e3 hb]
      simp only [Res.opt_ok, Option.bind_some, ep]
      rw [ih (acc ++ [hd d]) (by simp at hl ⊢; omega), List.filter_cons, hb]
      simp

open Classical in
noncomputable def relF (R : List D → CH → D → CH → Prop) : List D → CH → Res D := fun ds C => if h : ∃ p : D × CH, R ds C p.1 p.2 then .ok h.choose.1 h.choose.2 else .bad
theorem relF_eq {R : List D → CH → D → CH → Prop} {ds : List D} {C C' : CH} {d : D} (h : R ds C d C') (u : ∀ d2 C2, R ds C d2 C2 → d2 = d ∧ C2 = C') : relF R ds C = .ok d C' := by
  have e : ∃ p : D × CH, R ds C p.1 p.2 := ⟨(d, C'), h⟩
  unfold relF
  rw [dif_pos e]
  obtain ⟨h1, h2⟩ := u _ _ e.choose_spec
  rw [h1, h2]
theorem relF_cuts {R : List D → CH → D → CH → Prop} {F : List D → CH → Res D} {ds : List D} {C : CH} (h : ∀ d C', R ds C d C' → Cuts C (F ds C) (.ok d C')) : Cuts C (F ds C) (relF R ds C) := by
  unfold relF
  split
  · rename_i e
    exact h _ _ e.choose_spec
  · exact .inl rfl
/-- a for whose turns go on, and what it does to the slots and the heap turn by turn -/
theorem app_get {C : CH} {a b : O} : (C ++ [a] ++ [b])[C.length]? = some a := by simp
end Cl
set_option maxHeartbeats 4000000
/-! Printed by gen.py: the defs of the text as denotations. -/
namespace Lw
open PySem Cl

/-- 0 store, 1 winds, 2 found -/
noncomputable def g_wind_line : Fs :=
  (sSeq (sAsg (gN 2) (dLst dNil))
  (sSeq (sWh (dTest (dBin oNe (dVar 1) (dTup dNil))) (sSeq (sDrop (dBM isLst gApp (dVar 2) (dCons (dBin oSub2 (dVar 1) (dC (.int 1))) dNil)))
  (sAsg (gN 1) (dBin oSub2 (dBin oSub2 (dVar 0) (dBin oSub2 (dVar 1) (dC (.int 1)))) (dC (.int 4))))))
  (sRet (dCB gTup (dCons (dVar 2) dNil)))))

/-- 0 store, 1 winds -/
noncomputable def g_winds_of (F_wind_line : List D → CH → Res D) : Fs :=
  (sRet (dCall 2 F_wind_line (dCons (dVar 0) (dCons (dVar 1) dNil))))

/-- 0 store, 1 one, 2 other, 3 shared, 4 left, 5 entered -/
noncomputable def g_winds_way (F_wind_line : List D → CH → Res D) : Fs :=
  (sSeq (sPar 4 5 (dCons (dCall 2 F_wind_line (dCons (dVar 0) (dCons (dVar 1) dNil))) (dCons (dCall 2 F_wind_line (dCons (dVar 0) (dCons (dVar 2) dNil))) dNil)))
  (sSeq (sAsg (gN 3) (dC (.int 0)))
  (sSeq (sWh (dAnd (dTest (dBin oLt (dVar 3) (dCB (g2I minI) (dCons (dCB gLen2 (dCons (dVar 4) dNil)) (dCons (dCB gLen2 (dCons (dVar 5) dNil)) dNil))))) (dTest (dBin oEq (dBin oSub2 (dVar 4) (dBin oSub (dNeg (dC (.int 1))) (dVar 3))) (dBin oSub2 (dVar 5) (dBin oSub (dNeg (dC (.int 1))) (dVar 3)))))) (sAsg (gN 3) (dBin oAdd (dVar 3) (dC (.int 1)))))
  (sRet (dTup (dCons (dSl (dVar 4) dPN (dPS (dBin oSub (dCB gLen2 (dCons (dVar 4) dNil)) (dVar 3)))) (dCons (dRev (dSl (dVar 5) dPN (dPS (dBin oSub (dCB gLen2 (dCons (dVar 5) dNil)) (dVar 3))))) dNil)))))))

/-- 0 script, 1 k, 2 cells, 3 great, 4 begun, 5 cell -/
noncomputable def g__law_begun : Fs :=
  (sSeq (sAsg (gN 2) (dBin oAdd (dSl (dVar 0) (dPS (dVar 1)) dPN) (dSl (dVar 0) dPN (dPS (dVar 1)))))
  (sSeq (sAsg (gN 3) (dLc (iSeq (dVar 0)) (gN 5) (dTest (dBin oGe (dVar 5) (dBin oPow (dC (.int 10)) (dC (.int 18))))) (dVar 5) [5]))
  (sSeq (sAsg (gN 4) (dBin oAdd (dC (.int 61)) (dBin oMul (dC (.int 6)) (dVar 1))))
  (sSeq (sFor (iSeq (dVar 2)) (gN 5) (sAsg (gN 4) (dBin oMod (dCB gInt (dCons (dBin oAdd (dBin oMul (dVar 4) (dC (.int 48271))) (dVar 5)) dNil)) (dC (.int 2147483647)))))
  (sRet (dDct [((dC (.str "left")), (dIf (dTest (dBin oLt (dVar 1) (dCB gLen2 (dCons (dVar 3) dNil)))) (dBin oSub2 (dVar 3) (dVar 1)) (dC (.int 0)))), ((dC (.str "seed")), (dVar 4)), ((dC (.str "cells")), (dBin oAdd (dVar 2) (dLst (dCons (dBin oAdd (dBin oMul (dC (.int 47)) (dVar 1)) (dC (.int 19))) dNil)))), ((dC (.str "spot")), (dC (.int 0))), ((dC (.str "next")), (dC (.int 0)))]))))))

/-- 0 m, 1 below, 2 spot, 3 cell, 4 blend, 5 found, 6 cells, 7 added -/
noncomputable def g__law_draw : Fs :=
  (sSeq (sIf (dTest (dBin oGt (dBin oSub2 (dVar 0) (dC (.str "left"))) (dC (.int 0)))) (sSeq (sAsg (gN 5) (dBin oMod (dCB gInt (dCons (dBin oSub2 (dVar 0) (dC (.str "left"))) dNil)) (dVar 1)))
  (sSeq (sPut (dBin oDiv (dBin oSub2 (dVar 0) (dC (.str "left"))) (dVar 1)) (dVar 0) (dC (.str "left")))
  (sRet (dVar 5)))) sNx)
  (sSeq (sAsg (gN 2) (dBin oSub2 (dVar 0) (dC (.str "spot"))))
  (sSeq (sPut (dBin oAdd (dVar 2) (dC (.int 1))) (dVar 0) (dC (.str "spot")))
  (sSeq (sPar 6 7 (dCons (dBin oSub2 (dVar 0) (dC (.str "cells"))) (dCons (dBin oAdd (dBin oSub2 (dVar 0) (dC (.str "seed"))) (dBin oMul (dBin oMul (dC (.int 40503)) (dVar 2)) (dVar 2))) dNil)))
  (sSeq (sAsg (gN 3) (dBin oSub2 (dVar 6) (dBin oMod (dCB gInt (dCons (dVar 2) dNil)) (dCB gLen2 (dCons (dVar 6) dNil)))))
  (sSeq (sAsg (gN 4) (dBin oMod (dCB gInt (dCons (dBin oAdd (dBin oMul (dVar 3) (dBin oAdd (dBin oMul (dC (.int 2)) (dVar 2)) (dC (.int 3)))) (dVar 7)) dNil)) (dC (.int 2147483647))))
  (sSeq (sAsg (gN 4) (dBin oMod (dCB gInt (dCons (dBin oAdd (dBin oAdd (dBin oMul (dVar 4) (dVar 4)) (dBin oMul (dC (.int 69621)) (dVar 2))) (dBin oSub2 (dVar 0) (dC (.str "seed")))) dNil)) (dC (.int 2147483629))))
  (sRet (dBin oMod (dBin oDiv (dBin oMod (dCB gInt (dCons (dBin oAdd (dBin oMul (dVar 4) (dC (.int 48271))) (dVar 2)) dNil)) (dC (.int 2147483647))) (dC (.int 11))) (dVar 1))))))))))

/-- 0 m, 1 some -/
noncomputable def g__law_of (F__law_draw : List D → CH → Res D) : Fs :=
  (sRet (dBin oSub2 (dVar 1) (dCall 2 F__law_draw (dCons (dVar 0) (dCons (dCB gLen2 (dCons (dVar 1) dNil)) dNil)))))

/-- 0 m, 1 many, 2 k, 3 store, 4 known, 5 lap, 6 rest -/
noncomputable def g__law_store (F__law_draw : List D → CH → Res D) (F__law_of : List D → CH → Res D) : Fs :=
  (sSeq (sPar 3 4 (dCons (dLst (dCons (dTup (dCons (dC (.str "fn")) (dCons (dTup (dCons (dC (.int 0)) dNil)) (dCons (dTup dNil) dNil)))) (dCons (dTup (dCons (dC (.str "box")) (dCons (dC (.int 5)) dNil))) dNil))) (dCons (dLst (dCons (dTup dNil) dNil)) dNil)))
  (sSeq (sFor (iR1 (dCons (dVar 1) dNil)) (gN 2) (sSeq (sFor (iR1 (dCons (dCall 2 F__law_draw (dCons (dVar 0) (dCons (dC (.int 3)) dNil))) dNil)) (gN 5) (sDrop (dBM isLst gApp (dVar 3) (dCons (dCall 2 F__law_of (dCons (dVar 0) (dCons (dLst (dCons (dTup (dCons (dC (.str "pair")) (dCons (dTup (dCons (dC (.str "thing")) (dCons (dC (.int 0)) dNil))) (dCons (dVar 2) dNil)))) (dCons (dTup (dCons (dC (.str "box")) (dCons (dTup dNil) dNil))) (dCons (dTup (dCons (dC (.str "fn")) (dCons (dTup (dCons (dC (.int 0)) (dCons (dVar 2) dNil))) (dCons (dTup (dCons (dTup (dCons (dC (.int 1)) (dCons (dC (.int 7)) dNil))) dNil)) dNil)))) dNil)))) dNil))) dNil))))
  (sSeq (sAsg (gN 6) (dIf (dTest (dBin oGt (dCall 2 F__law_draw (dCons (dVar 0) (dCons (dC (.int 3)) dNil))) (dC (.int 0)))) (dBin oSub2 (dVar 4) (dNeg (dC (.int 1)))) (dCall 2 F__law_of (dCons (dVar 0) (dCons (dVar 4) dNil)))))
  (sSeq (sDrop (dBM isLst gApp (dVar 3) (dCons (dTup (dCons (dC (.str "wind")) (dCons (dTup (dCons (dVar 2) dNil)) (dCons (dTup (dCons (dC (.str "thing")) (dCons (dC (.int 0)) dNil))) (dCons (dTup (dCons (dC (.str "thing")) (dCons (dC (.int 0)) dNil))) (dCons (dVar 6) dNil)))))) dNil)))
  (sDrop (dBM isLst gApp (dVar 4) (dCons (dTup (dCons (dC (.str "thing")) (dCons (dBin oSub (dCB gLen2 (dCons (dVar 3) dNil)) (dC (.int 1))) dNil))) dNil)))))))
  (sRet (dTup (dCons (dCB gTup (dCons (dVar 3) dNil)) (dCons (dVar 4) dNil))))))

/-- 0 store, 1 value, 2 found, 3 lap -/
noncomputable def g__law_list : Fs :=
  (sSeq (sAsg (gN 2) (dLst dNil))
  (sSeq (sFor (iR1 (dCons (dCB gLen2 (dCons (dVar 0) dNil)) dNil)) (gN 3) (sIf (dTest (dBin oNe (dVar 1) (dTup dNil))) (sSeq (sDrop (dBM isLst gApp (dVar 2) (dCons (dBin oSub2 (dVar 1) (dC (.int 1))) dNil)))
  (sAsg (gN 1) (dBin oSub2 (dBin oSub2 (dVar 0) (dBin oSub2 (dVar 1) (dC (.int 1)))) (dC (.int 4))))) sNx))
  (sRet (dVar 2))))

/-- 0 one, 1 other, 2 left, 3 entered, 4 spot -/
noncomputable def g__law_way : Fs :=
  (sSeq (sAsg (gN 2) (dLc (iSeq (dVar 0)) (gN 4) (dTest (dBin (oIn2 true) (dVar 4) (dVar 1))) (dVar 4) [4]))
  (sSeq (sAsg (gN 3) (dLc (iSeq (dVar 1)) (gN 4) (dTest (dBin (oIn2 true) (dVar 4) (dVar 0))) (dVar 4) [4]))
  (sRet (dTup (dCons (dCB gTup (dCons (dVar 2) dNil)) (dCons (dCB gTup (dCons (dRev (dVar 3)) dNil)) dNil))))))

/-- 0 script, 1 k, 2 m, 3 lap, 4 end, 5 store, 6 known, 7 one, 8 other, 9 first, 10 second -/
noncomputable def g_law (F_winds_way : List D → CH → Res D) (F_winds_of : List D → CH → Res D) (F__law_way : List D → CH → Res D) (F__law_list : List D → CH → Res D) (F__law_of : List D → CH → Res D) (F__law_store : List D → CH → Res D) (F__law_draw : List D → CH → Res D) (F__law_begun : List D → CH → Res D) : Fs :=
  (sSeq (sFor (iR1 (dCons (dC (.int 3)) dNil)) (gN 1) (sSeq (sAsg (gN 2) (dCall 2 F__law_begun (dCons (dVar 0) (dCons (dVar 1) dNil))))
  (sSeq (sAsg (gT 2 (gsC (gN 5) (gsC (gN 6) gsN))) (dCall 2 F__law_store (dCons (dVar 2) (dCons (dBin oAdd (dC (.int 1)) (dCall 2 F__law_draw (dCons (dVar 2) (dCons (dC (.int 40)) dNil)))) dNil))))
  (sSeq (sFor (iR1 (dCons (dC (.int 6)) dNil)) (gN 3) (sSeq (sPar 7 8 (dCons (dCall 2 F__law_of (dCons (dVar 2) (dCons (dVar 6) dNil))) (dCons (dCall 2 F__law_of (dCons (dVar 2) (dCons (dVar 6) dNil))) dNil)))
  (sSeq (sPar 9 10 (dCons (dCall 2 F__law_list (dCons (dVar 5) (dCons (dVar 7) dNil))) (dCons (dCall 2 F__law_list (dCons (dVar 5) (dCons (dVar 8) dNil))) dNil)))
  (sSeq (sIf (dTest (dBin oNe (dCB gRpr (dCons (dCall 2 F_winds_of (dCons (dVar 5) (dCons (dVar 7) dNil))) dNil)) (dCB gRpr (dCons (dCB gTup (dCons (dVar 9) dNil)) dNil)))) (sRet (dC (.bl false))) sNx)
  (sSeq (sIf (dTest (dBin oNe (dCB gRpr (dCons (dCall 3 F_winds_way (dCons (dVar 5) (dCons (dVar 7) (dCons (dVar 8) dNil)))) dNil)) (dCB gRpr (dCons (dCall 2 F__law_way (dCons (dVar 9) (dCons (dVar 10) dNil))) dNil)))) (sRet (dC (.bl false))) sNx)
  (sIf (dTest (dBin oNe (dCB gRpr (dCons (dCall 3 F_winds_way (dCons (dVar 5) (dCons (dVar 7) (dCons (dVar 7) dNil)))) dNil)) (dCB gRpr (dCons (dTup (dCons (dTup dNil) (dCons (dTup dNil) dNil))) dNil)))) (sRet (dC (.bl false))) sNx))))))
  (sSeq (sAsg (gN 4) (dBin oSub2 (dVar 6) (dNeg (dC (.int 1)))))
  (sSeq (sIf (dTest (dBin oNe (dCB gRpr (dCons (dCall 3 F_winds_way (dCons (dVar 5) (dCons (dVar 4) (dCons (dTup dNil) dNil)))) dNil)) (dCB gRpr (dCons (dTup (dCons (dCall 2 F_winds_of (dCons (dVar 5) (dCons (dVar 4) dNil))) (dCons (dTup dNil) dNil))) dNil)))) (sRet (dC (.bl false))) sNx)
  (sIf (dTest (dBin oNe (dCB gRpr (dCons (dCall 3 F_winds_way (dCons (dVar 5) (dCons (dTup dNil) (dCons (dVar 4) dNil)))) dNil)) (dCB gRpr (dCons (dTup (dCons (dTup dNil) (dCons (dRev (dCall 2 F_winds_of (dCons (dVar 5) (dCons (dVar 4) dNil)))) dNil))) dNil)))) (sRet (dC (.bl false))) sNx)))))))
  (sRet (dC (.bl true))))

end Lw
set_option maxHeartbeats 4000000
namespace Lw
open PySem Cl L2

/-! ### draws -/
def mD (l s : Int) (c : Nat) (p : Int) : List (Key × D) := [(.inr "left", .int l), (.inr "seed", .int s), (.inr "cells", .ref c), (.inr "spot", .int p), (.inr "next", .int 0)]
theorem mD_left (l s : Int) (c : Nat) (p : Int) : valD (mD l s c p) (.inr "left") = some (.int l) := rfl
theorem mD_seed (l s : Int) (c : Nat) (p : Int) : valD (mD l s c p) (.inr "seed") = some (.int s) := rfl
theorem mD_cells (l s : Int) (c : Nat) (p : Int) : valD (mD l s c p) (.inr "cells") = some (.ref c) := rfl
theorem mD_spot (l s : Int) (c : Nat) (p : Int) : valD (mD l s c p) (.inr "spot") = some (.int p) := rfl
theorem mD_put_left (l s : Int) (c : Nat) (p x : Int) : putD (mD l s c p) (.inr "left") (.int x) = mD x s c p := rfl
theorem mD_put_spot (l s : Int) (c : Nat) (p x : Int) : putD (mD l s c p) (.inr "spot") (.int x) = mD l s c x := rfl
theorem mD_len (l s : Int) (c : Nat) (p : Int) : (mD l s c p).length ≤ 1000000 := by show 5 ≤ 1000000; decide
theorem kS (x : Str) : keyOf (.str x) = some (.inr x) := rfl
theorem setO_m {C : CH} {r : Nat} {kvs : List (Key × D)} (h : C[r]? = some (.dK kvs)) (hz : kvs.length ≤ 1000000) {i v : D} {k : Key} (hk : keyOf i = some k) : setO (.ref r) i v C = some (C.set r (.dK (putD kvs k v))) := by
  simp only [setO, h, if_pos hz, hk, Option.map_some]
section
variable {C : CH} {r c : Nat} {l s p b : Int}
theorem draw_left (hC : C[r]? = some (.dK (mD l s c p))) (hl : 0 < l) (hb : 0 < b) (hb2 : b < 1073741824) : fnBody 8 g__law_draw [.ref r, .int b] C = .ok (.int (l % b)) (C.set r (.dK (mD (l / b) s c p))) := by
  have hd : bDiv l b = true := bD _ _ hb hb2
  have g1 := oSub2_dK hC (kS "left")
  have s1 : ∀ v, setO (.ref r) (.str "left") v C = _ := fun v => setO_m hC (mD_len _ _ _ _) (kS "left")
  simp only [fnBody, startD, sSeq, sIf, sAsg, sPut, sRet, sRetN, sDrop, sNx, sPar, sFor, dTest, dBin, dVar, dC, dCB, dCons, dNil, dTup, dLst, dSl, dPN, dPS, dRev, revO, dBM, isLst, dIf, dAnd, dOr, dNot, dTru, truB, dCall, dNeg, dNewK, dNewT, gN, gT, gsN, gsC, iR1, iR2, iSeq, srcOf, itemsOf, List.map_cons, List.map_nil, List.length_cons, List.length_nil, Nat.reduceAdd, Nat.reduceSub, Nat.reduceLeDiff, List.replicate_succ, List.replicate_zero, List.cons_append, List.nil_append, List.getElem?_cons_zero, List.getElem?_cons_succ, List.set_cons_zero, List.set_cons_succ, Res.bind_ok, Res.st_ok, Option.map_some, Option.bind_some, Res.lift_some, oAdd_i, oSub_i, oLt_i, oLe_i, oGt_i, oGe_i, oEq_i, oNe_i, oEq_s, oNe_s, if_true, if_false, reduceIte, Bool.false_eq_true, gInt, gLen2, gLen, Cl.gTup, gList, optS_some, SOut.seq_nx, SOut.seq_rt, SOut.seq_bk, SOut.seq_ct, bodyOut, atI_0, atI_1, atI_2, atI_3, atI_4, atI_5, oSub2_tup, oSub2_fl, Option.orElse_some, g2I, decide_true, decide_false, slO, dDct, dPairs, keyed, Int.reduceAdd, Int.reduceMul, g__law_draw, g1, mD_left, decide_eq_true hl, oMod_i _ hb, oDiv_i _ hd, s1, mD_put_left]
def mix (s p z b : Int) : Int := ((((z * (2 * p + 3) + (s + 40503 * p * p)) % 2147483647 * ((z * (2 * p + 3) + (s + 40503 * p * p)) % 2147483647) + 69621 * p + s) % 2147483629 * 48271 + p) % 2147483647 / 11) % b
theorem draw_mix {cl : List D} {z : Int} (hC : C[r]? = some (.dK (mD l s c p))) (hc : C[c]? = some (.lst cl)) (hl : ¬ 0 < l) (hb : 0 < b) (h0 : 0 ≤ p) (hp : p < 1152921504606846976) (hz : atI cl (p % cl.length) = some (.int z)) :
    fnBody 8 g__law_draw [.ref r, .int b] C = .ok (.int (mix s p z b)) (C.set r (.dK (mD l s c (p + 1)))) := by
  have rl : r < C.length := (List.getElem?_eq_some_iff.mp hC).1
  have g1 := oSub2_dK hC (kS "left")
  have g2 := oSub2_dK hC (kS "spot")
  have s1 : ∀ v, setO (.ref r) (.str "spot") v C = _ := fun v => setO_m hC (mD_len _ _ _ _) (kS "spot")
  have hC2 : (C.set r (.dK (mD l s c (p + 1))))[r]? = some (.dK (mD l s c (p + 1))) := List.getElem?_set_self rl
  have g3 := oSub2_dK hC2 (kS "cells")
  have g4 := oSub2_dK hC2 (kS "seed")
  have rc : r ≠ c := by
    intro e
    subst e
    rw [hC] at hc
    cases hc
  have hc2 : (C.set r (.dK (mD l s c (p + 1))))[c]? = some (.lst cl) := by rw [List.getElem?_set_ne rc]; exact hc
  have hlen : 0 < (cl.length : Int) := by
    cases cl with
    | nil => simp [atI, ixN] at hz
    | cons x xs => simp
  have g5 := oSub2_lst hc2 (p % cl.length)
  have b1 : bMul 40503 p = true := bM _ _ (by decide) (by decide)
  have b2 : bMul (40503 * p) p = true := bM2 _ _ (by omega) (by omega)
  have b3 : bMul 2 p = true := bM _ _ (by decide) (by decide)
  have b4 : bMul z (2 * p + 3) = true := bM2 _ _ (by omega) (by omega)
  have m1 : (0 : Int) < 2147483647 := by decide
  have m2 : (0 : Int) < 2147483629 := by decide
  have m3 := Int.emod_nonneg (z * (2 * p + 3) + (s + 40503 * p * p)) (b := 2147483647) (by decide)
  have m4 := Int.emod_lt_of_pos (z * (2 * p + 3) + (s + 40503 * p * p)) m1
  have b5 : bMul ((z * (2 * p + 3) + (s + 40503 * p * p)) % 2147483647) ((z * (2 * p + 3) + (s + 40503 * p * p)) % 2147483647) = true := bM _ _ (by omega) (by omega)
  have b6 : bMul 69621 p = true := bM _ _ (by decide) (by decide)
  have b7 : bMul ((((z * (2 * p + 3) + (s + 40503 * p * p)) % 2147483647) * ((z * (2 * p + 3) + (s + 40503 * p * p)) % 2147483647) + 69621 * p + s) % 2147483629) 48271 = true := bM2 _ _ (by decide) (by decide)
  have d1 : ∀ x, bDiv x 11 = true := fun x => bD _ _ (by decide) (by decide)
  simp only [fnBody, startD, sSeq, sIf, sAsg, sPut, sRet, sRetN, sDrop, sNx, sPar, sFor, dTest, dBin, dVar, dC, dCB, dCons, dNil, dTup, dLst, dSl, dPN, dPS, dRev, revO, dBM, isLst, dIf, dAnd, dOr, dNot, dTru, truB, dCall, dNeg, dNewK, dNewT, gN, gT, gsN, gsC, iR1, iR2, iSeq, srcOf, itemsOf, List.map_cons, List.map_nil, List.length_cons, List.length_nil, Nat.reduceAdd, Nat.reduceSub, Nat.reduceLeDiff, List.replicate_succ, List.replicate_zero, List.cons_append, List.nil_append, List.getElem?_cons_zero, List.getElem?_cons_succ, List.set_cons_zero, List.set_cons_succ, Res.bind_ok, Res.st_ok, Option.map_some, Option.bind_some, Res.lift_some, oAdd_i, oSub_i, oLt_i, oLe_i, oGt_i, oGe_i, oEq_i, oNe_i, oEq_s, oNe_s, if_true, if_false, reduceIte, Bool.false_eq_true, gInt, gLen2, gLen, Cl.gTup, gList, optS_some, SOut.seq_nx, SOut.seq_rt, SOut.seq_bk, SOut.seq_ct, bodyOut, atI_0, atI_1, atI_2, atI_3, atI_4, atI_5, oSub2_tup, oSub2_fl, Option.orElse_some, g2I, decide_true, decide_false, slO, dDct, dPairs, keyed, Int.reduceAdd, Int.reduceMul, g__law_draw, g1, g2, mD_left, mD_spot, decide_eq_false hl, s1, mD_put_spot, g3, g4, mD_cells, mD_seed, oMul_i _ b1, oMul_i _ b2, oMul_i _ b3, oMul_i _ b4, oMul_i _ b5, oMul_i _ b6, oMul_i _ b7, hc2, g5, oMod_i _ hlen, hz, oMod_i _ m1, oMod_i _ m2, oMod_i _ hb, oDiv_i _ (d1 _), mix]

end
/-! ### the draws' state, whatever it holds -/
def AllInt (cl : List D) : Prop := ∀ d ∈ cl, ∃ z, d = .int z
def MOk (C : CH) (r b : Nat) (n : Int) : Prop := ∃ l s c p cl, C[r]? = some (.dK (mD l s c p)) ∧ C[c]? = some (.lst cl) ∧ r < b ∧ c < b ∧ cl ≠ [] ∧ AllInt cl ∧ 0 ≤ p ∧ p ≤ n
theorem MOk.app {C : CH} {r b : Nat} {n : Int} (h : MOk C r b n) (o : O) : MOk (C ++ [o]) r b n := by
  obtain ⟨l, s, c, p, cl, h1, h2, r3⟩ := h
  exact ⟨l, s, c, p, cl, get_old h1, get_old h2, r3⟩
theorem MOk.mono {C : CH} {r b b' : Nat} {n n' : Int} (h : MOk C r b n) (hb : b ≤ b') (hn : n ≤ n') : MOk C r b' n' := by
  obtain ⟨l, s, c, p, cl, h1, h2, h3, h4, h5, h6, h7, h8⟩ := h
  exact ⟨l, s, c, p, cl, h1, h2, by omega, by omega, h5, h6, h7, by omega⟩
theorem MOk.wr {C : CH} {r b q : Nat} {n : Int} (h : MOk C r b n) (hq : b ≤ q) (o : O) : MOk (C.set q o) r b n := by
  obtain ⟨l, s, c, p, cl, h1, h2, h3, h4, r5⟩ := h
  exact ⟨l, s, c, p, cl, by rw [List.getElem?_set_ne (by omega)]; exact h1, by rw [List.getElem?_set_ne (by omega)]; exact h2, h3, h4, r5⟩
theorem MOk.rb {C : CH} {r b : Nat} {n : Int} (h : MOk C r b n) : r < b := by
  obtain ⟨l, s, c, p, cl, h1, h2, h3, r5⟩ := h
  exact h3
theorem MOk.lt {C : CH} {r b : Nat} {n : Int} (h : MOk C r b n) : r < C.length := by
  obtain ⟨l, s, c, p, cl, h1, r5⟩ := h
  exact (List.getElem?_eq_some_iff.mp h1).1
theorem get_wr {C : CH} {r q b : Nat} {o : O} (h : r < b) (hq : b ≤ q) : (C.set r o)[q]? = C[q]? := List.getElem?_set_ne (by omega)
theorem cell_at {cl : List D} {p : Int} (hc : cl ≠ []) (h : AllInt cl) (h0 : 0 ≤ p) : ∃ z, atI cl (p % cl.length) = some (.int z) := by
  have hl : 0 < (cl.length : Int) := by
    cases cl with
    | nil => exact absurd rfl hc
    | cons x xs => simp
  have h1 := Int.emod_nonneg p (b := cl.length) (by omega)
  have h2 := Int.emod_lt_of_pos p hl
  have e : p % cl.length = ((p % cl.length).toNat : Int) := by omega
  rw [e, atI_n]
  have h3 : (p % cl.length).toNat < cl.length := by omega
  rw [List.getElem?_eq_getElem h3]
  obtain ⟨z, hz⟩ := h _ (List.getElem_mem h3)
  exact ⟨z, by rw [hz]⟩
noncomputable def F_draw : List D → CH → Res D := fnBody 8 g__law_draw
theorem draw_ok {C : CH} {r q : Nat} {n b : Int} (h : MOk C r q n) (hn : n < 1000000) (hb : 0 < b) (hb2 : b < 1073741824) : ∃ v o, F_draw [.ref r, .int b] C = .ok (.int v) (C.set r o) ∧ 0 ≤ v ∧ v < b ∧ MOk (C.set r o) r q (n + 1) := by
  obtain ⟨l, s, c, p, cl, h1, h2, h3, h4, h5, h6, h7, h8⟩ := h
  have rl := (List.getElem?_eq_some_iff.mp h1).1
  have rc : r ≠ c := by intro e; subst e; rw [h1] at h2; cases h2
  by_cases hl : 0 < l
  · refine ⟨_, _, draw_left h1 hl hb hb2, Int.emod_nonneg _ (by omega), Int.emod_lt_of_pos _ hb, l / b, s, c, p, cl, List.getElem?_set_self rl, by rw [List.getElem?_set_ne rc]; exact h2, h3, h4, h5, h6, h7, by omega⟩
  · obtain ⟨z, hz⟩ := cell_at h5 h6 h7
    refine ⟨_, _, draw_mix h1 h2 hl hb h7 (by omega) hz, Int.emod_nonneg _ (by omega), Int.emod_lt_of_pos _ hb, l, s, c, p + 1, cl, List.getElem?_set_self rl, by rw [List.getElem?_set_ne rc]; exact h2, h3, h4, h5, h6, by omega, by omega⟩
noncomputable def F_of : List D → CH → Res D := fnBody 2 (g__law_of F_draw)
theorem of_ok {C : CH} {r b q : Nat} {n : Int} {ds : List D} (h : MOk C r b n) (hn : n < 1000000) (hq : C[q]? = some (.lst ds)) (hbq : b ≤ q) (h0 : ds ≠ []) (hl : ds.length < 1000000) :
    ∃ o x, F_of [.ref r, .ref q] C = .ok x (C.set r o) ∧ x ∈ ds ∧ MOk (C.set r o) r b (n + 1) := by
  have hp : 0 < (ds.length : Int) := by
    cases ds with
    | nil => exact absurd rfl h0
    | cons x xs => simp
  obtain ⟨v, o, e, v0, v1, m⟩ := draw_ok h hn hp (by omega)
  have hq2 : (C.set r o)[q]? = some (.lst ds) := by rw [get_wr h.rb hbq]; exact hq
  have hv : v.toNat < ds.length := by omega
  have ea : atI ds v = some ds[v.toNat] := by rw [atI_of v0]; exact List.getElem?_eq_getElem hv
  refine ⟨o, ds[v.toNat], ?_, List.getElem_mem hv, m⟩
  unfold F_of
  simp only [fnBody, startD, sSeq, sIf, sAsg, sPut, sRet, sRetN, sDrop, sNx, sPar, sFor, dTest, dBin, dVar, dC, dCB, dCons, dNil, dTup, dLst, dSl, dPN, dPS, dRev, revO, dBM, isLst, dIf, dAnd, dOr, dNot, dTru, truB, dCall, dNeg, dNewK, dNewT, gN, gT, gsN, gsC, iR1, iR2, iSeq, srcOf, itemsOf, List.map_cons, List.map_nil, List.length_cons, List.length_nil, Nat.reduceAdd, Nat.reduceSub, Nat.reduceLeDiff, List.replicate_succ, List.replicate_zero, List.cons_append, List.nil_append, List.getElem?_cons_zero, List.getElem?_cons_succ, List.set_cons_zero, List.set_cons_succ, Res.bind_ok, Res.st_ok, Option.map_some, Option.bind_some, Res.lift_some, oAdd_i, oSub_i, oLt_i, oLe_i, oGt_i, oGe_i, oEq_i, oNe_i, oEq_s, oNe_s, if_true, if_false, reduceIte, Bool.false_eq_true, gInt, gLen2, gLen, Cl.gTup, gList, optS_some, SOut.seq_nx, SOut.seq_rt, SOut.seq_bk, SOut.seq_ct, bodyOut, atI_0, atI_1, atI_2, atI_3, atI_4, atI_5, oSub2_tup, oSub2_fl, Option.orElse_some, g2I, decide_true, decide_false, slO, dDct, dPairs, keyed, Int.reduceAdd, Int.reduceMul, g__law_of, hq, e, oSub2_lst hq2, ea]
/-! ### the beginning of the draws -/
theorem intsAll (ns : List Int) : AllInt (intsD ns) := by
  intro d hd
  obtain ⟨z, _, e⟩ := List.mem_map.mp hd
  exact ⟨z, e.symm⟩
theorem cut_intsD (ns : List Int) (lo hi : Option Int) : ∃ ms, cutD (intsD ns) lo hi = intsD ms ∧ ms.length ≤ ns.length := by
  refine ⟨(ns.drop (HT.sIx (intsD ns).length 0 lo)).take (HT.sIx (intsD ns).length (intsD ns).length hi - HT.sIx (intsD ns).length 0 lo), ?_, ?_⟩
  · unfold cutD intsD
    rw [← List.map_drop, ← List.map_take]
  · rw [List.length_take, List.length_drop]; omega
noncomputable def F_begun : List D → CH → Res D := fnBody 6 g__law_begun
theorem oAdd_lst {C : CH} {n m : Nat} {xs ys : List D} (h1 : C[n]? = some (.lst xs)) (h2 : C[m]? = some (.lst ys)) (hz : xs.length + ys.length ≤ 1000000) : oAdd (.ref n) (.ref m) C = some (.ref C.length, C ++ [.lst (xs ++ ys)]) := by
  have e : ∀ g : Int → Int → D, pureO (iI (fun _ _ => true) g) (.ref n) (.ref m) C = none := fun g => rfl
  unfold oAdd orO
  rw [e]
  simp only [pureO, sAdd, tAddO, lAddO, h1, h2, if_pos hz, Option.map_none, Option.orElse_none]
theorem emod_seed (z : Int) : 0 < (2147483647 : Int) := by decide
theorem begun_ok {ns : List Int} {k : Int} (C : CH) (hl : ns.length ≤ 63) (k0 : 0 ≤ k) (k3 : k < 100) : ∃ r C', F_begun [.fl (intsD ns), .int k] C = .ok (.ref r) C' ∧ MOk C' r C'.length 0 := by
  obtain ⟨m1, e1, l1⟩ := cut_intsD ns (some k) none
  obtain ⟨m2, e2, l2⟩ := cut_intsD ns none (some k)
  have lm1 : (intsD m1).length ≤ 63 := by unfold intsD; rw [List.length_map]; omega
  have lm2 : (intsD m2).length ≤ 63 := by unfold intsD; rw [List.length_map]; omega
  -- cells
  have a1 : (C ++ [O.lst (intsD m1)] ++ [O.lst (intsD m2)])[C.length]? = some (.lst (intsD m1)) := app_get
  have a2 : (C ++ [O.lst (intsD m1)] ++ [O.lst (intsD m2)])[(C ++ [O.lst (intsD m1)]).length]? = some (.lst (intsD m2)) := get_new _ _
  have a3 := oAdd_lst a1 a2 (by omega)
  -- great
  have hlc : ∀ C0 : CH, lc (fun _ => True) (gN 5) (dTest (dBin oGe (dVar 5) (dBin oPow (dC (.int 10)) (dC (.int 18))))) (dVar 5) C0.length (wipeD [some (.fl (intsD ns)), some (.int k), some (.ref (C ++ [O.lst (intsD m1)] ++ [O.lst (intsD m2)]).length), none, none, none] [5]) (intsD ns) (C0 ++ [.lst []]) =
      some (.ref C0.length, C0 ++ [.lst ((intsD ns).filter fun d => match d with | .int z => decide (10 ^ 18 ≤ z) | _ => false)]) := by
    intro C0
    have h := lc_pure (chk := fun _ => True) (g := gN 5) (t := dTest (dBin oGe (dVar 5) (dBin oPow (dC (.int 10)) (dC (.int 18))))) (f := dVar 5) (sc := wipeD [some (.fl (intsD ns)), some (.int k), some (.ref (C ++ [O.lst (intsD m1)] ++ [O.lst (intsD m2)]).length), none, none, none] [5]) (C0 := C0)
      (bt := fun d => match d with | .int z => decide (10 ^ 18 ≤ z) | _ => false) (hd := id) (intsD ns) [] (fun _ => trivial) ?_ (by unfold intsD; rw [List.length_map]; simp; omega)
    · rw [List.map_id, List.nil_append] at h
      exact h
    · intro d hd acc
      obtain ⟨z, rfl⟩ := intsAll ns d hd
      have ep : ∀ C, oPow (.int 10) (.int 18) C = some (.int (10 ^ 18), C) := fun C => oPow_i C ⟨by decide, by decide, by decide⟩
      refine ⟨_, rfl, ?_, fun _ => ?_⟩
      · simp only [fnBody, startD, sSeq, sIf, sAsg, sPut, sRet, sRetN, sDrop, sNx, sPar, sFor, dTest, dBin, dVar, dC, dCB, dCons, dNil, dTup, dLst, dSl, dPN, dPS, dRev, revO, dBM, isLst, dIf, dAnd, dOr, dNot, dTru, truB, dCall, dNeg, dNewK, dNewT, gN, gT, gsN, gsC, iR1, iR2, iSeq, srcOf, itemsOf, List.map_cons, List.map_nil, List.length_cons, List.length_nil, Nat.reduceAdd, Nat.reduceSub, Nat.reduceLeDiff, List.replicate_succ, List.replicate_zero, List.cons_append, List.nil_append, List.getElem?_cons_zero, List.getElem?_cons_succ, List.set_cons_zero, List.set_cons_succ, Res.bind_ok, Res.st_ok, Option.map_some, Option.bind_some, Res.lift_some, oAdd_i, oSub_i, oLt_i, oLe_i, oGt_i, oGe_i, oEq_i, oNe_i, oEq_s, oNe_s, if_true, if_false, reduceIte, Bool.false_eq_true, gInt, gLen2, gLen, Cl.gTup, gList, optS_some, SOut.seq_nx, SOut.seq_rt, SOut.seq_bk, SOut.seq_ct, bodyOut, atI_0, atI_1, atI_2, atI_3, atI_4, atI_5, oSub2_tup, oSub2_fl, Option.orElse_some, g2I, decide_true, decide_false, slO, dDct, dPairs, keyed, Int.reduceAdd, Int.reduceMul, wipeD, ep]
      · simp only [fnBody, startD, sSeq, sIf, sAsg, sPut, sRet, sRetN, sDrop, sNx, sPar, sFor, dTest, dBin, dVar, dC, dCB, dCons, dNil, dTup, dLst, dSl, dPN, dPS, dRev, revO, dBM, isLst, dIf, dAnd, dOr, dNot, dTru, truB, dCall, dNeg, dNewK, dNewT, gN, gT, gsN, gsC, iR1, iR2, iSeq, srcOf, itemsOf, List.map_cons, List.map_nil, List.length_cons, List.length_nil, Nat.reduceAdd, Nat.reduceSub, Nat.reduceLeDiff, List.replicate_succ, List.replicate_zero, List.cons_append, List.nil_append, List.getElem?_cons_zero, List.getElem?_cons_succ, List.set_cons_zero, List.set_cons_succ, Res.bind_ok, Res.st_ok, Option.map_some, Option.bind_some, Res.lift_some, oAdd_i, oSub_i, oLt_i, oLe_i, oGt_i, oGe_i, oEq_i, oNe_i, oEq_s, oNe_s, if_true, if_false, reduceIte, Bool.false_eq_true, gInt, gLen2, gLen, Cl.gTup, gList, optS_some, SOut.seq_nx, SOut.seq_rt, SOut.seq_bk, SOut.seq_ct, bodyOut, atI_0, atI_1, atI_2, atI_3, atI_4, atI_5, oSub2_tup, oSub2_fl, Option.orElse_some, g2I, decide_true, decide_false, slO, dDct, dPairs, keyed, Int.reduceAdd, Int.reduceMul, wipeD, id]
  generalize hG : ((intsD ns).filter fun d => match d with | .int z => decide (10 ^ 18 ≤ z) | _ => false) = gr at hlc
  have grI : AllInt gr := by
    intro d hd
    rw [← hG] at hd
    exact intsAll ns d (List.mem_filter.mp hd).1
  have cInt : AllInt (intsD m1 ++ intsD m2) := by
    intro d hd
    rcases List.mem_append.mp hd with h | h
    · exact intsAll _ d h
    · exact intsAll _ d h
  generalize hB : C ++ [O.lst (intsD m1)] ++ [O.lst (intsD m2)] = CB at a1 a2 a3 hlc
  have hc4 : (CB ++ [O.lst (intsD m1 ++ intsD m2)] ++ [O.lst gr])[CB.length]? = some (.lst (intsD m1 ++ intsD m2)) := app_get
  have hg4 : (CB ++ [O.lst (intsD m1 ++ intsD m2)] ++ [O.lst gr])[(CB ++ [O.lst (intsD m1 ++ intsD m2)]).length]? = some (.lst gr) := get_new _ _
  -- the loop
  have hloop : ∀ z0 x0, ∃ z x, fr (fun C' => C'[CB.length]? = some (.lst (intsD m1 ++ intsD m2))) (gN 5) (sAsg (gN 4) (dBin oMod (dCB Cl.gInt (dCons (dBin oAdd (dBin oMul (dVar 4) (dC (.int 48271))) (dVar 5)) dNil)) (dC (.int 2147483647)))) (intsD m1 ++ intsD m2)
      [some (.fl (intsD ns)), some (.int k), some (.ref CB.length), some (.ref (CB ++ [O.lst (intsD m1 ++ intsD m2)]).length), some (.int z0), x0] (CB ++ [O.lst (intsD m1 ++ intsD m2)] ++ [O.lst gr]) =
      .nx [some (.fl (intsD ns)), some (.int k), some (.ref CB.length), some (.ref (CB ++ [O.lst (intsD m1 ++ intsD m2)]).length), some (.int z), x] (CB ++ [O.lst (intsD m1 ++ intsD m2)] ++ [O.lst gr]) := by
    intro z0 x0
    obtain ⟨sc', C', e, z, x, rfl, rfl⟩ := fr_inv (chk := fun C' => C'[CB.length]? = some (.lst (intsD m1 ++ intsD m2))) (g := gN 5) (b := sAsg (gN 4) (dBin oMod (dCB Cl.gInt (dCons (dBin oAdd (dBin oMul (dVar 4) (dC (.int 48271))) (dVar 5)) dNil)) (dC (.int 2147483647)))) (intsD m1 ++ intsD m2)
      (fun i sc C' => ∃ z x, sc = [some (.fl (intsD ns)), some (.int k), some (.ref CB.length), some (.ref (CB ++ [O.lst (intsD m1 ++ intsD m2)]).length), some (.int z), x] ∧ C' = CB ++ [O.lst (intsD m1 ++ intsD m2)] ++ [O.lst gr])
      _ _ ⟨z0, x0, rfl, rfl⟩ (fun i sc C' ⟨z, x, _, e⟩ => by rw [e]; exact hc4) (fun i d sc C' hd ⟨z, x, e1, e2⟩ => by
        subst e1 e2
        obtain ⟨y, rfl⟩ := cInt d (List.mem_of_getElem? hd)
        have b1 : bMul z 48271 = true := bM2 _ _ (by decide) (by decide)
        have p1 : (0 : Int) < 2147483647 := by decide
        refine ⟨_, rfl, _, _, .inl ?_, (z * 48271 + y) % 2147483647, some (.int y), rfl, rfl⟩
        simp only [fnBody, startD, sSeq, sIf, sAsg, sPut, sRet, sRetN, sDrop, sNx, sPar, sFor, dTest, dBin, dVar, dC, dCB, dCons, dNil, dTup, dLst, dSl, dPN, dPS, dRev, revO, dBM, isLst, dIf, dAnd, dOr, dNot, dTru, truB, dCall, dNeg, dNewK, dNewT, gN, gT, gsN, gsC, iR1, iR2, iSeq, srcOf, itemsOf, List.map_cons, List.map_nil, List.length_cons, List.length_nil, Nat.reduceAdd, Nat.reduceSub, Nat.reduceLeDiff, List.replicate_succ, List.replicate_zero, List.cons_append, List.nil_append, List.getElem?_cons_zero, List.getElem?_cons_succ, List.set_cons_zero, List.set_cons_succ, Res.bind_ok, Res.st_ok, Option.map_some, Option.bind_some, Res.lift_some, oAdd_i, oSub_i, oLt_i, oLe_i, oGt_i, oGe_i, oEq_i, oNe_i, oEq_s, oNe_s, if_true, if_false, reduceIte, Bool.false_eq_true, gInt, gLen2, gLen, Cl.gTup, gList, optS_some, SOut.seq_nx, SOut.seq_rt, SOut.seq_bk, SOut.seq_ct, bodyOut, atI_0, atI_1, atI_2, atI_3, atI_4, atI_5, oSub2_tup, oSub2_fl, Option.orElse_some, g2I, decide_true, decide_false, slO, dDct, dPairs, keyed, Int.reduceAdd, Int.reduceMul, oMul_i _ b1, oMod_i _ p1])
    exact ⟨z, x, e⟩
  obtain ⟨z, x, hloop⟩ := hloop (61 + 6 * k) none
  have b0 : bMul 6 k = true := bM _ _ (by decide) (by decide)
  have b2 : bMul 47 k = true := bM _ _ (by decide) (by decide)
  -- the dict
  generalize hC4 : CB ++ [O.lst (intsD m1 ++ intsD m2)] ++ [O.lst gr] = C4 at *
  have hg5 := get_old (o := .dK []) hg4
  have hleft : ∃ l : Int, (if decide (k < (gr.length : Int)) = true then Res.lift (oSub2 (.ref (CB ++ [O.lst (intsD m1 ++ intsD m2)]).length) (.int k) (C4 ++ [.dK []])) else .ok (.int 0) (C4 ++ [.dK []])) = .ok (.int l) (C4 ++ [.dK []]) := by
    by_cases hk : k < gr.length
    · have hk2 : k.toNat < gr.length := by omega
      have ea : atI gr k = some gr[k.toNat] := by rw [atI_of k0]; exact List.getElem?_eq_getElem hk2
      obtain ⟨l, el⟩ := grI _ (List.getElem_mem hk2)
      rw [el] at ea
      refine ⟨l, ?_⟩
      simp only [fnBody, startD, sSeq, sIf, sAsg, sPut, sRet, sRetN, sDrop, sNx, sPar, sFor, dTest, dBin, dVar, dC, dCB, dCons, dNil, dTup, dLst, dSl, dPN, dPS, dRev, revO, dBM, isLst, dIf, dAnd, dOr, dNot, dTru, truB, dCall, dNeg, dNewK, dNewT, gN, gT, gsN, gsC, iR1, iR2, iSeq, srcOf, itemsOf, List.map_cons, List.map_nil, List.length_cons, List.length_nil, Nat.reduceAdd, Nat.reduceSub, Nat.reduceLeDiff, List.replicate_succ, List.replicate_zero, List.cons_append, List.nil_append, List.getElem?_cons_zero, List.getElem?_cons_succ, List.set_cons_zero, List.set_cons_succ, Res.bind_ok, Res.st_ok, Option.map_some, Option.bind_some, Res.lift_some, oAdd_i, oSub_i, oLt_i, oLe_i, oGt_i, oGe_i, oEq_i, oNe_i, oEq_s, oNe_s, if_true, if_false, reduceIte, Bool.false_eq_true, gInt, gLen2, gLen, Cl.gTup, gList, optS_some, SOut.seq_nx, SOut.seq_rt, SOut.seq_bk, SOut.seq_ct, bodyOut, atI_0, atI_1, atI_2, atI_3, atI_4, atI_5, oSub2_tup, oSub2_fl, Option.orElse_some, g2I, decide_true, decide_false, slO, dDct, dPairs, keyed, Int.reduceAdd, Int.reduceMul, decide_eq_true hk, oSub2_lst hg5, ea]
    · refine ⟨0, ?_⟩
      simp only [fnBody, startD, sSeq, sIf, sAsg, sPut, sRet, sRetN, sDrop, sNx, sPar, sFor, dTest, dBin, dVar, dC, dCB, dCons, dNil, dTup, dLst, dSl, dPN, dPS, dRev, revO, dBM, isLst, dIf, dAnd, dOr, dNot, dTru, truB, dCall, dNeg, dNewK, dNewT, gN, gT, gsN, gsC, iR1, iR2, iSeq, srcOf, itemsOf, List.map_cons, List.map_nil, List.length_cons, List.length_nil, Nat.reduceAdd, Nat.reduceSub, Nat.reduceLeDiff, List.replicate_succ, List.replicate_zero, List.cons_append, List.nil_append, List.getElem?_cons_zero, List.getElem?_cons_succ, List.set_cons_zero, List.set_cons_succ, Res.bind_ok, Res.st_ok, Option.map_some, Option.bind_some, Res.lift_some, oAdd_i, oSub_i, oLt_i, oLe_i, oGt_i, oGe_i, oEq_i, oNe_i, oEq_s, oNe_s, if_true, if_false, reduceIte, Bool.false_eq_true, gInt, gLen2, gLen, Cl.gTup, gList, optS_some, SOut.seq_nx, SOut.seq_rt, SOut.seq_bk, SOut.seq_ct, bodyOut, atI_0, atI_1, atI_2, atI_3, atI_4, atI_5, oSub2_tup, oSub2_fl, Option.orElse_some, g2I, decide_true, decide_false, slO, dDct, dPairs, keyed, Int.reduceAdd, Int.reduceMul, decide_eq_false hk]
  obtain ⟨l, hleft⟩ := hleft
  have hc5 : (C4 ++ [O.dK []])[CB.length]? = some (.lst (intsD m1 ++ intsD m2)) := get_old hc4
  have hc6 : (C4 ++ [O.dK []] ++ [O.lst [.int (47 * k + 19)]])[CB.length]? = some (.lst (intsD m1 ++ intsD m2)) := get_old hc5
  have a4 := oAdd_lst hc6 (get_new (C4 ++ [O.dK []]) (O.lst [.int (47 * k + 19)])) (by simp; omega)
  have hd7 : (C4 ++ [O.dK []] ++ [O.lst [.int (47 * k + 19)]] ++ [O.lst (intsD m1 ++ intsD m2 ++ [.int (47 * k + 19)])])[C4.length]? = some (.dK []) := get_old app_get
  have hmd : ∀ c : Nat, mergeD [] [(Sum.inr "left", .int l), (Sum.inr "seed", .int z), (Sum.inr "cells", .ref c), (Sum.inr "spot", .int 0), (Sum.inr "next", .int 0)] = mD l z c 0 := fun c => rfl
  refine ⟨C4.length, (C4 ++ [O.dK []] ++ [O.lst [.int (47 * k + 19)]] ++ [O.lst (intsD m1 ++ intsD m2 ++ [.int (47 * k + 19)])]).set C4.length (.dK (mD l z (C4 ++ [O.dK []] ++ [O.lst [.int (47 * k + 19)]]).length 0)), ?_, ?_⟩
  · unfold F_begun
    simp only [fnBody, startD, sSeq, sIf, sAsg, sPut, sRet, sRetN, sDrop, sNx, sPar, sFor, dTest, dBin, dVar, dC, dCB, dCons, dNil, dTup, dLst, dSl, dPN, dPS, dRev, revO, dBM, isLst, dIf, dAnd, dOr, dNot, dTru, truB, dCall, dNeg, dNewK, dNewT, gN, gT, gsN, gsC, iR1, iR2, iSeq, srcOf, itemsOf, List.map_cons, List.map_nil, List.length_cons, List.length_nil, Nat.reduceAdd, Nat.reduceSub, Nat.reduceLeDiff, List.replicate_succ, List.replicate_zero, List.cons_append, List.nil_append, List.getElem?_cons_zero, List.getElem?_cons_succ, List.set_cons_zero, List.set_cons_succ, Res.bind_ok, Res.st_ok, Option.map_some, Option.bind_some, Res.lift_some, oAdd_i, oSub_i, oLt_i, oLe_i, oGt_i, oGe_i, oEq_i, oNe_i, oEq_s, oNe_s, if_true, if_false, reduceIte, Bool.false_eq_true, gInt, gLen2, gLen, Cl.gTup, gList, optS_some, SOut.seq_nx, SOut.seq_rt, SOut.seq_bk, SOut.seq_ct, bodyOut, atI_0, atI_1, atI_2, atI_3, atI_4, atI_5, oSub2_tup, oSub2_fl, Option.orElse_some, g2I, decide_true, decide_false, slO, dDct, dPairs, keyed, Int.reduceAdd, Int.reduceMul, g__law_begun, e1, e2, hB, a3, dLc, hlc, hC4, oMul_i _ b0, hc4, hloop, hg5, hleft, oMul_i _ b2, hc5, a4, hd7, kS, hmd]
  · refine ⟨l, z, (C4 ++ [O.dK []] ++ [O.lst [.int (47 * k + 19)]]).length, 0, intsD m1 ++ intsD m2 ++ [.int (47 * k + 19)], List.getElem?_set_self (by simp), ?_, by simp, by simp, by simp, ?_, by omega, by omega⟩
    · rw [List.getElem?_set_ne (by simp)]
      exact get_new _ _
    · intro d hd
      rcases List.mem_append.mp hd with h | h
      · exact cInt d h
      · exact ⟨_, List.mem_singleton.mp h⟩
end Lw
set_option maxHeartbeats 4000000
namespace Lw
open PySem Cl L2

/-! ### winds -/
def encW : Option Nat → D
  | none => .tup []
  | some a => .tup [.str "thing", .int a]
def nats (l : List Nat) : List D := l.map fun (a : Nat) => .int a
/-- the chain of winds from a value on -/
inductive Ch (S : List D) : Option Nat → List Nat → Prop
  | nil : Ch S none []
  | cons {a : Nat} {x0 x1 x2 x3 : D} {r : Option Nat} {l : List Nat} : S[a]? = some (.tup [x0, x1, x2, x3, encW r]) → Ch S r l → Ch S (some a) (a :: l)
theorem encW_inj {r r' : Option Nat} (h : encW r = encW r') : r = r' := by
  cases r <;> cases r' <;> simp [encW] at h ⊢
  exact Int.ofNat.inj h
theorem Ch.det {S : List D} : ∀ {w : Option Nat} {l l' : List Nat}, Ch S w l → Ch S w l' → l = l'
  | _, _, _, .nil, .nil => rfl
  | _, _, _, .cons e t, .cons e' t' => by
    rw [e] at e'
    simp only [Option.some.injEq, D.tup.injEq, List.cons.injEq, and_true] at e'
    have := encW_inj e'.2.2.2.2
    subst this
    rw [Ch.det t t']
theorem Ch.app {S : List D} (x : D) : ∀ {w : Option Nat} {l : List Nat}, Ch S w l → Ch (S ++ [x]) w l
  | _, _, .nil => .nil
  | _, _, .cons e t => .cons (by rw [List.getElem?_append_left (List.getElem?_eq_some_iff.mp e).1]; exact e) (Ch.app x t)
theorem Ch.tail {S : List D} : ∀ {w : Option Nat} {p : List Nat} {a : Nat} {t : List Nat}, Ch S w (p ++ a :: t) → Ch S (some a) (a :: t)
  | _, [], _, _, .cons e t => .cons e t
  | _, _ :: p, _, _, .cons e t => Ch.tail t
/-- of == with () -/
theorem ne_unit {C : CH} (w : Option Nat) : oNe (encW w) (.tup []) C = some (.bl w.isSome, C) := by
  have s1 : PyData.strOk "thing" = true := by decide +kernel
  cases w with
  | none => rfl
  | some a =>
    have e : py C 66 (.tup [.str "thing", .int a]) = some (.tuple [.str "thing", .int a]) := by
      simp only [py, s1, if_true, List.mapM_cons, List.mapM_nil]
      rfl
    have e2 : py C 66 (.tup []) = some (.tuple []) := rfl
    have s2 : SeqAt.shaped (.tuple [.str "thing", .int a]) = true := by
      simp [SeqAt.shaped, PyData.canLay0, PyData.canLayAll0, s1, PyData.depth, PyData.depthAll]
    show (eqP C (.tup [.str "thing", .int a]) (.tup [])).map _ = _
    unfold eqP
    rw [e, e2]
    simp only [Option.bind_some, s2, show SeqAt.shaped (.tuple []) = true by decide, Bool.and_self, if_true, Option.map_some]
    simp [PyData.eqv, PyData.eqvAll]
/-! ### wind_line -/
theorem line_raw {S : List D} : ∀ {l : List Nat} {w : Option Nat} (acc : List Nat) (C : CH) , Ch S w l → acc.length + l.length ≤ 1000000 →
    ∃ w', sWh (dTest (dBin oNe (dVar 1) (dTup dNil))) (sSeq (sDrop (dBM isLst gApp (dVar 2) (dCons (dBin oSub2 (dVar 1) (dC (.int 1))) dNil)))
      (sAsg (gN 1) (dBin oSub2 (dBin oSub2 (dVar 0) (dBin oSub2 (dVar 1) (dC (.int 1)))) (dC (.int 4))))) [some (.tup S), some (encW w), some (.ref C.length)] (C ++ [.lst (nats acc)]) =
      .nx [some (.tup S), some w', some (.ref C.length)] (C ++ [.lst (nats (acc ++ l))])
  | [], _, acc, C, .nil, _ => by
    refine ⟨encW none, ?_⟩
    have n0 := ne_unit (C := C ++ [.lst (nats acc)]) none
    rw [List.append_nil]
    refine sWh_stop ?_
    simp only [fnBody, startD, sSeq, sIf, sAsg, sPut, sRet, sRetN, sDrop, sNx, sPar, sFor, dTest, dBin, dVar, dC, dCB, dCons, dNil, dTup, dLst, dSl, dPN, dPS, dRev, revO, dBM, isLst, dIf, dAnd, dOr, dNot, dTru, truB, dCall, dNeg, dNewK, dNewT, gN, gT, gsN, gsC, iR1, iR2, iSeq, srcOf, itemsOf, List.map_cons, List.map_nil, List.length_cons, List.length_nil, Nat.reduceAdd, Nat.reduceSub, Nat.reduceLeDiff, List.replicate_succ, List.replicate_zero, List.cons_append, List.nil_append, List.getElem?_cons_zero, List.getElem?_cons_succ, List.set_cons_zero, List.set_cons_succ, Res.bind_ok, Res.st_ok, Option.map_some, Option.bind_some, Res.lift_some, oAdd_i, oSub_i, oLt_i, oLe_i, oGt_i, oGe_i, oEq_i, oNe_i, oEq_s, oNe_s, if_true, if_false, reduceIte, Bool.false_eq_true, gInt, gLen2, gLen, Cl.gTup, gList, optS_some, SOut.seq_nx, SOut.seq_rt, SOut.seq_bk, SOut.seq_ct, bodyOut, atI_0, atI_1, atI_2, atI_3, atI_4, atI_5, oSub2_tup, oSub2_fl, Option.orElse_some, g2I, decide_true, decide_false, slO, dDct, dPairs, keyed, Int.reduceAdd, Int.reduceMul, n0, Option.isSome_none]
  | a :: l, _, acc, C, .cons e t, hl => by
    obtain ⟨w', h⟩ := line_raw (acc ++ [a]) C t (by simp at hl ⊢; omega)
    refine ⟨w', ?_⟩
    rename_i x0 x1 x2 x3 r
    have n1 := ne_unit (C := C ++ [.lst (nats acc)]) (some a)
    rw [sWh_turn (C1 := C ++ [.lst (nats acc)]) (sc2 := [some (.tup S), some (encW r), some (.ref C.length)]) (C2 := C ++ [.lst (nats (acc ++ [a]))]), h, List.append_assoc]
    · rfl
    · simp only [fnBody, startD, sSeq, sIf, sAsg, sPut, sRet, sRetN, sDrop, sNx, sPar, sFor, dTest, dBin, dVar, dC, dCB, dCons, dNil, dTup, dLst, dSl, dPN, dPS, dRev, revO, dBM, isLst, dIf, dAnd, dOr, dNot, dTru, truB, dCall, dNeg, dNewK, dNewT, gN, gT, gsN, gsC, iR1, iR2, iSeq, srcOf, itemsOf, List.map_cons, List.map_nil, List.length_cons, List.length_nil, Nat.reduceAdd, Nat.reduceSub, Nat.reduceLeDiff, List.replicate_succ, List.replicate_zero, List.cons_append, List.nil_append, List.getElem?_cons_zero, List.getElem?_cons_succ, List.set_cons_zero, List.set_cons_succ, Res.bind_ok, Res.st_ok, Option.map_some, Option.bind_some, Res.lift_some, oAdd_i, oSub_i, oLt_i, oLe_i, oGt_i, oGe_i, oEq_i, oNe_i, oEq_s, oNe_s, if_true, if_false, reduceIte, Bool.false_eq_true, gInt, gLen2, gLen, Cl.gTup, gList, optS_some, SOut.seq_nx, SOut.seq_rt, SOut.seq_bk, SOut.seq_ct, bodyOut, atI_0, atI_1, atI_2, atI_3, atI_4, atI_5, oSub2_tup, oSub2_fl, Option.orElse_some, g2I, decide_true, decide_false, slO, dDct, dPairs, keyed, Int.reduceAdd, Int.reduceMul, n1, Option.isSome_some]
    · left
      have g1 : gApp (.ref C.length) [.int a] (C ++ [.lst (nats acc)]) = some (.non, C ++ [.lst (nats (acc ++ [a]))]) := by
        have hz : (nats acc).length ≤ 1000000 := by unfold nats; rw [List.length_map]; simp at hl; omega
        simp only [gApp, get_new, if_pos hz, set_new]
        unfold nats
        rw [List.map_append]
        rfl
      have ea : atI S (a : Int) = some (.tup [x0, x1, x2, x3, encW r]) := by rw [atI_n]; exact e
      simp only [fnBody, startD, sSeq, sIf, sAsg, sPut, sRet, sRetN, sDrop, sNx, sPar, sFor, dTest, dBin, dVar, dC, dCB, dCons, dNil, dTup, dLst, dSl, dPN, dPS, dRev, revO, dBM, isLst, dIf, dAnd, dOr, dNot, dTru, truB, dCall, dNeg, dNewK, dNewT, gN, gT, gsN, gsC, iR1, iR2, iSeq, srcOf, itemsOf, List.map_cons, List.map_nil, List.length_cons, List.length_nil, Nat.reduceAdd, Nat.reduceSub, Nat.reduceLeDiff, List.replicate_succ, List.replicate_zero, List.cons_append, List.nil_append, List.getElem?_cons_zero, List.getElem?_cons_succ, List.set_cons_zero, List.set_cons_succ, Res.bind_ok, Res.st_ok, Option.map_some, Option.bind_some, Res.lift_some, oAdd_i, oSub_i, oLt_i, oLe_i, oGt_i, oGe_i, oEq_i, oNe_i, oEq_s, oNe_s, if_true, if_false, reduceIte, Bool.false_eq_true, gInt, gLen2, gLen, Cl.gTup, gList, optS_some, SOut.seq_nx, SOut.seq_rt, SOut.seq_bk, SOut.seq_ct, bodyOut, atI_0, atI_1, atI_2, atI_3, atI_4, atI_5, oSub2_tup, oSub2_fl, Option.orElse_some, g2I, decide_true, decide_false, slO, dDct, dPairs, keyed, Int.reduceAdd, Int.reduceMul, encW, get_new, g1, ea]
def R_line (ds : List D) (C : CH) (d : D) (C' : CH) : Prop := ∃ S w l, ds = [.tup S, encW w] ∧ Ch S w l ∧ l.length ≤ 1000000 ∧ d = .tup (nats l) ∧ C' = C
noncomputable def F_line : List D → CH → Res D := relF R_line
theorem F_line_eq {S : List D} {w : Option Nat} {l : List Nat} (h : Ch S w l) (hl : l.length ≤ 1000000) (C : CH) : F_line [.tup S, encW w] C = .ok (.tup (nats l)) C := by
  refine relF_eq ⟨S, w, l, rfl, h, hl, rfl, rfl⟩ ?_
  rintro d2 C2 ⟨S', w', l', e, h', _, rfl, rfl⟩
  simp only [List.cons.injEq, D.tup.injEq, and_true] at e
  obtain ⟨rfl, e⟩ := e
  cases encW_inj e
  rw [h.det h']
  exact ⟨rfl, rfl⟩
theorem bels_nats (k : Nat) : ∀ l : List Nat, bels k (nats l) = true
  | [] => by simp only [nats, List.map_nil, bels]
  | a :: l => by simp only [nats, List.map_cons, bels, D.bel, Bool.true_and]; exact bels_nats k l
theorem line_cuts (ds : List D) (C : CH) (wf : Wf C) : Cuts C (fnBody 3 g_wind_line ds C) (F_line ds C) := by
  refine relF_cuts ?_
  rintro d C' ⟨S, w, l, rfl, h, hl, rfl, rfl⟩
  obtain ⟨w', e⟩ := line_raw [] C' h (by simpa using hl)
  have e2 : fnBody 3 g_wind_line [.tup S, encW w] C' = .ok (.tup (nats l)) (C' ++ [.lst (nats l)]) := by
    have e : sWh _ _ [some (.tup S), some (encW w), some (.ref C'.length)] (C' ++ [.lst []]) = _ := e
    simp only [fnBody, startD, sSeq, sIf, sAsg, sPut, sRet, sRetN, sDrop, sNx, sPar, sFor, dTest, dBin, dVar, dC, dCB, dCons, dNil, dTup, dLst, dSl, dPN, dPS, dRev, revO, dBM, isLst, dIf, dAnd, dOr, dNot, dTru, truB, dCall, dNeg, dNewK, dNewT, gN, gT, gsN, gsC, iR1, iR2, iSeq, srcOf, itemsOf, List.map_cons, List.map_nil, List.length_cons, List.length_nil, Nat.reduceAdd, Nat.reduceSub, Nat.reduceLeDiff, List.replicate_succ, List.replicate_zero, List.cons_append, List.nil_append, List.getElem?_cons_zero, List.getElem?_cons_succ, List.set_cons_zero, List.set_cons_succ, Res.bind_ok, Res.st_ok, Option.map_some, Option.bind_some, Res.lift_some, oAdd_i, oSub_i, oLt_i, oLe_i, oGt_i, oGe_i, oEq_i, oNe_i, oEq_s, oNe_s, if_true, if_false, reduceIte, Bool.false_eq_true, gInt, gLen2, gLen, Cl.gTup, gList, optS_some, SOut.seq_nx, SOut.seq_rt, SOut.seq_bk, SOut.seq_ct, bodyOut, atI_0, atI_1, atI_2, atI_3, atI_4, atI_5, oSub2_tup, oSub2_fl, Option.orElse_some, g2I, decide_true, decide_false, slO, dDct, dPairs, keyed, Int.reduceAdd, Int.reduceMul, g_wind_line, e, get_new, Nat.zero_le]
  rw [e2]
  exact cuts_new wf (by rw [D.bel]; exact bels_nats _ _)
theorem of_eq {S : List D} {w : Option Nat} {l : List Nat} (h : Ch S w l) (hl : l.length ≤ 1000000) (C : CH) : fnBody 2 (g_winds_of F_line) [.tup S, encW w] C = .ok (.tup (nats l)) C := by
  simp only [fnBody, startD, sSeq, sIf, sAsg, sPut, sRet, sRetN, sDrop, sNx, sPar, sFor, dTest, dBin, dVar, dC, dCB, dCons, dNil, dTup, dLst, dSl, dPN, dPS, dRev, revO, dBM, isLst, dIf, dAnd, dOr, dNot, dTru, truB, dCall, dNeg, dNewK, dNewT, gN, gT, gsN, gsC, iR1, iR2, iSeq, srcOf, itemsOf, List.map_cons, List.map_nil, List.length_cons, List.length_nil, Nat.reduceAdd, Nat.reduceSub, Nat.reduceLeDiff, List.replicate_succ, List.replicate_zero, List.cons_append, List.nil_append, List.getElem?_cons_zero, List.getElem?_cons_succ, List.set_cons_zero, List.set_cons_succ, Res.bind_ok, Res.st_ok, Option.map_some, Option.bind_some, Res.lift_some, oAdd_i, oSub_i, oLt_i, oLe_i, oGt_i, oGe_i, oEq_i, oNe_i, oEq_s, oNe_s, if_true, if_false, reduceIte, Bool.false_eq_true, gInt, gLen2, gLen, Cl.gTup, gList, optS_some, SOut.seq_nx, SOut.seq_rt, SOut.seq_bk, SOut.seq_ct, bodyOut, atI_0, atI_1, atI_2, atI_3, atI_4, atI_5, oSub2_tup, oSub2_fl, Option.orElse_some, g2I, decide_true, decide_false, slO, dDct, dPairs, keyed, Int.reduceAdd, Int.reduceMul, g_winds_of, F_line_eq h hl]
/-! ### winds_way -/
/-- how many both begin with -/
def cpl : List Nat → List Nat → Nat
  | a :: r, b :: s => if a = b then cpl r s + 1 else 0
  | _, _ => 0
theorem cpl_le : ∀ r s : List Nat, cpl r s ≤ r.length ∧ cpl r s ≤ s.length
  | [], s => by simp [cpl]
  | a :: r, [] => by simp [cpl]
  | a :: r, b :: s => by
    have := cpl_le r s
    unfold cpl
    split
    · simp; omega
    · simp
theorem cpl_same : ∀ (r s : List Nat) (j : Nat), j < cpl r s → r[j]? = s[j]?
  | [], s, j, h => by simp [cpl] at h
  | a :: r, [], j, h => by simp [cpl] at h
  | a :: r, b :: s, j, h => by
    unfold cpl at h
    split at h
    · rename_i e
      cases j with
      | zero => simp [e]
      | succ j => simpa using cpl_same r s j (by omega)
    · omega
theorem cpl_part : ∀ (r s : List Nat), cpl r s < r.length → cpl r s < s.length → r[cpl r s]? ≠ s[cpl r s]?
  | [], s, h, _ => by simp at h
  | a :: r, [], _, h => by simp at h
  | a :: r, b :: s, h1, h2 => by
    unfold cpl at h1 h2 ⊢
    by_cases e : a = b
    · rw [if_pos e] at h1 h2 ⊢
      simpa using cpl_part r s (by simpa using h1) (by simpa using h2)
    · rw [if_neg e]
      simpa using e
theorem rev_at {l : List Nat} {j : Nat} (h : j < l.length) : atI (nats l) (-1 - (j : Int)) = some (.int (l.reverse[j]'(by simpa using h))) := by
  have e : ixN (nats l).length (-1 - (j : Int)) = some (l.length - 1 - j) := by
    have hl : (nats l).length = l.length := by simp [nats]
    unfold ixN
    rw [hl, if_neg (by omega), if_pos (by omega)]
    congr 1
    omega
  unfold atI
  rw [e]
  simp only [Option.bind_some, nats, List.getElem?_map]
  rw [List.getElem?_eq_getElem (by omega), List.getElem_reverse]
  rfl
theorem way_raw {S : List D} {a b : D} {l1 l2 : List Nat} (C : CH) : ∀ (m j : Nat), m + j = cpl l1.reverse l2.reverse →
    sWh (dAnd (dTest (dBin oLt (dVar 3) (dCB (g2I minI) (dCons (dCB gLen2 (dCons (dVar 4) dNil)) (dCons (dCB gLen2 (dCons (dVar 5) dNil)) dNil))))) (dTest (dBin oEq (dBin oSub2 (dVar 4) (dBin oSub (dNeg (dC (.int 1))) (dVar 3))) (dBin oSub2 (dVar 5) (dBin oSub (dNeg (dC (.int 1))) (dVar 3)))))) (sAsg (gN 3) (dBin oAdd (dVar 3) (dC (.int 1))))
      [some (.tup S), some a, some b, some (.int j), some (.tup (nats l1)), some (.tup (nats l2))] C = .nx [some (.tup S), some a, some b, some (.int (cpl l1.reverse l2.reverse)), some (.tup (nats l1)), some (.tup (nats l2))] C := by
  have h1 : (nats l1).length = l1.length := by simp [nats]
  have h2 : (nats l2).length = l2.length := by simp [nats]
  have hle := cpl_le l1.reverse l2.reverse
  rw [List.length_reverse, List.length_reverse] at hle
  intro m
  induction m with
  | zero =>
    intro j hj
    have ej : j = cpl l1.reverse l2.reverse := by omega
    rw [← ej]
    refine sWh_stop ?_
    by_cases hlt : (j : Int) < minI l1.length l2.length
    · have j1 : j < l1.length := by unfold minI at hlt; split at hlt <;> omega
      have j2 : j < l2.length := by unfold minI at hlt; split at hlt <;> omega
      have ne : ¬ (l1.reverse[j]'(by simpa using j1) = l2.reverse[j]'(by simpa using j2)) := by
        intro e
        have := cpl_part l1.reverse l2.reverse (by rw [← ej]; simpa using j1) (by rw [← ej]; simpa using j2)
        rw [← ej, List.getElem?_eq_getElem (by simpa using j1), List.getElem?_eq_getElem (by simpa using j2), e] at this
        exact this rfl
      have ne2 : ¬ ((l1.reverse[j]'(by simpa using j1) : Int) = l2.reverse[j]'(by simpa using j2)) := fun e => ne (Int.ofNat.inj e)
      simp only [fnBody, startD, sSeq, sIf, sAsg, sPut, sRet, sRetN, sDrop, sNx, sPar, sFor, dTest, dBin, dVar, dC, dCB, dCons, dNil, dTup, dLst, dSl, dPN, dPS, dRev, revO, dBM, isLst, dIf, dAnd, dOr, dNot, dTru, truB, dCall, dNeg, dNewK, dNewT, gN, gT, gsN, gsC, iR1, iR2, iSeq, srcOf, itemsOf, List.map_cons, List.map_nil, List.length_cons, List.length_nil, Nat.reduceAdd, Nat.reduceSub, Nat.reduceLeDiff, List.replicate_succ, List.replicate_zero, List.cons_append, List.nil_append, List.getElem?_cons_zero, List.getElem?_cons_succ, List.set_cons_zero, List.set_cons_succ, Res.bind_ok, Res.st_ok, Option.map_some, Option.bind_some, Res.lift_some, oAdd_i, oSub_i, oLt_i, oLe_i, oGt_i, oGe_i, oEq_i, oNe_i, oEq_s, oNe_s, if_true, if_false, reduceIte, Bool.false_eq_true, gInt, gLen2, gLen, Cl.gTup, gList, optS_some, SOut.seq_nx, SOut.seq_rt, SOut.seq_bk, SOut.seq_ct, bodyOut, atI_0, atI_1, atI_2, atI_3, atI_4, atI_5, oSub2_tup, oSub2_fl, Option.orElse_some, g2I, decide_true, decide_false, slO, dDct, dPairs, keyed, Int.reduceAdd, Int.reduceMul, h1, h2, decide_eq_true hlt, rev_at j1, rev_at j2, decide_eq_false ne2]
    · simp only [fnBody, startD, sSeq, sIf, sAsg, sPut, sRet, sRetN, sDrop, sNx, sPar, sFor, dTest, dBin, dVar, dC, dCB, dCons, dNil, dTup, dLst, dSl, dPN, dPS, dRev, revO, dBM, isLst, dIf, dAnd, dOr, dNot, dTru, truB, dCall, dNeg, dNewK, dNewT, gN, gT, gsN, gsC, iR1, iR2, iSeq, srcOf, itemsOf, List.map_cons, List.map_nil, List.length_cons, List.length_nil, Nat.reduceAdd, Nat.reduceSub, Nat.reduceLeDiff, List.replicate_succ, List.replicate_zero, List.cons_append, List.nil_append, List.getElem?_cons_zero, List.getElem?_cons_succ, List.set_cons_zero, List.set_cons_succ, Res.bind_ok, Res.st_ok, Option.map_some, Option.bind_some, Res.lift_some, oAdd_i, oSub_i, oLt_i, oLe_i, oGt_i, oGe_i, oEq_i, oNe_i, oEq_s, oNe_s, if_true, if_false, reduceIte, Bool.false_eq_true, gInt, gLen2, gLen, Cl.gTup, gList, optS_some, SOut.seq_nx, SOut.seq_rt, SOut.seq_bk, SOut.seq_ct, bodyOut, atI_0, atI_1, atI_2, atI_3, atI_4, atI_5, oSub2_tup, oSub2_fl, Option.orElse_some, g2I, decide_true, decide_false, slO, dDct, dPairs, keyed, Int.reduceAdd, Int.reduceMul, h1, h2, decide_eq_false hlt]
  | succ m ih =>
    intro j hj
    have j0 : j < cpl l1.reverse l2.reverse := by omega
    have j1 : j < l1.length := by omega
    have j2 : j < l2.length := by omega
    have hlt : (j : Int) < minI l1.length l2.length := by unfold minI; split <;> omega
    have e := cpl_same _ _ j j0
    rw [List.getElem?_eq_getElem (by simpa using j1), List.getElem?_eq_getElem (by simpa using j2)] at e
    have e := Option.some.inj e
    have e2 : ((l1.reverse[j]'(by simpa using j1) : Nat) : Int) = l2.reverse[j]'(by simpa using j2) := by rw [e]
    rw [← ih (j + 1) (by omega)]
    refine sWh_turn (C1 := C) ?_ (.inl ?_)
    · simp only [fnBody, startD, sSeq, sIf, sAsg, sPut, sRet, sRetN, sDrop, sNx, sPar, sFor, dTest, dBin, dVar, dC, dCB, dCons, dNil, dTup, dLst, dSl, dPN, dPS, dRev, revO, dBM, isLst, dIf, dAnd, dOr, dNot, dTru, truB, dCall, dNeg, dNewK, dNewT, gN, gT, gsN, gsC, iR1, iR2, iSeq, srcOf, itemsOf, List.map_cons, List.map_nil, List.length_cons, List.length_nil, Nat.reduceAdd, Nat.reduceSub, Nat.reduceLeDiff, List.replicate_succ, List.replicate_zero, List.cons_append, List.nil_append, List.getElem?_cons_zero, List.getElem?_cons_succ, List.set_cons_zero, List.set_cons_succ, Res.bind_ok, Res.st_ok, Option.map_some, Option.bind_some, Res.lift_some, oAdd_i, oSub_i, oLt_i, oLe_i, oGt_i, oGe_i, oEq_i, oNe_i, oEq_s, oNe_s, if_true, if_false, reduceIte, Bool.false_eq_true, gInt, gLen2, gLen, Cl.gTup, gList, optS_some, SOut.seq_nx, SOut.seq_rt, SOut.seq_bk, SOut.seq_ct, bodyOut, atI_0, atI_1, atI_2, atI_3, atI_4, atI_5, oSub2_tup, oSub2_fl, Option.orElse_some, g2I, decide_true, decide_false, slO, dDct, dPairs, keyed, Int.reduceAdd, Int.reduceMul, h1, h2, decide_eq_true hlt, rev_at j1, rev_at j2, decide_eq_true e2]
    · simp only [fnBody, startD, sSeq, sIf, sAsg, sPut, sRet, sRetN, sDrop, sNx, sPar, sFor, dTest, dBin, dVar, dC, dCB, dCons, dNil, dTup, dLst, dSl, dPN, dPS, dRev, revO, dBM, isLst, dIf, dAnd, dOr, dNot, dTru, truB, dCall, dNeg, dNewK, dNewT, gN, gT, gsN, gsC, iR1, iR2, iSeq, srcOf, itemsOf, List.map_cons, List.map_nil, List.length_cons, List.length_nil, Nat.reduceAdd, Nat.reduceSub, Nat.reduceLeDiff, List.replicate_succ, List.replicate_zero, List.cons_append, List.nil_append, List.getElem?_cons_zero, List.getElem?_cons_succ, List.set_cons_zero, List.set_cons_succ, Res.bind_ok, Res.st_ok, Option.map_some, Option.bind_some, Res.lift_some, oAdd_i, oSub_i, oLt_i, oLe_i, oGt_i, oGe_i, oEq_i, oNe_i, oEq_s, oNe_s, if_true, if_false, reduceIte, Bool.false_eq_true, gInt, gLen2, gLen, Cl.gTup, gList, optS_some, SOut.seq_nx, SOut.seq_rt, SOut.seq_bk, SOut.seq_ct, bodyOut, atI_0, atI_1, atI_2, atI_3, atI_4, atI_5, oSub2_tup, oSub2_fl, Option.orElse_some, g2I, decide_true, decide_false, slO, dDct, dPairs, keyed, Int.reduceAdd, Int.reduceMul]
      rfl
theorem cut_take (l : List Nat) (k : Nat) (h : k ≤ l.length) : cutD (nats l) none (some ((nats l).length - (k : Int))) = nats (l.take (l.length - k)) := by
  have h1 : (nats l).length = l.length := by simp [nats]
  have e : ((nats l).length : Int) - (k : Int) = ((l.length - k : Nat) : Int) := by omega
  unfold cutD
  rw [e, HT.sIx_none, HT.sIx_nat, h1, List.drop_zero, Nat.sub_zero, Nat.min_eq_left (by omega)]
  unfold nats
  rw [List.map_take]
theorem nats_rev (l : List Nat) : (nats l).reverse = nats l.reverse := by unfold nats; rw [List.map_reverse]
def wayD (l1 l2 : List Nat) : D := .tup [.tup (nats (l1.take (l1.length - cpl l1.reverse l2.reverse))), .tup (nats (l2.take (l2.length - cpl l1.reverse l2.reverse)).reverse)]
theorem way_eq {S : List D} {w1 w2 : Option Nat} {l1 l2 : List Nat} (h1 : Ch S w1 l1) (h2 : Ch S w2 l2) (z1 : l1.length ≤ 1000000) (z2 : l2.length ≤ 1000000) (C : CH) :
    fnBody 6 (g_winds_way F_line) [.tup S, encW w1, encW w2] C = .ok (wayD l1 l2) C := by
  have hle := cpl_le l1.reverse l2.reverse
  rw [List.length_reverse, List.length_reverse] at hle
  have w := way_raw (S := S) (a := encW w1) (b := encW w2) (l1 := l1) (l2 := l2) C (cpl l1.reverse l2.reverse) 0 rfl
  have w : sWh _ _ [some (.tup S), some (encW w1), some (encW w2), some (.int 0), some (.tup (nats l1)), some (.tup (nats l2))] C = _ := w
  simp only [fnBody, startD, sSeq, sIf, sAsg, sPut, sRet, sRetN, sDrop, sNx, sPar, sFor, dTest, dBin, dVar, dC, dCB, dCons, dNil, dTup, dLst, dSl, dPN, dPS, dRev, revO, dBM, isLst, dIf, dAnd, dOr, dNot, dTru, truB, dCall, dNeg, dNewK, dNewT, gN, gT, gsN, gsC, iR1, iR2, iSeq, srcOf, itemsOf, List.map_cons, List.map_nil, List.length_cons, List.length_nil, Nat.reduceAdd, Nat.reduceSub, Nat.reduceLeDiff, List.replicate_succ, List.replicate_zero, List.cons_append, List.nil_append, List.getElem?_cons_zero, List.getElem?_cons_succ, List.set_cons_zero, List.set_cons_succ, Res.bind_ok, Res.st_ok, Option.map_some, Option.bind_some, Res.lift_some, oAdd_i, oSub_i, oLt_i, oLe_i, oGt_i, oGe_i, oEq_i, oNe_i, oEq_s, oNe_s, if_true, if_false, reduceIte, Bool.false_eq_true, gInt, gLen2, gLen, Cl.gTup, gList, optS_some, SOut.seq_nx, SOut.seq_rt, SOut.seq_bk, SOut.seq_ct, bodyOut, atI_0, atI_1, atI_2, atI_3, atI_4, atI_5, oSub2_tup, oSub2_fl, Option.orElse_some, g2I, decide_true, decide_false, slO, dDct, dPairs, keyed, Int.reduceAdd, Int.reduceMul, g_winds_way, F_line_eq h1 z1, F_line_eq h2 z2, w, cut_take _ _ hle.1, cut_take _ _ hle.2, nats_rev, wayD]
end Lw
set_option maxHeartbeats 4000000
namespace Lw
open PySem Cl L2

/-! ### _law_list -/
noncomputable def F_list : List D → CH → Res D := fnBody 4 g__law_list
theorem app_nats {C : CH} {acc : List Nat} {a : Nat} (h : acc.length ≤ 1000000) : gApp (.ref C.length) [.int a] (C ++ [.lst (nats acc)]) = some (.non, C ++ [.lst (nats (acc ++ [a]))]) := by
  have hz : (nats acc).length ≤ 1000000 := by unfold nats; rw [List.length_map]; exact h
  simp only [gApp, get_new, if_pos hz, set_new]
  unfold nats
  rw [List.map_append]
  rfl
theorem list_fr {S : List D} {C : CH} : ∀ (ds : List D) (l acc : List Nat) (w : Option Nat) (x : Option D), Ch S w l → l.length ≤ ds.length → acc.length + l.length ≤ 1000000 → ∃ w' x',
    fr (fun _ => True) (gN 3) (sIf (dTest (dBin oNe (dVar 1) (dTup dNil))) (sSeq (sDrop (dBM isLst gApp (dVar 2) (dCons (dBin oSub2 (dVar 1) (dC (.int 1))) dNil)))
      (sAsg (gN 1) (dBin oSub2 (dBin oSub2 (dVar 0) (dBin oSub2 (dVar 1) (dC (.int 1)))) (dC (.int 4))))) sNx) ds [some (.tup S), some (encW w), some (.ref C.length), x] (C ++ [.lst (nats acc)]) =
      .nx [some (.tup S), some w', some (.ref C.length), x'] (C ++ [.lst (nats (acc ++ l))])
  | [], l, acc, w, x, h, hl, _ => by
    have e : l = [] := List.length_eq_zero_iff.mp (Nat.le_zero.mp hl)
    subst e
    rw [List.append_nil]
    exact ⟨encW w, x, by rw [fr, if_pos trivial]⟩
  | d :: ds, [], acc, _, x, .nil, hl, hz => by
    obtain ⟨w', x', ih⟩ := list_fr ds [] acc none (some d) .nil (Nat.zero_le _) hz
    refine ⟨w', x', ?_⟩
    have n0 := ne_unit (C := C ++ [.lst (nats acc)]) none
    rw [fr, if_pos trivial]
    have e : sIf (dTest (dBin oNe (dVar 1) (dTup dNil))) (sSeq (sDrop (dBM isLst gApp (dVar 2) (dCons (dBin oSub2 (dVar 1) (dC (.int 1))) dNil)))
      (sAsg (gN 1) (dBin oSub2 (dBin oSub2 (dVar 0) (dBin oSub2 (dVar 1) (dC (.int 1)))) (dC (.int 4))))) sNx [some (.tup S), some (encW none), some (.ref C.length), some d] (C ++ [.lst (nats acc)]) = .nx [some (.tup S), some (encW none), some (.ref C.length), some d] (C ++ [.lst (nats acc)]) := by
      simp only [fnBody, startD, sSeq, sIf, sAsg, sPut, sRet, sRetN, sDrop, sNx, sPar, sFor, dTest, dBin, dVar, dC, dCB, dCons, dNil, dTup, dLst, dSl, dPN, dPS, dRev, revO, dBM, isLst, dIf, dAnd, dOr, dNot, dTru, truB, dCall, dNeg, dNewK, dNewT, gN, gT, gsN, gsC, iR1, iR2, iSeq, srcOf, itemsOf, List.map_cons, List.map_nil, List.length_cons, List.length_nil, Nat.reduceAdd, Nat.reduceSub, Nat.reduceLeDiff, List.replicate_succ, List.replicate_zero, List.cons_append, List.nil_append, List.getElem?_cons_zero, List.getElem?_cons_succ, List.set_cons_zero, List.set_cons_succ, Res.bind_ok, Res.st_ok, Option.map_some, Option.bind_some, Res.lift_some, oAdd_i, oSub_i, oLt_i, oLe_i, oGt_i, oGe_i, oEq_i, oNe_i, oEq_s, oNe_s, if_true, if_false, reduceIte, Bool.false_eq_true, gInt, gLen2, gLen, Cl.gTup, gList, optS_some, SOut.seq_nx, SOut.seq_rt, SOut.seq_bk, SOut.seq_ct, bodyOut, atI_0, atI_1, atI_2, atI_3, atI_4, atI_5, oSub2_tup, oSub2_fl, Option.orElse_some, g2I, decide_true, decide_false, slO, dDct, dPairs, keyed, Int.reduceAdd, Int.reduceMul, n0, Option.isSome_none]
    simp only [gN, List.set_cons_succ, List.set_cons_zero, optS_some, e]
    exact ih
  | d :: ds, a :: l, acc, _, x, .cons e0 t, hl, hz => by
    rename_i x0 x1 x2 x3 r
    simp only [List.length_cons] at hl hz
    obtain ⟨w', x', ih⟩ := list_fr ds l (acc ++ [a]) r (some d) t (by omega) (by simp; omega)
    refine ⟨w', x', ?_⟩
    have n1 := ne_unit (C := C ++ [.lst (nats acc)]) (some a)
    have g1 := app_nats (C := C) (acc := acc) (a := a) (by omega)
    have ea : atI S (a : Int) = some (.tup [x0, x1, x2, x3, encW r]) := by rw [atI_n]; exact e0
    rw [fr, if_pos trivial]
    have e : sIf (dTest (dBin oNe (dVar 1) (dTup dNil))) (sSeq (sDrop (dBM isLst gApp (dVar 2) (dCons (dBin oSub2 (dVar 1) (dC (.int 1))) dNil)))
      (sAsg (gN 1) (dBin oSub2 (dBin oSub2 (dVar 0) (dBin oSub2 (dVar 1) (dC (.int 1)))) (dC (.int 4))))) sNx [some (.tup S), some (encW (some a)), some (.ref C.length), some d] (C ++ [.lst (nats acc)]) = .nx [some (.tup S), some (encW r), some (.ref C.length), some d] (C ++ [.lst (nats (acc ++ [a]))]) := by
      simp only [fnBody, startD, sSeq, sIf, sAsg, sPut, sRet, sRetN, sDrop, sNx, sPar, sFor, dTest, dBin, dVar, dC, dCB, dCons, dNil, dTup, dLst, dSl, dPN, dPS, dRev, revO, dBM, isLst, dIf, dAnd, dOr, dNot, dTru, truB, dCall, dNeg, dNewK, dNewT, gN, gT, gsN, gsC, iR1, iR2, iSeq, srcOf, itemsOf, List.map_cons, List.map_nil, List.length_cons, List.length_nil, Nat.reduceAdd, Nat.reduceSub, Nat.reduceLeDiff, List.replicate_succ, List.replicate_zero, List.cons_append, List.nil_append, List.getElem?_cons_zero, List.getElem?_cons_succ, List.set_cons_zero, List.set_cons_succ, Res.bind_ok, Res.st_ok, Option.map_some, Option.bind_some, Res.lift_some, oAdd_i, oSub_i, oLt_i, oLe_i, oGt_i, oGe_i, oEq_i, oNe_i, oEq_s, oNe_s, if_true, if_false, reduceIte, Bool.false_eq_true, gInt, gLen2, gLen, Cl.gTup, gList, optS_some, SOut.seq_nx, SOut.seq_rt, SOut.seq_bk, SOut.seq_ct, bodyOut, atI_0, atI_1, atI_2, atI_3, atI_4, atI_5, oSub2_tup, oSub2_fl, Option.orElse_some, g2I, decide_true, decide_false, slO, dDct, dPairs, keyed, Int.reduceAdd, Int.reduceMul, n1, Option.isSome_some]
      simp only [fnBody, startD, sSeq, sIf, sAsg, sPut, sRet, sRetN, sDrop, sNx, sPar, sFor, dTest, dBin, dVar, dC, dCB, dCons, dNil, dTup, dLst, dSl, dPN, dPS, dRev, revO, dBM, isLst, dIf, dAnd, dOr, dNot, dTru, truB, dCall, dNeg, dNewK, dNewT, gN, gT, gsN, gsC, iR1, iR2, iSeq, srcOf, itemsOf, List.map_cons, List.map_nil, List.length_cons, List.length_nil, Nat.reduceAdd, Nat.reduceSub, Nat.reduceLeDiff, List.replicate_succ, List.replicate_zero, List.cons_append, List.nil_append, List.getElem?_cons_zero, List.getElem?_cons_succ, List.set_cons_zero, List.set_cons_succ, Res.bind_ok, Res.st_ok, Option.map_some, Option.bind_some, Res.lift_some, oAdd_i, oSub_i, oLt_i, oLe_i, oGt_i, oGe_i, oEq_i, oNe_i, oEq_s, oNe_s, if_true, if_false, reduceIte, Bool.false_eq_true, gInt, gLen2, gLen, Cl.gTup, gList, optS_some, SOut.seq_nx, SOut.seq_rt, SOut.seq_bk, SOut.seq_ct, bodyOut, atI_0, atI_1, atI_2, atI_3, atI_4, atI_5, oSub2_tup, oSub2_fl, Option.orElse_some, g2I, decide_true, decide_false, slO, dDct, dPairs, keyed, Int.reduceAdd, Int.reduceMul, encW, get_new, g1, ea]
    simp only [gN, List.set_cons_succ, List.set_cons_zero, optS_some, e]
    have ea2 : acc ++ [a] ++ l = acc ++ a :: l := by simp
    rw [ea2] at ih
    exact ih
theorem list_eq {S : List D} {w : Option Nat} {l : List Nat} (h : Ch S w l) (hl : l.length ≤ S.length) (hz : S.length ≤ 100000) (C : CH) : F_list [.tup S, encW w] C = .ok (.ref C.length) (C ++ [.lst (nats l)]) := by
  have bs := rng1_i (j := (S.length : Int)) (by omega) (by omega)
  obtain ⟨w', x', e⟩ := list_fr (S := S) (C := C) (rngD 0 (S.length : Int).toNat) l [] w none h (by simp [rngD]; exact hl) (by simp; omega)
  rw [List.nil_append, show nats [] = [] from rfl] at e
  unfold F_list
  simp only [fnBody, startD, sSeq, sIf, sAsg, sPut, sRet, sRetN, sDrop, sNx, sPar, sFor, dTest, dBin, dVar, dC, dCB, dCons, dNil, dTup, dLst, dSl, dPN, dPS, dRev, revO, dBM, isLst, dIf, dAnd, dOr, dNot, dTru, truB, dCall, dNeg, dNewK, dNewT, gN, gT, gsN, gsC, iR1, iR2, iSeq, srcOf, itemsOf, List.map_cons, List.map_nil, List.length_cons, List.length_nil, Nat.reduceAdd, Nat.reduceSub, Nat.reduceLeDiff, List.replicate_succ, List.replicate_zero, List.cons_append, List.nil_append, List.getElem?_cons_zero, List.getElem?_cons_succ, List.set_cons_zero, List.set_cons_succ, Res.bind_ok, Res.st_ok, Option.map_some, Option.bind_some, Res.lift_some, oAdd_i, oSub_i, oLt_i, oLe_i, oGt_i, oGe_i, oEq_i, oNe_i, oEq_s, oNe_s, if_true, if_false, reduceIte, Bool.false_eq_true, gInt, gLen2, gLen, Cl.gTup, gList, optS_some, SOut.seq_nx, SOut.seq_rt, SOut.seq_bk, SOut.seq_ct, bodyOut, atI_0, atI_1, atI_2, atI_3, atI_4, atI_5, oSub2_tup, oSub2_fl, Option.orElse_some, g2I, decide_true, decide_false, slO, dDct, dPairs, keyed, Int.reduceAdd, Int.reduceMul, g__law_list, Nat.zero_le, bs, e]

/-! ### _law_way -/
def R_way (ds : List D) (C : CH) (d : D) (C' : CH) : Prop := ∃ q1 q2 l1 l2, ds = [.ref q1, .ref q2] ∧ C[q1]? = some (.lst (nats l1)) ∧ C[q2]? = some (.lst (nats l2)) ∧ l1.length ≤ 100000 ∧ l2.length ≤ 100000 ∧
  d = .tup [.tup (nats (l1.filter (· ∉ l2))), .tup (nats (l2.filter (· ∉ l1)).reverse)] ∧ C' = C
noncomputable def F_way : List D → CH → Res D := relF R_way
theorem nats_inj : ∀ {l1 l2 : List Nat}, nats l1 = nats l2 → l1 = l2
  | [], [], _ => rfl
  | [], _ :: _, h => by simp [nats] at h
  | _ :: _, [], h => by simp [nats] at h
  | a :: l1, b :: l2, h => by
    simp only [nats, List.map_cons, List.cons.injEq, D.int.injEq] at h
    rw [Int.ofNat.inj h.1, nats_inj (l1 := l1) (l2 := l2) h.2]
theorem F_way_eq {q1 q2 : Nat} {l1 l2 : List Nat} {C : CH} (h1 : C[q1]? = some (.lst (nats l1))) (h2 : C[q2]? = some (.lst (nats l2))) (z1 : l1.length ≤ 100000) (z2 : l2.length ≤ 100000) :
    F_way [.ref q1, .ref q2] C = .ok (.tup [.tup (nats (l1.filter (· ∉ l2))), .tup (nats (l2.filter (· ∉ l1)).reverse)]) C := by
  refine relF_eq ⟨q1, q2, l1, l2, rfl, h1, h2, z1, z2, rfl, rfl⟩ ?_
  rintro d2 C2 ⟨p1, p2, k1, k2, e, f1, f2, _, _, rfl, rfl⟩
  simp only [List.cons.injEq, D.ref.injEq, and_true] at e
  obtain ⟨rfl, rfl⟩ := e
  rw [h1] at f1
  rw [h2] at f2
  simp only [Option.some.injEq, O.lst.injEq] at f1 f2
  rw [nats_inj f1, nats_inj f2]
  exact ⟨rfl, rfl⟩
theorem flat_nats : ∀ l : List Nat, (nats l).all flat = true
  | [] => rfl
  | _ :: l => by rw [nats, List.map_cons, List.all_cons]; exact flat_nats l
theorem inF_nats (a : Nat) : ∀ l : List Nat, inF (.int a) (nats l) = decide (a ∈ l)
  | [] => rfl
  | b :: l => by
    have ih := inF_nats a l
    unfold inF at ih ⊢
    rw [nats, List.map_cons, List.any_cons]
    rw [nats] at ih
    rw [ih]
    show (decide ((b : Int) = a) || _) = _
    by_cases h : a = b
    · subst h; simp
    · have : ¬ ((b : Int) = a) := fun e => h (Int.ofNat.inj e).symm
      simp [this, h]
theorem notIn_nats {C : CH} {q : Nat} {l : List Nat} (h : C[q]? = some (.lst (nats l))) (a : Nat) : oIn2 true (.int a) (.ref q) C = some (.bl (!decide (a ∈ l)), C) := by
  unfold oIn2 orO oIn
  simp only [itemsOf, h, Option.bind_some, flat, flat_nats, Bool.and_self, if_true, inF_nats, Option.orElse_some]
theorem filter_nats (p : Nat → Bool) : ∀ l : List Nat, ((nats l).filter fun d => match d with | .int z => p z.toNat | _ => false) = nats (l.filter p)
  | [] => rfl
  | a :: l => by
    have ih := filter_nats p l
    rw [nats, List.map_cons, List.filter_cons, List.filter_cons]
    rw [nats] at ih
    rw [ih]
    show (if p (a : Int).toNat = true then _ else _) = _
    rw [Int.toNat_natCast]
    split <;> rfl
/-- [spot for spot in A if spot not in B] -/
theorem way_lc {q1 q2 i j : Nat} {l1 l2 : List Nat} {C : CH} {sc : Sc} (h1 : C[q1]? = some (.lst (nats l1))) (h2 : C[q2]? = some (.lst (nats l2))) (z1 : l1.length ≤ 100000) (hs : sc.length = 5) (hj : sc[j]? = some (some (.ref q2))) (j4 : j ≠ 4) :
    lc (fun C => C[q1]? = some (.lst (nats l1))) (gN 4) (dTest (dBin (oIn2 true) (dVar 4) (dVar j))) (dVar 4) C.length (wipeD sc [4]) (nats l1) (C ++ [.lst []]) = some (.ref C.length, C ++ [.lst (nats (l1.filter (· ∉ l2)))]) := by
  have h := lc_pure (chk := fun C => C[q1]? = some (.lst (nats l1))) (g := gN 4) (t := dTest (dBin (oIn2 true) (dVar 4) (dVar j))) (f := dVar 4) (sc := wipeD sc [4]) (C0 := C)
    (bt := fun d => match d with | .int z => !decide (z.toNat ∈ l2) | _ => false) (hd := id) (nats l1) [] (fun acc => get_old h1) ?_ (by unfold nats; rw [List.length_map]; simp; omega)
  · rw [List.map_id, List.nil_append, filter_nats fun a => !decide (a ∈ l2)] at h
    have ef : (fun a => !decide (a ∈ l2)) = (fun a => decide (a ∉ l2)) := by funext a; simp
    rw [ef] at h
    exact h
  · intro d hd acc
    obtain ⟨a, ha, rfl⟩ := List.mem_map.mp hd
    have e4 : ((sc.set 4 none).set 4 (some (.int a)))[4]? = some (some (.int a)) := List.getElem?_set_self (by simp [hs])
    have ej : ((sc.set 4 none).set 4 (some (.int a)))[j]? = some (some (.ref q2)) := by
      rw [List.getElem?_set_ne (Ne.symm j4), List.getElem?_set_ne (Ne.symm j4)]; exact hj
    have n := notIn_nats (get_old (o := .lst acc) h2) a
    refine ⟨_, rfl, ?_, fun _ => ?_⟩
    · simp only [fnBody, startD, sSeq, sIf, sAsg, sPut, sRet, sRetN, sDrop, sNx, sPar, sFor, dTest, dBin, dVar, dC, dCB, dCons, dNil, dTup, dLst, dSl, dPN, dPS, dRev, revO, dBM, isLst, dIf, dAnd, dOr, dNot, dTru, truB, dCall, dNeg, dNewK, dNewT, gN, gT, gsN, gsC, iR1, iR2, iSeq, srcOf, itemsOf, List.map_cons, List.map_nil, List.length_cons, List.length_nil, Nat.reduceAdd, Nat.reduceSub, Nat.reduceLeDiff, List.replicate_succ, List.replicate_zero, List.cons_append, List.nil_append, List.getElem?_cons_zero, List.getElem?_cons_succ, List.set_cons_zero, List.set_cons_succ, Res.bind_ok, Res.st_ok, Option.map_some, Option.bind_some, Res.lift_some, oAdd_i, oSub_i, oLt_i, oLe_i, oGt_i, oGe_i, oEq_i, oNe_i, oEq_s, oNe_s, if_true, if_false, reduceIte, Bool.false_eq_true, gInt, gLen2, gLen, Cl.gTup, gList, optS_some, SOut.seq_nx, SOut.seq_rt, SOut.seq_bk, SOut.seq_ct, bodyOut, atI_0, atI_1, atI_2, atI_3, atI_4, atI_5, oSub2_tup, oSub2_fl, Option.orElse_some, g2I, decide_true, decide_false, slO, dDct, dPairs, keyed, Int.reduceAdd, Int.reduceMul, wipeD, e4, ej, n, Int.toNat_natCast]
    · simp only [fnBody, startD, sSeq, sIf, sAsg, sPut, sRet, sRetN, sDrop, sNx, sPar, sFor, dTest, dBin, dVar, dC, dCB, dCons, dNil, dTup, dLst, dSl, dPN, dPS, dRev, revO, dBM, isLst, dIf, dAnd, dOr, dNot, dTru, truB, dCall, dNeg, dNewK, dNewT, gN, gT, gsN, gsC, iR1, iR2, iSeq, srcOf, itemsOf, List.map_cons, List.map_nil, List.length_cons, List.length_nil, Nat.reduceAdd, Nat.reduceSub, Nat.reduceLeDiff, List.replicate_succ, List.replicate_zero, List.cons_append, List.nil_append, List.getElem?_cons_zero, List.getElem?_cons_succ, List.set_cons_zero, List.set_cons_succ, Res.bind_ok, Res.st_ok, Option.map_some, Option.bind_some, Res.lift_some, oAdd_i, oSub_i, oLt_i, oLe_i, oGt_i, oGe_i, oEq_i, oNe_i, oEq_s, oNe_s, if_true, if_false, reduceIte, Bool.false_eq_true, gInt, gLen2, gLen, Cl.gTup, gList, optS_some, SOut.seq_nx, SOut.seq_rt, SOut.seq_bk, SOut.seq_ct, bodyOut, atI_0, atI_1, atI_2, atI_3, atI_4, atI_5, oSub2_tup, oSub2_fl, Option.orElse_some, g2I, decide_true, decide_false, slO, dDct, dPairs, keyed, Int.reduceAdd, Int.reduceMul, wipeD, e4, id]
theorem way_cuts (ds : List D) (C : CH) (wf : Wf C) : Cuts C (fnBody 5 g__law_way ds C) (F_way ds C) := by
  refine relF_cuts ?_
  rintro d C' ⟨q1, q2, l1, l2, rfl, h1, h2, z1, z2, rfl, rfl⟩
  have e1 := way_lc (i := 0) (j := 1) (sc := [some (.ref q1), some (.ref q2), none, none, none]) h1 h2 z1 rfl rfl (by decide)
  generalize hA : O.lst (nats (l1.filter (· ∉ l2))) = A at e1
  have g1 := get_old (o := A) h1
  have g2 := get_old (o := A) h2
  have e2 := way_lc (i := 1) (j := 0) (sc := [some (.ref q1), some (.ref q2), some (.ref C'.length), none, none]) g2 g1 z2 rfl rfl (by decide)
  generalize hB : O.lst (nats (l2.filter (· ∉ l1))) = B at e2
  have r1 : (C' ++ [A] ++ [B])[C'.length]? = some (.lst (nats (l1.filter (· ∉ l2)))) := by rw [hA]; exact app_get
  have r2 : (C' ++ [A] ++ [B])[(C' ++ [A]).length]? = some (.lst (nats (l2.filter (· ∉ l1)))) := by rw [hB]; exact get_new _ _
  have e3 : fnBody 5 g__law_way [.ref q1, .ref q2] C' = .ok (.tup [.tup (nats (l1.filter (· ∉ l2))), .tup (nats (l2.filter (· ∉ l1)).reverse)]) (C' ++ [A] ++ [B] ++ [.lst (nats (l2.filter (· ∉ l1)).reverse)]) := by
    simp only [fnBody, startD, sSeq, sIf, sAsg, sPut, sRet, sRetN, sDrop, sNx, sPar, sFor, dTest, dBin, dVar, dC, dCB, dCons, dNil, dTup, dLst, dSl, dPN, dPS, dRev, revO, dBM, isLst, dIf, dAnd, dOr, dNot, dTru, truB, dCall, dNeg, dNewK, dNewT, gN, gT, gsN, gsC, iR1, iR2, iSeq, srcOf, itemsOf, List.map_cons, List.map_nil, List.length_cons, List.length_nil, Nat.reduceAdd, Nat.reduceSub, Nat.reduceLeDiff, List.replicate_succ, List.replicate_zero, List.cons_append, List.nil_append, List.getElem?_cons_zero, List.getElem?_cons_succ, List.set_cons_zero, List.set_cons_succ, Res.bind_ok, Res.st_ok, Option.map_some, Option.bind_some, Res.lift_some, oAdd_i, oSub_i, oLt_i, oLe_i, oGt_i, oGe_i, oEq_i, oNe_i, oEq_s, oNe_s, if_true, if_false, reduceIte, Bool.false_eq_true, gInt, gLen2, gLen, Cl.gTup, gList, optS_some, SOut.seq_nx, SOut.seq_rt, SOut.seq_bk, SOut.seq_ct, bodyOut, atI_0, atI_1, atI_2, atI_3, atI_4, atI_5, oSub2_tup, oSub2_fl, Option.orElse_some, g2I, decide_true, decide_false, slO, dDct, dPairs, keyed, Int.reduceAdd, Int.reduceMul, g__law_way, h1, dLc, e1, g2, e2, r1, r2, nats_rev, get_new]
  rw [e3, List.append_assoc, List.append_assoc]
  exact cuts_new wf (by simp only [D.bel, bels, bels_nats, Bool.and_self])
end Lw
set_option maxHeartbeats 4000000
namespace Lw
open PySem Cl L2

/-! ### _law_store -/
/-- every known value leads along a chain -/
def Good (S : List D) (ws : List (Option Nat)) : Prop := ws ≠ [] ∧ ws.length ≤ S.length ∧ ∀ w ∈ ws, ∃ l, Ch S w l ∧ l.length + 1 ≤ ws.length
def encs (ws : List (Option Nat)) : List D := ws.map encW
noncomputable def F_store : List D → CH → Res D := fnBody 7 (g__law_store F_draw F_of)
/-- the state of the building -/
structure Bld (C : CH) (r b qs qk : Nat) (n : Int) (S : List D) (ws : List (Option Nat)) : Prop where
  m : MOk C r b n
  s : C[qs]? = some (.lst S)
  k : C[qk]? = some (.lst (encs ws))
  bs : b ≤ qs
  bk : b ≤ qk
  ne : qs ≠ qk
  g : Good S ws
theorem Bld.draw {C : CH} {r b qs qk : Nat} {n n' : Int} {S : List D} {ws : List (Option Nat)} (h : Bld C r b qs qk n S ws) (o : O) (m : MOk (C.set r o) r b n') : Bld (C.set r o) r b qs qk n' S ws :=
  ⟨m, by rw [get_wr h.m.rb h.bs]; exact h.s, by rw [get_wr h.m.rb h.bk]; exact h.k, h.bs, h.bk, h.ne, h.g⟩
theorem Bld.app {C : CH} {r b qs qk : Nat} {n : Int} {S : List D} {ws : List (Option Nat)} (h : Bld C r b qs qk n S ws) (o : O) : Bld (C ++ [o]) r b qs qk n S ws :=
  ⟨h.m.app o, get_old h.s, get_old h.k, h.bs, h.bk, h.ne, h.g⟩
theorem Good.app {S : List D} {ws : List (Option Nat)} (h : Good S ws) (x : D) : Good (S ++ [x]) ws :=
  ⟨h.1, by rw [List.length_append]; have := h.2.1; omega, fun w hw => let ⟨l, c, z⟩ := h.2.2 w hw; ⟨l, c.app x, z⟩⟩
theorem Bld.push {C : CH} {r b qs qk : Nat} {n : Int} {S : List D} {ws : List (Option Nat)} (h : Bld C r b qs qk n S ws) (x : D) : Bld (C.set qs (.lst (S ++ [x]))) r b qs qk n (S ++ [x]) ws :=
  ⟨h.m.wr h.bs _, List.getElem?_set_self (List.getElem?_eq_some_iff.mp h.s).1, by rw [List.getElem?_set_ne h.ne]; exact h.k, h.bs, h.bk, h.ne, h.g.app x⟩
theorem Good.push {S : List D} {ws : List (Option Nat)} (h : Good S ws) {x0 x1 x2 x3 : D} {w : Option Nat} (hw : w ∈ ws) : Good (S ++ [.tup [x0, x1, x2, x3, encW w]]) (ws ++ [some S.length]) := by
  obtain ⟨h1, h2, h3⟩ := h
  refine ⟨by simp, by simp; omega, fun v hv => ?_⟩
  rcases List.mem_append.mp hv with hv | hv
  · obtain ⟨l, c, z⟩ := h3 v hv
    exact ⟨l, c.app _, by simp; omega⟩
  · rw [List.mem_singleton.mp hv]
    obtain ⟨l, c, z⟩ := h3 w hw
    exact ⟨S.length :: l, .cons (x0 := x0) (x1 := x1) (x2 := x2) (x3 := x3) (by simp) (c.app _), by simp; omega⟩
theorem Bld.wind {C : CH} {r b qs qk : Nat} {n : Int} {S : List D} {ws : List (Option Nat)} (h : Bld C r b qs qk n S ws) {x0 x1 x2 x3 : D} {w : Option Nat} (hw : w ∈ ws) :
    Bld ((C.set qs (.lst (S ++ [.tup [x0, x1, x2, x3, encW w]]))).set qk (.lst (encs (ws ++ [some S.length])))) r b qs qk n (S ++ [.tup [x0, x1, x2, x3, encW w]]) (ws ++ [some S.length]) := by
  have hk : qk < C.length := (List.getElem?_eq_some_iff.mp h.k).1
  have hs : qs < C.length := (List.getElem?_eq_some_iff.mp h.s).1
  exact ⟨(h.m.wr h.bs _).wr h.bk _, by rw [List.getElem?_set_ne (Ne.symm h.ne)]; exact List.getElem?_set_self hs, List.getElem?_set_self (by rw [List.length_set]; exact hk), h.bs, h.bk, h.ne, h.g.push hw⟩
theorem app_at {C : CH} {q : Nat} {xs : List D} (h : C[q]? = some (.lst xs)) (hz : xs.length ≤ 1000000) (x : D) : gApp (.ref q) [x] C = some (.non, C.set q (.lst (xs ++ [x]))) := by
  simp only [gApp, h, if_pos hz]
/-- the inner loop: things among the winds -/
theorem inner {r b qs qk : Nat} {ws : List (Option Nat)} {many k : Int} {s6 : Option D} : ∀ (ds : List D) (C : CH) (n : Int) (S : List D) (x : Option D), Bld C r b qs qk n S ws → n + ds.length < 900000 → S.length + ds.length ≤ 900000 → ∃ C' S' x',
    fr (fun _ => True) (gN 5) (sDrop (dBM isLst gApp (dVar 3) (dCons (dCall 2 F_of (dCons (dVar 0) (dCons (dLst (dCons (dTup (dCons (dC (.str "pair")) (dCons (dTup (dCons (dC (.str "thing")) (dCons (dC (.int 0)) dNil))) (dCons (dVar 2) dNil)))) (dCons (dTup (dCons (dC (.str "box")) (dCons (dTup dNil) dNil))) (dCons (dTup (dCons (dC (.str "fn")) (dCons (dTup (dCons (dC (.int 0)) (dCons (dVar 2) dNil))) (dCons (dTup (dCons (dTup (dCons (dC (.int 1)) (dCons (dC (.int 7)) dNil))) dNil)) dNil)))) dNil)))) dNil))) dNil)))
      ds [some (.ref r), some (.int many), some (.int k), some (.ref qs), some (.ref qk), x, s6] C = .nx [some (.ref r), some (.int many), some (.int k), some (.ref qs), some (.ref qk), x', s6] C' ∧ Bld C' r b qs qk (n + ds.length) S' ws ∧ S'.length = S.length + ds.length
  | [], C, n, S, x, h, _, _ => ⟨C, S, x, by rw [fr, if_pos trivial], by simpa using h, rfl⟩
  | d :: ds, C, n, S, x, h, hn, hS => by
    simp only [List.length_cons] at hn hS
    generalize hI : O.lst [.tup [.str "pair", .tup [.str "thing", .int 0], .int k], .tup [.str "box", .tup []], .tup [.str "fn", .tup [.int 0, .int k], .tup [.tup [.int 1, .int 7]]]] = I
    have h1 := h.app I
    have hq : (C ++ [I])[C.length]? = some (.lst [.tup [.str "pair", .tup [.str "thing", .int 0], .int k], .tup [.str "box", .tup []], .tup [.str "fn", .tup [.int 0, .int k], .tup [.tup [.int 1, .int 7]]]]) := by rw [get_new, hI]
    have bl : b ≤ C.length := by have := (List.getElem?_eq_some_iff.mp h.s).1; have := h.bs; omega
    obtain ⟨o, y, e, _, m⟩ := of_ok h1.m (by omega) hq bl (by simp) (by simp)
    have h2 := h1.draw o m
    have h3 := h2.push y
    obtain ⟨C', S', x', e', hB, hl⟩ := inner ds _ (n + 1) (S ++ [y]) (some d) h3 (by push_cast at hn; omega) (by simp; omega)
    refine ⟨C', S', x', ?_, by have e9 : n + ((d :: ds).length : Int) = n + 1 + (ds.length : Int) := by { simp only [List.length_cons]; push_cast; omega }
                               rw [e9]; exact hB, by rw [hl]; simp; omega⟩
    have ga := app_at h2.s (by omega) y
    rw [fr, if_pos trivial]
    have i1 : isLst C (.ref qs) = true := by simp only [isLst, h.s]
    simp only [fnBody, startD, sSeq, sIf, sAsg, sPut, sRet, sRetN, sDrop, sNx, sPar, sFor, dTest, dBin, dVar, dC, dCB, dCons, dNil, dTup, dLst, dSl, dPN, dPS, dRev, revO, dBM, isLst, dIf, dAnd, dOr, dNot, dTru, truB, dCall, dNeg, dNewK, dNewT, gN, gT, gsN, gsC, iR1, iR2, iSeq, srcOf, itemsOf, List.map_cons, List.map_nil, List.length_cons, List.length_nil, Nat.reduceAdd, Nat.reduceSub, Nat.reduceLeDiff, List.replicate_succ, List.replicate_zero, List.cons_append, List.nil_append, List.getElem?_cons_zero, List.getElem?_cons_succ, List.set_cons_zero, List.set_cons_succ, Res.bind_ok, Res.st_ok, Option.map_some, Option.bind_some, Res.lift_some, oAdd_i, oSub_i, oLt_i, oLe_i, oGt_i, oGe_i, oEq_i, oNe_i, oEq_s, oNe_s, if_true, if_false, reduceIte, Bool.false_eq_true, gInt, gLen2, gLen, Cl.gTup, gList, optS_some, SOut.seq_nx, SOut.seq_rt, SOut.seq_bk, SOut.seq_ct, bodyOut, atI_0, atI_1, atI_2, atI_3, atI_4, atI_5, oSub2_tup, oSub2_fl, Option.orElse_some, g2I, decide_true, decide_false, slO, dDct, dPairs, keyed, Int.reduceAdd, Int.reduceMul, h.s, hI, e, ga]
    exact e'
theorem Bld.mono {C : CH} {r b qs qk : Nat} {n n' : Int} {S : List D} {ws : List (Option Nat)} (h : Bld C r b qs qk n S ws) (hn : n ≤ n') : Bld C r b qs qk n' S ws := ⟨h.m.mono (Nat.le_refl _) hn, h.s, h.k, h.bs, h.bk, h.ne, h.g⟩
theorem last_enc {ws : List (Option Nat)} (h : ws ≠ []) : ∃ w ∈ ws, atI (encs ws) (-1) = some (encW w) := by
  obtain ⟨i, x, e⟩ : ∃ i x, ws = i ++ [x] := ⟨ws.dropLast, ws.getLast h, (List.dropLast_concat_getLast h).symm⟩
  subst e
  refine ⟨x, by simp, ?_⟩
  unfold encs
  rw [List.map_append]
  exact atI_last _ _
theorem mem_encs {ws : List (Option Nat)} {x : D} (h : x ∈ encs ws) : ∃ w ∈ ws, x = encW w := by
  obtain ⟨w, hw, e⟩ := List.mem_map.mp h
  exact ⟨w, hw, e.symm⟩
theorem turn_ok {C : CH} {r b qs qk : Nat} {n many k : Int} {S : List D} {ws : List (Option Nat)} (h : Bld C r b qs qk n S ws) (hn : n < 800000) (hS : S.length ≤ 800000) (s5 s6 : Option D) : ∃ C' S' ws' s5' s6',
    (sSeq (sFor (iR1 (dCons (dCall 2 F_draw (dCons (dVar 0) (dCons (dC (.int 3)) dNil))) dNil)) (gN 5) (sDrop (dBM isLst gApp (dVar 3) (dCons (dCall 2 F_of (dCons (dVar 0) (dCons (dLst (dCons (dTup (dCons (dC (.str "pair")) (dCons (dTup (dCons (dC (.str "thing")) (dCons (dC (.int 0)) dNil))) (dCons (dVar 2) dNil)))) (dCons (dTup (dCons (dC (.str "box")) (dCons (dTup dNil) dNil))) (dCons (dTup (dCons (dC (.str "fn")) (dCons (dTup (dCons (dC (.int 0)) (dCons (dVar 2) dNil))) (dCons (dTup (dCons (dTup (dCons (dC (.int 1)) (dCons (dC (.int 7)) dNil))) dNil)) dNil)))) dNil)))) dNil))) dNil))))
  (sSeq (sAsg (gN 6) (dIf (dTest (dBin oGt (dCall 2 F_draw (dCons (dVar 0) (dCons (dC (.int 3)) dNil))) (dC (.int 0)))) (dBin oSub2 (dVar 4) (dNeg (dC (.int 1)))) (dCall 2 F_of (dCons (dVar 0) (dCons (dVar 4) dNil)))))
  (sSeq (sDrop (dBM isLst gApp (dVar 3) (dCons (dTup (dCons (dC (.str "wind")) (dCons (dTup (dCons (dVar 2) dNil)) (dCons (dTup (dCons (dC (.str "thing")) (dCons (dC (.int 0)) dNil))) (dCons (dTup (dCons (dC (.str "thing")) (dCons (dC (.int 0)) dNil))) (dCons (dVar 6) dNil)))))) dNil)))
  (sDrop (dBM isLst gApp (dVar 4) (dCons (dTup (dCons (dC (.str "thing")) (dCons (dBin oSub (dCB gLen2 (dCons (dVar 3) dNil)) (dC (.int 1))) dNil))) dNil))))))
      [some (.ref r), some (.int many), some (.int k), some (.ref qs), some (.ref qk), s5, s6] C = .nx [some (.ref r), some (.int many), some (.int k), some (.ref qs), some (.ref qk), s5', s6'] C' ∧ Bld C' r b qs qk (n + 6) S' ws' ∧ S'.length ≤ S.length + 4 := by
  obtain ⟨v, o, e1, v0, v1, m1⟩ := draw_ok h.m (b := 3) (by omega) (by decide) (by decide)
  have h1 := h.draw o m1
  have hl : (rngD 0 v.toNat).length = v.toNat := by simp [rngD]
  obtain ⟨C2, S2, x5, e2, h2, l2⟩ := inner (many := many) (k := k) (s6 := s6) (rngD 0 v.toNat) _ _ S s5 h1 (by rw [hl]; omega) (by rw [hl]; omega)
  rw [hl] at h2 l2
  have bs := rng1_i (j := v) (by omega) (by omega)
  obtain ⟨u, o3, e3, u0, u1, m3⟩ := draw_ok h2.m (b := 3) (by omega) (by decide) (by decide)
  have h3 := h2.draw o3 m3
  -- the rest
  have hrest : ∃ C4 w, w ∈ ws ∧ Bld C4 r b qs qk (n + 6) S2 ws ∧ (if decide (0 < u) = true then Res.lift (oSub2 (.ref qk) (.int (-1)) (C2.set r o3)) else F_of [.ref r, .ref qk] (C2.set r o3)) = .ok (encW w) C4 := by
    by_cases hu : 0 < u
    · obtain ⟨w, hw, ew⟩ := last_enc h.g.1
      refine ⟨C2.set r o3, w, hw, h3.mono (by omega), ?_⟩
      simp only [fnBody, startD, sSeq, sIf, sAsg, sPut, sRet, sRetN, sDrop, sNx, sPar, sFor, dTest, dBin, dVar, dC, dCB, dCons, dNil, dTup, dLst, dSl, dPN, dPS, dRev, revO, dBM, isLst, dIf, dAnd, dOr, dNot, dTru, truB, dCall, dNeg, dNewK, dNewT, gN, gT, gsN, gsC, iR1, iR2, iSeq, srcOf, itemsOf, List.map_cons, List.map_nil, List.length_cons, List.length_nil, Nat.reduceAdd, Nat.reduceSub, Nat.reduceLeDiff, List.replicate_succ, List.replicate_zero, List.cons_append, List.nil_append, List.getElem?_cons_zero, List.getElem?_cons_succ, List.set_cons_zero, List.set_cons_succ, Res.bind_ok, Res.st_ok, Option.map_some, Option.bind_some, Res.lift_some, oAdd_i, oSub_i, oLt_i, oLe_i, oGt_i, oGe_i, oEq_i, oNe_i, oEq_s, oNe_s, if_true, if_false, reduceIte, Bool.false_eq_true, gInt, gLen2, gLen, Cl.gTup, gList, optS_some, SOut.seq_nx, SOut.seq_rt, SOut.seq_bk, SOut.seq_ct, bodyOut, atI_0, atI_1, atI_2, atI_3, atI_4, atI_5, oSub2_tup, oSub2_fl, Option.orElse_some, g2I, decide_true, decide_false, slO, dDct, dPairs, keyed, Int.reduceAdd, Int.reduceMul, decide_eq_true hu, oSub2_lst h3.k, ew]
    · obtain ⟨o4, x, e4, hx, m4⟩ := of_ok h3.m (by omega) h3.k h3.bk (by simpa [encs] using h.g.1) (by have := h.g.2.1; simp [encs]; omega)
      obtain ⟨w, hw, rfl⟩ := mem_encs hx
      refine ⟨_, w, hw, (h3.draw o4 m4).mono (by omega), ?_⟩
      simp only [fnBody, startD, sSeq, sIf, sAsg, sPut, sRet, sRetN, sDrop, sNx, sPar, sFor, dTest, dBin, dVar, dC, dCB, dCons, dNil, dTup, dLst, dSl, dPN, dPS, dRev, revO, dBM, isLst, dIf, dAnd, dOr, dNot, dTru, truB, dCall, dNeg, dNewK, dNewT, gN, gT, gsN, gsC, iR1, iR2, iSeq, srcOf, itemsOf, List.map_cons, List.map_nil, List.length_cons, List.length_nil, Nat.reduceAdd, Nat.reduceSub, Nat.reduceLeDiff, List.replicate_succ, List.replicate_zero, List.cons_append, List.nil_append, List.getElem?_cons_zero, List.getElem?_cons_succ, List.set_cons_zero, List.set_cons_succ, Res.bind_ok, Res.st_ok, Option.map_some, Option.bind_some, Res.lift_some, oAdd_i, oSub_i, oLt_i, oLe_i, oGt_i, oGe_i, oEq_i, oNe_i, oEq_s, oNe_s, if_true, if_false, reduceIte, Bool.false_eq_true, gInt, gLen2, gLen, Cl.gTup, gList, optS_some, SOut.seq_nx, SOut.seq_rt, SOut.seq_bk, SOut.seq_ct, bodyOut, atI_0, atI_1, atI_2, atI_3, atI_4, atI_5, oSub2_tup, oSub2_fl, Option.orElse_some, g2I, decide_true, decide_false, slO, dDct, dPairs, keyed, Int.reduceAdd, Int.reduceMul, decide_eq_false hu, e4]
  obtain ⟨C4, w, hw, h4, e4⟩ := hrest
  have g5 := app_at h4.s (by omega) (.tup [.str "wind", .tup [.int k], .tup [.str "thing", .int 0], .tup [.str "thing", .int 0], encW w])
  have h5 := h4.wind (x0 := .str "wind") (x1 := .tup [.int k]) (x2 := .tup [.str "thing", .int 0]) (x3 := .tup [.str "thing", .int 0]) hw
  have s5' : (C4.set qs (.lst (S2 ++ [.tup [.str "wind", .tup [.int k], .tup [.str "thing", .int 0], .tup [.str "thing", .int 0], encW w]])))[qs]? = some (.lst (S2 ++ [.tup [.str "wind", .tup [.int k], .tup [.str "thing", .int 0], .tup [.str "thing", .int 0], encW w]])) := List.getElem?_set_self (List.getElem?_eq_some_iff.mp h4.s).1
  have k5 : (C4.set qs (.lst (S2 ++ [.tup [.str "wind", .tup [.int k], .tup [.str "thing", .int 0], .tup [.str "thing", .int 0], encW w]])))[qk]? = some (.lst (encs ws)) := by rw [List.getElem?_set_ne h4.ne]; exact h4.k
  have el : ((S2 ++ [D.tup [.str "wind", .tup [.int k], .tup [.str "thing", .int 0], .tup [.str "thing", .int 0], encW w]]).length : Int) - 1 = (S2.length : Int) := by simp
  have g6 := app_at k5 (by have := h.g.2.1; simp [encs]; omega) (.tup [.str "thing", .int S2.length])
  have ek : encs ws ++ [D.tup [.str "thing", .int S2.length]] = encs (ws ++ [some S2.length]) := by unfold encs; rw [List.map_append]; rfl
  rw [ek] at g6
  refine ⟨_, _, ws ++ [some S2.length], x5, some (encW w), ?_, h5, by simp; omega⟩
  simp only [fnBody, startD, sSeq, sIf, sAsg, sPut, sRet, sRetN, sDrop, sNx, sPar, sFor, dTest, dBin, dVar, dC, dCB, dCons, dNil, dTup, dLst, dSl, dPN, dPS, dRev, revO, dBM, isLst, dIf, dAnd, dOr, dNot, dTru, truB, dCall, dNeg, dNewK, dNewT, gN, gT, gsN, gsC, iR1, iR2, iSeq, srcOf, itemsOf, List.map_cons, List.map_nil, List.length_cons, List.length_nil, Nat.reduceAdd, Nat.reduceSub, Nat.reduceLeDiff, List.replicate_succ, List.replicate_zero, List.cons_append, List.nil_append, List.getElem?_cons_zero, List.getElem?_cons_succ, List.set_cons_zero, List.set_cons_succ, Res.bind_ok, Res.st_ok, Option.map_some, Option.bind_some, Res.lift_some, oAdd_i, oSub_i, oLt_i, oLe_i, oGt_i, oGe_i, oEq_i, oNe_i, oEq_s, oNe_s, if_true, if_false, reduceIte, Bool.false_eq_true, gInt, gLen2, gLen, Cl.gTup, gList, optS_some, SOut.seq_nx, SOut.seq_rt, SOut.seq_bk, SOut.seq_ct, bodyOut, atI_0, atI_1, atI_2, atI_3, atI_4, atI_5, oSub2_tup, oSub2_fl, Option.orElse_some, g2I, decide_true, decide_false, slO, dDct, dPairs, keyed, Int.reduceAdd, Int.reduceMul, e1, bs, e2, e3, e4, h4.s, g5, s5', el, k5, g6]
theorem store_ok {C : CH} {r b : Nat} {n many : Int} (m : MOk C r b n) (hb : b ≤ C.length) (hn : n < 1000) (h0 : 0 ≤ many) (h1 : many < 1000) :
    ∃ C' S qk ws, F_store [.ref r, .int many] C = .ok (.tup [.tup S, .ref qk]) C' ∧ MOk C' r b (n + 6 * many) ∧ C'[qk]? = some (.lst (encs ws)) ∧ b ≤ qk ∧ Good S ws ∧ S.length ≤ 2 + 4 * many.toNat := by
  generalize hA : O.lst [.tup [.str "fn", .tup [.int 0], .tup []], .tup [.str "box", .int 5]] = A
  generalize hB : O.lst [.tup []] = B
  have hb0 : Bld (C ++ [A] ++ [B]) r b C.length (C ++ [A]).length n [.tup [.str "fn", .tup [.int 0], .tup []], .tup [.str "box", .int 5]] [none] := by
    refine ⟨(m.app A).app B, by rw [app_get, hA], by rw [get_new, ← hB]; rfl, hb, by simp; omega, by simp, by simp, by simp, fun w hw => ?_⟩
    rw [List.mem_singleton.mp hw]
    exact ⟨[], .nil, by simp⟩
  have hl : (rngD 0 many.toNat).length = many.toNat := by simp [rngD]
  obtain ⟨sc', C', e, S, ws, s2, s5, s6, rfl, hB', hS'⟩ := fr_inv (chk := fun _ => True) (g := gN 2) (rngD 0 many.toNat)
    (fun i sc C' => ∃ S ws s2 s5 s6, sc = [some (.ref r), some (.int many), s2, some (.ref C.length), some (.ref (C ++ [A]).length), s5, s6] ∧ Bld C' r b C.length (C ++ [A]).length (n + 6 * i) S ws ∧ S.length ≤ 2 + 4 * i)
    [some (.ref r), some (.int many), none, some (.ref C.length), some (.ref (C ++ [A]).length), none, none] (C ++ [A] ++ [B]) ⟨_, _, none, none, none, rfl, by simpa using hb0, by simp⟩ (fun _ _ _ _ => trivial) (fun i d sc C2 hd ⟨S, ws, s2, s5, s6, e1, hB2, hS2⟩ => by
      subst e1
      have hi : i < many.toNat := by rw [← hl]; exact (List.getElem?_eq_some_iff.mp hd).1
      obtain ⟨k, rfl⟩ : ∃ k : Int, d = .int k := by
        rw [rngD, List.getElem?_map, List.getElem?_range hi] at hd
        exact ⟨_, (Option.some.inj hd).symm⟩
      obtain ⟨C3, S3, ws3, t5, t6, e3, hB3, l3⟩ := turn_ok (many := many) (k := k) hB2 (by omega) (by omega) s5 s6
      exact ⟨_, rfl, _, C3, .inl e3, S3, ws3, some (.int k), t5, t6, rfl, hB3.mono (by push_cast; omega), by omega⟩)
  have bs := rng1_i (j := many) (by omega) (by omega)
  rw [hl] at hB' hS'
  refine ⟨C', S, (C ++ [A]).length, ws, ?_, hB'.m.mono (Nat.le_refl _) (by omega), hB'.k, hB'.bk, hB'.g, by omega⟩
  unfold F_store
  simp only [fnBody, startD, sSeq, sIf, sAsg, sPut, sRet, sRetN, sDrop, sNx, sPar, sFor, dTest, dBin, dVar, dC, dCB, dCons, dNil, dTup, dLst, dSl, dPN, dPS, dRev, revO, dBM, isLst, dIf, dAnd, dOr, dNot, dTru, truB, dCall, dNeg, dNewK, dNewT, gN, gT, gsN, gsC, iR1, iR2, iSeq, srcOf, itemsOf, List.map_cons, List.map_nil, List.length_cons, List.length_nil, Nat.reduceAdd, Nat.reduceSub, Nat.reduceLeDiff, List.replicate_succ, List.replicate_zero, List.cons_append, List.nil_append, List.getElem?_cons_zero, List.getElem?_cons_succ, List.set_cons_zero, List.set_cons_succ, Res.bind_ok, Res.st_ok, Option.map_some, Option.bind_some, Res.lift_some, oAdd_i, oSub_i, oLt_i, oLe_i, oGt_i, oGe_i, oEq_i, oNe_i, oEq_s, oNe_s, if_true, if_false, reduceIte, Bool.false_eq_true, gInt, gLen2, gLen, Cl.gTup, gList, optS_some, SOut.seq_nx, SOut.seq_rt, SOut.seq_bk, SOut.seq_ct, bodyOut, atI_0, atI_1, atI_2, atI_3, atI_4, atI_5, oSub2_tup, oSub2_fl, Option.orElse_some, g2I, decide_true, decide_false, slO, dDct, dPairs, keyed, Int.reduceAdd, Int.reduceMul, g__law_store, Nat.zero_le, hA, hB, bs, e, hB'.s]
end Lw
set_option maxHeartbeats 4000000
namespace Lw
open PySem Cl L2

/-! ### the way, as the law tells it -/
theorem cpl_pre : ∀ (a r s : List Nat), a.length ≤ cpl (a ++ r) (a ++ s)
  | [], r, s => Nat.zero_le _
  | x :: a, r, s => by
    have := cpl_pre a r s
    show a.length + 1 ≤ (if x = x then cpl (a ++ r) (a ++ s) + 1 else 0)
    rw [if_pos rfl]
    omega
theorem take_same : ∀ {r s : List Nat} {k : Nat}, (∀ j, j < k → r[j]? = s[j]?) → r.take k = s.take k := by
  intro r s k h
  apply List.ext_getElem?
  intro j
  by_cases hj : j < k
  · rw [List.getElem?_take, List.getElem?_take, if_pos hj, if_pos hj, h j hj]
  · rw [List.getElem?_take, List.getElem?_take, if_neg hj, if_neg hj]
/-- both lists end alike, and what is ahead stands in one of them alone -/
theorem way_parts {S : List D} {w1 w2 : Option Nat} {l1 l2 : List Nat} (h1 : Ch S w1 l1) (h2 : Ch S w2 l2) : l1.filter (· ∉ l2) = l1.take (l1.length - cpl l1.reverse l2.reverse) := by
  have hle := cpl_le l1.reverse l2.reverse
  rw [List.length_reverse, List.length_reverse] at hle
  generalize hk : cpl l1.reverse l2.reverse = k at hle
  have hs : l1.reverse.take k = l2.reverse.take k := take_same fun j hj => cpl_same _ _ j (by rw [hk]; exact hj)
  have e1 : l1 = l1.take (l1.length - k) ++ (l1.reverse.take k).reverse := by
    rw [List.take_reverse, List.reverse_reverse, List.take_append_drop]
  have e2 : l2 = l2.take (l2.length - k) ++ (l1.reverse.take k).reverse := by
    rw [hs, List.take_reverse, List.reverse_reverse, List.take_append_drop]
  generalize hp : l1.take (l1.length - k) = p at e1
  generalize hq : l2.take (l2.length - k) = q at e2
  generalize hS : l1.reverse.take k = s at e1 e2 hs
  have ls : s.length = k := by rw [← hS, List.length_take, List.length_reverse]; omega
  have f1 : ∀ x ∈ p, x ∉ l2 := by
    intro x hx hx2
    obtain ⟨p1, p2, rfl⟩ := List.append_of_mem hx
    obtain ⟨q1, t2, e3⟩ := List.append_of_mem hx2
    have c1 : Ch S (some x) (x :: (p2 ++ s.reverse)) := by
      rw [e1] at h1
      have h1 : Ch S w1 (p1 ++ x :: (p2 ++ s.reverse)) := by simpa using h1
      exact h1.tail
    have c2 : Ch S (some x) (x :: t2) := by
      rw [e3] at h2
      exact h2.tail
    have ed := c1.det c2
    have r1 : l1.reverse = (s ++ p2.reverse ++ [x]) ++ p1.reverse := by rw [e1]; simp
    have r2 : l2.reverse = (s ++ p2.reverse ++ [x]) ++ q1.reverse := by rw [e3, ← ed]; simp
    have := cpl_pre (s ++ p2.reverse ++ [x]) p1.reverse q1.reverse
    rw [← r1, ← r2, hk] at this
    simp at this
    omega
  have f2 : ∀ x ∈ s.reverse, x ∈ l2 := by
    intro x hx
    rw [e2]
    exact List.mem_append_right _ hx
  rw [e1, List.filter_append]
  have g1 : p.filter (fun x => decide (x ∉ l2)) = p := List.filter_eq_self.mpr fun x hx => decide_eq_true (f1 x hx)
  have g2 : s.reverse.filter (fun x => decide (x ∉ l2)) = [] := List.filter_eq_nil_iff.mpr fun x hx => by simpa using f2 x hx
  rw [g1, g2, List.append_nil]
theorem cpl_comm : ∀ r s : List Nat, cpl r s = cpl s r
  | [], [] => rfl
  | [], _ :: _ => rfl
  | _ :: _, [] => rfl
  | a :: r, b :: s => by
    unfold cpl
    by_cases h : a = b
    · rw [if_pos h, if_pos h.symm, cpl_comm r s]
    · rw [if_neg h, if_neg (Ne.symm h)]
theorem wayD_eq {S : List D} {w1 w2 : Option Nat} {l1 l2 : List Nat} (h1 : Ch S w1 l1) (h2 : Ch S w2 l2) : wayD l1 l2 = .tup [.tup (nats (l1.filter (· ∉ l2))), .tup (nats (l2.filter (· ∉ l1)).reverse)] := by
  rw [way_parts h1 h2, way_parts h2 h1, cpl_comm l2.reverse l1.reverse]
  rfl
/-! ### repr of these -/
def pI (l : List Nat) : List PyData := l.map fun (a : Nat) => .int (a : Int)
theorem py_nats (C : CH) (k : Nat) : ∀ l : List Nat, (nats l).mapM (py C (k + 1)) = some (pI l)
  | [] => rfl
  | a :: l => by
    rw [nats, List.map_cons, List.mapM_cons]
    have ih := py_nats C k l
    rw [nats] at ih
    rw [ih]
    rfl
theorem pI_facts : ∀ l : List Nat, (∀ a ∈ l, a < 1000000) → PyData.canLayAll0 (pI l) = true ∧ PyData.depthAll (pI l) ≤ 1 ∧ PyData.showableAll (pI l) = true ∧ szPs (pI l) = 1923 * l.length
  | [], _ => by simp [pI, PyData.canLayAll0, PyData.depthAll, PyData.showableAll, szPs]
  | a :: l, h => by
    obtain ⟨h1, h2, h3, h4⟩ := pI_facts l fun b hb => h b (List.mem_cons_of_mem _ hb)
    have ha := h a List.mem_cons_self
    have hlog : (a : Int).natAbs.log2 < 1920 := by
      rw [Int.natAbs_natCast]
      by_cases z : a = 0
      · subst z; decide
      · exact Nat.lt_of_lt_of_le ((Nat.log2_lt z).mpr (Nat.lt_of_lt_of_le ha (by decide : 1000000 ≤ 2 ^ 20))) (by decide)
    unfold pI at h1 h2 h3 h4 ⊢
    rw [List.map_cons, PyData.canLayAll0, PyData.depthAll, PyData.showableAll, szPs, h1, h3, h4]
    refine ⟨by simp [PyData.canLay0], ?_, by rw [PyData.showable, decide_eq_true hlog]; rfl, by rw [szP, List.length_cons]; omega⟩
    have : (PyData.int (a : Int)).depth ≤ 1 := by simp [PyData.depth]
    omega
theorem rpr_of {p : PyData} (h1 : SeqAt.shaped p = true) (h2 : p.showable = true) (h3 : szP p ≤ 16000000) : rpr p = some p.shown := by
  unfold rpr
  rw [h1, h2, decide_eq_true h3]
  rfl
theorem gR1 {l : List Nat} (h : ∀ a ∈ l, a < 1000000) (hl : l.length ≤ 1000) (C : CH) : gRpr [.tup (nats l)] C = some (.str (PyData.tuple (pI l)).shown, C) := by
  obtain ⟨h1, h2, h3, h4⟩ := pI_facts l h
  have e : py C 66 (.tup (nats l)) = some (.tuple (pI l)) := by
    show ((nats l).mapM (py C 65)).map PyData.tuple = _
    rw [py_nats]
    rfl
  have r : rpr (.tuple (pI l)) = some (PyData.tuple (pI l)).shown := by
    refine rpr_of ?_ ?_ ?_
    · unfold SeqAt.shaped
      rw [PyData.canLay0, h1, PyData.depth, Bool.true_and]
      exact decide_eq_true (by omega)
    · rw [PyData.showable]; exact h3
    · rw [szP, h4]; omega
  show (py C 66 (.tup (nats l))).bind _ = _
  rw [e]
  simp only [Option.bind_some, r, Option.map_some]
theorem gR2 {l1 l2 : List Nat} (k1 : ∀ a ∈ l1, a < 1000000) (k2 : ∀ a ∈ l2, a < 1000000) (z1 : l1.length ≤ 1000) (z2 : l2.length ≤ 1000) (C : CH) : gRpr [.tup [.tup (nats l1), .tup (nats l2)]] C = some (.str (PyData.tuple [.tuple (pI l1), .tuple (pI l2)]).shown, C) := by
  obtain ⟨h1, h2, h3, h4⟩ := pI_facts l1 k1
  obtain ⟨g1, g2, g3, g4⟩ := pI_facts l2 k2
  have e : py C 66 (.tup [.tup (nats l1), .tup (nats l2)]) = some (.tuple [.tuple (pI l1), .tuple (pI l2)]) := by
    have a1 : py C 65 (.tup (nats l1)) = some (.tuple (pI l1)) := by
      show ((nats l1).mapM (py C 64)).map PyData.tuple = _
      rw [py_nats]; rfl
    have a2 : py C 65 (.tup (nats l2)) = some (.tuple (pI l2)) := by
      show ((nats l2).mapM (py C 64)).map PyData.tuple = _
      rw [py_nats]; rfl
    show (([.tup (nats l1), .tup (nats l2)] : List D).mapM (py C 65)).map PyData.tuple = _
    rw [List.mapM_cons, a1, List.mapM_cons, a2]
    rfl
  have r : rpr (.tuple [.tuple (pI l1), .tuple (pI l2)]) = some (PyData.tuple [.tuple (pI l1), .tuple (pI l2)]).shown := by
    refine rpr_of ?_ ?_ ?_
    · unfold SeqAt.shaped
      simp only [PyData.canLay0, PyData.canLayAll0, h1, g1, PyData.depth, PyData.depthAll, Bool.true_and, Bool.and_self]
      exact decide_eq_true (by omega)
    · simp only [PyData.showable, PyData.showableAll, h3, g3, Bool.and_self]
    · simp only [szP, szPs, h4, g4]; omega
  show (py C 66 (.tup [.tup (nats l1), .tup (nats l2)])).bind _ = _
  rw [e]
  simp only [Option.bind_some, r, Option.map_some]
theorem Ch.lt {S : List D} : ∀ {w : Option Nat} {l : List Nat}, Ch S w l → ∀ a ∈ l, a < S.length
  | _, _, .nil, a, h => by cases h
  | _, _, .cons e t, b, h => by
    rcases List.mem_cons.mp h with rfl | h
    · exact (List.getElem?_eq_some_iff.mp e).1
    · exact Ch.lt t b h
end Lw
namespace Lw
open PySem Cl L2

noncomputable def F_winds_of : List D → CH → Res D := fnBody 2 (g_winds_of F_line)
noncomputable def F_winds_way : List D → CH → Res D := fnBody 6 (g_winds_way F_line)
noncomputable def lapBody : Fs := (sSeq (sPar 7 8 (dCons (dCall 2 F_of (dCons (dVar 2) (dCons (dVar 6) dNil))) (dCons (dCall 2 F_of (dCons (dVar 2) (dCons (dVar 6) dNil))) dNil)))
  (sSeq (sPar 9 10 (dCons (dCall 2 F_list (dCons (dVar 5) (dCons (dVar 7) dNil))) (dCons (dCall 2 F_list (dCons (dVar 5) (dCons (dVar 8) dNil))) dNil)))
  (sSeq (sIf (dTest (dBin oNe (dCB gRpr (dCons (dCall 2 F_winds_of (dCons (dVar 5) (dCons (dVar 7) dNil))) dNil)) (dCB gRpr (dCons (dCB Cl.gTup (dCons (dVar 9) dNil)) dNil)))) (sRet (dC (.bl false))) sNx)
  (sSeq (sIf (dTest (dBin oNe (dCB gRpr (dCons (dCall 3 F_winds_way (dCons (dVar 5) (dCons (dVar 7) (dCons (dVar 8) dNil)))) dNil)) (dCB gRpr (dCons (dCall 2 F_way (dCons (dVar 9) (dCons (dVar 10) dNil))) dNil)))) (sRet (dC (.bl false))) sNx)
  (sIf (dTest (dBin oNe (dCB gRpr (dCons (dCall 3 F_winds_way (dCons (dVar 5) (dCons (dVar 7) (dCons (dVar 7) dNil)))) dNil)) (dCB gRpr (dCons (dTup (dCons (dTup dNil) (dCons (dTup dNil) dNil))) dNil)))) (sRet (dC (.bl false))) sNx)))))
theorem filter_self (l : List Nat) : l.filter (· ∉ l) = [] := List.filter_eq_nil_iff.mpr fun x hx => by simpa using hx
theorem lap_ok {C : CH} {r b qk : Nat} {n : Int} {S : List D} {ws : List (Option Nat)} {script : D} {s1 s3 s4 s7 s8 s9 s10 : Option D} (m : MOk C r b n) (hn : n < 900000) (hk : C[qk]? = some (.lst (encs ws))) (bk : b ≤ qk) (g : Good S ws) (hS : S.length ≤ 400) :
    ∃ C' t7 t8 t9 t10, lapBody [some script, s1, some (.ref r), s3, s4, some (.tup S), some (.ref qk), s7, s8, s9, s10] C = .nx [some script, s1, some (.ref r), s3, s4, some (.tup S), some (.ref qk), t7, t8, t9, t10] C' ∧ MOk C' r b (n + 2) ∧ C'[qk]? = some (.lst (encs ws)) := by
  have e0 : encs ws ≠ [] := by simpa [encs] using g.1
  have el : (encs ws).length < 1000000 := by have := g.2.1; simp [encs]; omega
  obtain ⟨o1, x1, e1, hx1, m1⟩ := of_ok m (by omega) hk bk e0 el
  have hk1 : (C.set r o1)[qk]? = some (.lst (encs ws)) := by rw [get_wr m.rb bk]; exact hk
  obtain ⟨o2, x2, e2, hx2, m2⟩ := of_ok m1 (by omega) hk1 bk e0 el
  have hk2 : ((C.set r o1).set r o2)[qk]? = some (.lst (encs ws)) := by rw [get_wr m.rb bk]; exact hk1
  obtain ⟨w1, hw1, rfl⟩ := mem_encs hx1
  obtain ⟨w2, hw2, rfl⟩ := mem_encs hx2
  obtain ⟨l1, c1, z1⟩ := g.2.2 w1 hw1
  obtain ⟨l2, c2, z2⟩ := g.2.2 w2 hw2
  have gl := g.2.1
  generalize hC2 : (C.set r o1).set r o2 = C2 at e1 e2 m2 hk2
  have e3 := list_eq c1 (by omega) (by omega) C2
  have e4 := list_eq c2 (by omega) (by omega) (C2 ++ [.lst (nats l1)])
  have q1 : (C2 ++ [O.lst (nats l1)] ++ [O.lst (nats l2)])[C2.length]? = some (.lst (nats l1)) := app_get
  have q2 : (C2 ++ [O.lst (nats l1)] ++ [O.lst (nats l2)])[(C2 ++ [O.lst (nats l1)]).length]? = some (.lst (nats l2)) := get_new _ _
  have k4 : (C2 ++ [O.lst (nats l1)] ++ [O.lst (nats l2)])[qk]? = some (.lst (encs ws)) := get_old (get_old hk2)
  have m4 := (m2.app (.lst (nats l1))).app (.lst (nats l2))
  generalize hC4 : C2 ++ [O.lst (nats l1)] ++ [O.lst (nats l2)] = C4 at e4 q1 q2 k4 m4
  have b1 : ∀ a ∈ l1, a < 1000000 := fun a ha => by have := c1.lt a ha; omega
  have b2 : ∀ a ∈ l2, a < 1000000 := fun a ha => by have := c2.lt a ha; omega
  have f1 : F_winds_of [.tup S, encW w1] C4 = _ := of_eq c1 (by omega) C4
  have f2 : F_winds_way [.tup S, encW w1, encW w2] C4 = _ := way_eq c1 c2 (by omega) (by omega) C4
  have f3 : F_winds_way [.tup S, encW w1, encW w1] C4 = _ := way_eq c1 c1 (by omega) (by omega) C4
  rw [wayD_eq c1 c2] at f2
  rw [wayD_eq c1 c1, filter_self, show nats [] = [] from rfl, List.reverse_nil, show nats [] = [] from rfl] at f3
  have f4 := F_way_eq q1 q2 (by omega) (by omega)
  have r1 := gR1 b1 (by omega) C4
  have lf1 : (l1.filter (· ∉ l2)).length ≤ 1000 := Nat.le_trans (List.length_filter_le _ _) (by omega)
  have lf2 : (l2.filter (· ∉ l1)).reverse.length ≤ 1000 := by rw [List.length_reverse]; exact Nat.le_trans (List.length_filter_le _ _) (by omega)
  have r2 := gR2 (l1 := l1.filter (· ∉ l2)) (l2 := (l2.filter (· ∉ l1)).reverse) (fun a ha => b1 a (List.mem_filter.mp ha).1) (fun a ha => b2 a (List.mem_filter.mp (List.mem_reverse.mp ha)).1) lf1 lf2 C4
  have r3 : gRpr [.tup [.tup [], .tup []]] C4 = _ := gR2 (l1 := []) (l2 := []) (by simp) (by simp) (by simp) (by simp) C4
  refine ⟨C4, some (encW w1), some (encW w2), some (.ref C2.length), some (.ref (C2 ++ [O.lst (nats l1)]).length), ?_, m4.mono (Nat.le_refl _) (by omega), k4⟩
  simp only [fnBody, startD, sSeq, sIf, sAsg, sPut, sRet, sRetN, sDrop, sNx, sPar, sFor, dTest, dBin, dVar, dC, dCB, dCons, dNil, dTup, dLst, dSl, dPN, dPS, dRev, revO, dBM, isLst, dIf, dAnd, dOr, dNot, dTru, truB, dCall, dNeg, dNewK, dNewT, gN, gT, gsN, gsC, iR1, iR2, iSeq, srcOf, itemsOf, List.map_cons, List.map_nil, List.length_cons, List.length_nil, Nat.reduceAdd, Nat.reduceSub, Nat.reduceLeDiff, List.replicate_succ, List.replicate_zero, List.cons_append, List.nil_append, List.getElem?_cons_zero, List.getElem?_cons_succ, List.set_cons_zero, List.set_cons_succ, Res.bind_ok, Res.st_ok, Option.map_some, Option.bind_some, Res.lift_some, oAdd_i, oSub_i, oLt_i, oLe_i, oGt_i, oGe_i, oEq_i, oNe_i, oEq_s, oNe_s, if_true, if_false, reduceIte, Bool.false_eq_true, gInt, gLen2, gLen, Cl.gTup, gList, optS_some, SOut.seq_nx, SOut.seq_rt, SOut.seq_bk, SOut.seq_ct, bodyOut, atI_0, atI_1, atI_2, atI_3, atI_4, atI_5, oSub2_tup, oSub2_fl, Option.orElse_some, g2I, decide_true, decide_false, slO, dDct, dPairs, keyed, Int.reduceAdd, Int.reduceMul, lapBody, e1, e2, hC2, e3, e4, hC4, f1, q1, r1, f2, f4, r2, f3, r3, eq_self, Bool.not_true]
noncomputable def F_law : List D → CH → Res D := fnBody 11 (g_law F_winds_way F_winds_of F_way F_list F_of F_store F_draw F_begun)
noncomputable def kBody : Fs := (sSeq (sAsg (gN 2) (dCall 2 F_begun (dCons (dVar 0) (dCons (dVar 1) dNil))))
  (sSeq (sAsg (gT 2 (gsC (gN 5) (gsC (gN 6) gsN))) (dCall 2 F_store (dCons (dVar 2) (dCons (dBin oAdd (dC (.int 1)) (dCall 2 F_draw (dCons (dVar 2) (dCons (dC (.int 40)) dNil)))) dNil))))
  (sSeq (sFor (iR1 (dCons (dC (.int 6)) dNil)) (gN 3) lapBody)
  (sSeq (sAsg (gN 4) (dBin oSub2 (dVar 6) (dNeg (dC (.int 1)))))
  (sSeq (sIf (dTest (dBin oNe (dCB gRpr (dCons (dCall 3 F_winds_way (dCons (dVar 5) (dCons (dVar 4) (dCons (dTup dNil) dNil)))) dNil)) (dCB gRpr (dCons (dTup (dCons (dCall 2 F_winds_of (dCons (dVar 5) (dCons (dVar 4) dNil))) (dCons (dTup dNil) dNil))) dNil)))) (sRet (dC (.bl false))) sNx)
  (sIf (dTest (dBin oNe (dCB gRpr (dCons (dCall 3 F_winds_way (dCons (dVar 5) (dCons (dTup dNil) (dCons (dVar 4) dNil)))) dNil)) (dCB gRpr (dCons (dTup (dCons (dTup dNil) (dCons (dRev (dCall 2 F_winds_of (dCons (dVar 5) (dCons (dVar 4) dNil)))) dNil))) dNil)))) (sRet (dC (.bl false))) sNx))))))
theorem law_form : g_law F_winds_way F_winds_of F_way F_list F_of F_store F_draw F_begun = sSeq (sFor (iR1 (dCons (dC (.int 3)) dNil)) (gN 1) kBody) (sRet (dC (.bl true))) := rfl
theorem k_ok {ns : List Int} (hl : ns.length ≤ 63) (C : CH) {k : Int} (k0 : 0 ≤ k) (k3 : k < 100) (s2 s3 s4 s5 s6 s7 s8 s9 s10 : Option D) : ∃ C' t2 t3 t4 t5 t6 t7 t8 t9 t10,
    kBody [some (.fl (intsD ns)), some (.int k), s2, s3, s4, s5, s6, s7, s8, s9, s10] C = .nx [some (.fl (intsD ns)), some (.int k), t2, t3, t4, t5, t6, t7, t8, t9, t10] C' := by
  obtain ⟨r, C1, e1, m1⟩ := begun_ok C hl k0 k3
  obtain ⟨v, o, e2, v0, v1, m2⟩ := draw_ok m1 (b := 40) (by decide) (by decide) (by decide)
  obtain ⟨C3, S, qk, ws, e3, m3, hk, bk, g, hS⟩ := store_ok (many := 1 + v) m2 (by rw [List.length_set]; exact Nat.le_refl _) (by decide) (by omega) (by omega)
  have hS2 : S.length ≤ 400 := by omega
  obtain ⟨sc', C4, e4, n4, t3, t7, t8, t9, t10, rfl, m4, hn4, hk4⟩ := fr_inv (chk := fun _ => True) (g := gN 3) (b := lapBody) (rngD 0 (6 : Int).toNat)
    (fun i sc C => ∃ n t3 t7 t8 t9 t10, sc = [some (.fl (intsD ns)), some (.int k), some (.ref r), t3, s4, some (.tup S), some (.ref qk), t7, t8, t9, t10] ∧ MOk C r C1.length n ∧ n ≤ 2000 + 2 * i ∧ C[qk]? = some (.lst (encs ws)))
    [some (.fl (intsD ns)), some (.int k), some (.ref r), s3, s4, some (.tup S), some (.ref qk), s7, s8, s9, s10] C3 ⟨_, s3, s7, s8, s9, s10, rfl, m3, by omega, hk⟩ (fun _ _ _ _ => trivial) (fun i d sc C hd ⟨n, t3, t7, t8, t9, t10, e, m, hn, hk⟩ => by
      subst e
      have hi : i < 6 := by simpa [rngD] using (List.getElem?_eq_some_iff.mp hd).1
      obtain ⟨C', u7, u8, u9, u10, e', m', hk'⟩ := lap_ok (script := .fl (intsD ns)) (s1 := some (.int k)) (s3 := some d) (s4 := s4) (s7 := t7) (s8 := t8) (s9 := t9) (s10 := t10) m (by omega) hk bk g hS2
      exact ⟨_, rfl, _, C', .inl e', n + 2, some d, u7, u8, u9, u10, rfl, m', by push_cast; omega, hk'⟩)
  have bs := rng1_i (j := 6) (by decide) (by decide)
  obtain ⟨w, hw, ew⟩ := last_enc g.1
  obtain ⟨l, c, z⟩ := g.2.2 w hw
  have gl := g.2.1
  have b1 : ∀ a ∈ l, a < 1000000 := fun a ha => by have := c.lt a ha; omega
  have f1 : F_winds_of [.tup S, encW w] C4 = _ := of_eq c (by omega) C4
  have f2 : F_winds_way [.tup S, encW w, .tup []] C4 = _ := way_eq c (w2 := none) .nil (by omega) (by simp) C4
  have f3 : F_winds_way [.tup S, .tup [], encW w] C4 = _ := way_eq (w1 := none) .nil c (by simp) (by omega) C4
  have fn : l.filter (· ∉ ([] : List Nat)) = l := List.filter_eq_self.mpr fun x _ => by simp
  rw [wayD_eq c (w2 := none) .nil, fn, List.filter_nil, List.reverse_nil, show nats [] = [] from rfl] at f2
  rw [wayD_eq (w1 := none) .nil c, fn, List.filter_nil, show nats [] = [] from rfl] at f3
  have r2 : gRpr [.tup [.tup (nats l), .tup []]] C4 = _ := gR2 (l1 := l) (l2 := []) b1 (by simp) (by omega) (by simp) C4
  have r3 : gRpr [.tup [.tup [], .tup (nats l.reverse)]] C4 = _ := gR2 (l1 := []) (l2 := l.reverse) (by simp) (fun a ha => b1 a (List.mem_reverse.mp ha)) (by simp) (by rw [List.length_reverse]; omega) C4
  refine ⟨C4, some (.ref r), t3, some (encW w), some (.tup S), some (.ref qk), t7, t8, t9, t10, ?_⟩
  simp only [fnBody, startD, sSeq, sIf, sAsg, sPut, sRet, sRetN, sDrop, sNx, sPar, sFor, dTest, dBin, dVar, dC, dCB, dCons, dNil, dTup, dLst, dSl, dPN, dPS, dRev, revO, dBM, isLst, dIf, dAnd, dOr, dNot, dTru, truB, dCall, dNeg, dNewK, dNewT, gN, gT, gsN, gsC, iR1, iR2, iSeq, srcOf, itemsOf, List.map_cons, List.map_nil, List.length_cons, List.length_nil, Nat.reduceAdd, Nat.reduceSub, Nat.reduceLeDiff, List.replicate_succ, List.replicate_zero, List.cons_append, List.nil_append, List.getElem?_cons_zero, List.getElem?_cons_succ, List.set_cons_zero, List.set_cons_succ, Res.bind_ok, Res.st_ok, Option.map_some, Option.bind_some, Res.lift_some, oAdd_i, oSub_i, oLt_i, oLe_i, oGt_i, oGe_i, oEq_i, oNe_i, oEq_s, oNe_s, if_true, if_false, reduceIte, Bool.false_eq_true, gInt, gLen2, gLen, Cl.gTup, gList, optS_some, SOut.seq_nx, SOut.seq_rt, SOut.seq_bk, SOut.seq_ct, bodyOut, atI_0, atI_1, atI_2, atI_3, atI_4, atI_5, oSub2_tup, oSub2_fl, Option.orElse_some, g2I, decide_true, decide_false, slO, dDct, dPairs, keyed, Int.reduceAdd, Int.reduceMul, kBody, e1, e2, e3, bs, e4, oSub2_lst hk4, ew, f1, f2, r2, f3, nats_rev, r3, eq_self, Bool.not_true]
theorem law_ok (ns : List Int) (hl : ns.length ≤ 63) : ∃ C, F_law [.fl (intsD ns)] [] = .ok (.bl true) C := by
  obtain ⟨sc', C4, e4, t1, t2, t3, t4, t5, t6, t7, t8, t9, t10, rfl⟩ := fr_inv (chk := fun _ => True) (g := gN 1) (b := kBody) (rngD 0 (3 : Int).toNat)
    (fun i sc C => ∃ t1 t2 t3 t4 t5 t6 t7 t8 t9 t10, sc = [some (.fl (intsD ns)), t1, t2, t3, t4, t5, t6, t7, t8, t9, t10])
    [some (.fl (intsD ns)), none, none, none, none, none, none, none, none, none, none] [] ⟨_, _, _, _, _, _, _, _, _, _, rfl⟩ (fun _ _ _ _ => trivial) (fun i d sc C hd ⟨t1, t2, t3, t4, t5, t6, t7, t8, t9, t10, e⟩ => by
      subst e
      have hi : i < 3 := by simpa [rngD] using (List.getElem?_eq_some_iff.mp hd).1
      have hd : d = .int (0 + (i : Int)) := by
        rw [rngD, List.getElem?_map, List.getElem?_range (show i < (3 : Int).toNat from hi)] at hd
        exact (Option.some.inj hd).symm
      subst hd
      obtain ⟨C', u2, u3, u4, u5, u6, u7, u8, u9, u10, e'⟩ := k_ok hl C (k := 0 + (i : Int)) (by omega) (by omega) t2 t3 t4 t5 t6 t7 t8 t9 t10
      exact ⟨_, rfl, _, C', .inl e', _, _, _, _, _, _, _, _, _, _, rfl⟩)
  have bs := rng1_i (j := 3) (by decide) (by decide)
  refine ⟨C4, ?_⟩
  unfold F_law
  rw [law_form]
  simp only [fnBody, startD, sSeq, sIf, sAsg, sPut, sRet, sRetN, sDrop, sNx, sPar, sFor, dTest, dBin, dVar, dC, dCB, dCons, dNil, dTup, dLst, dSl, dPN, dPS, dRev, revO, dBM, isLst, dIf, dAnd, dOr, dNot, dTru, truB, dCall, dNeg, dNewK, dNewT, gN, gT, gsN, gsC, iR1, iR2, iSeq, srcOf, itemsOf, List.map_cons, List.map_nil, List.length_cons, List.length_nil, Nat.reduceAdd, Nat.reduceSub, Nat.reduceLeDiff, List.replicate_succ, List.replicate_zero, List.cons_append, List.nil_append, List.getElem?_cons_zero, List.getElem?_cons_succ, List.set_cons_zero, List.set_cons_succ, Res.bind_ok, Res.st_ok, Option.map_some, Option.bind_some, Res.lift_some, oAdd_i, oSub_i, oLt_i, oLe_i, oGt_i, oGe_i, oEq_i, oNe_i, oEq_s, oNe_s, if_true, if_false, reduceIte, Bool.false_eq_true, gInt, gLen2, gLen, Cl.gTup, gList, optS_some, SOut.seq_nx, SOut.seq_rt, SOut.seq_bk, SOut.seq_ct, bodyOut, atI_0, atI_1, atI_2, atI_3, atI_4, atI_5, oSub2_tup, oSub2_fl, Option.orElse_some, g2I, decide_true, decide_false, slO, dDct, dPairs, keyed, Int.reduceAdd, Int.reduceMul, bs, e4]
end Lw
/-! Printed by gen.py: the derivations. -/
namespace Lw
open PySem PySem.Spec L2 Cl

def top (i : Nat) : Stmt := PySem.Challenge.pw_keptrest_k19_ways_of_winds.main.body.getD i (.Pass ⟨0, 0, 0, 0⟩)
abbrev s_wind_line : Stmt := top 1
abbrev s_winds_of : Stmt := top 3
abbrev s_winds_way : Stmt := top 4
abbrev s__law_begun : Stmt := top 6
abbrev s__law_draw : Stmt := top 7
abbrev s__law_of : Stmt := top 8
abbrev s__law_store : Stmt := top 9
abbrev s__law_list : Stmt := top 10
abbrev s__law_way : Stmt := top 11
abbrev s_law : Stmt := top 12
/-- a def of the text as it stands behind the top -/
structure Def1 (K : PySem.W.Frag) (mg : Str → Option Value) (x : Str) (st : Stmt) (ps : List Str) where
  f : Addr
  fd : FuncData
  fu : Fun K x x st f fd
  m : mg x = some (.ref f)
  b : Binds K fd ps []
structure Txt (K : PySem.W.Frag) (mg : Str → Option Value) where
  d_wind_line : Def1 K mg "wind_line" s_wind_line ["store", "winds"]
  d_winds_of : Def1 K mg "winds_of" s_winds_of ["store", "winds"]
  d_winds_way : Def1 K mg "winds_way" s_winds_way ["store", "one", "other"]
  d__law_begun : Def1 K mg "_law_begun" s__law_begun ["script", "k"]
  d__law_draw : Def1 K mg "_law_draw" s__law_draw ["m", "below"]
  d__law_of : Def1 K mg "_law_of" s__law_of ["m", "some"]
  d__law_store : Def1 K mg "_law_store" s__law_store ["m", "many"]
  d__law_list : Def1 K mg "_law_list" s__law_list ["store", "value"]
  d__law_way : Def1 K mg "_law_way" s__law_way ["one", "other"]
  d_law : Def1 K mg "law" s_law ["script"]
  b_int : mg "int" = none
  b_len : mg "len" = none
  b_min : mg "min" = none
  b_range : mg "range" = none
  b_repr : mg "repr" = none
  b_tuple : mg "tuple" = none
section
variable {P : Program} {w : World} {K : PySem.W.Frag} {mg : Str → Option Value} {base : Heap}
theorem sc_wind_line : FnScope ["store", "winds", "found"] ["store", "winds"] (defScope s_wind_line) := ⟨rfl, rfl, rfl, by decide +kernel, rfl, by decide +kernel, by decide +kernel⟩
theorem ok_wind_line (T : Txt K mg) : FnG P w K mg base 2 T.d_wind_line.f T.d_wind_line.fd ["store", "winds"] (fnBody 3 (g_wind_line)) :=
  FnG.of (N := ["store", "winds", "found"]) T.d_wind_line.fu sc_wind_line fun cdv A outer s H E c =>
  (csC (csSet 2 c (cLst caN))
  (csC (csWh c (tNe c (cv 1) (cTup caN)) (csC (csE (cApp (cv 2) (caC (cSubs c (cv 1) cInt (fun _ _ => rfl)) caN)))
  (csO (csSet 1 c (cSubs c (cSubs c (cv 0) (cSubs c (cv 1) cInt (fun _ _ => rfl)) (fun _ _ => rfl)) cInt (fun _ _ => rfl))))))
  (csO (csRet (cTupOf rfl T.b_tuple (caC (cv 2) caN))))))

theorem sc_winds_of : FnScope ["store", "winds"] ["store", "winds"] (defScope s_winds_of) := ⟨rfl, rfl, rfl, by decide +kernel, rfl, by decide +kernel, by decide +kernel⟩
theorem ok_winds_of (T : Txt K mg) {F_wind_line : List D → CH → Res D} (h_wind_line : FnG P w K mg base 2 T.d_wind_line.f T.d_wind_line.fd ["store", "winds"] F_wind_line) : FnG P w K mg base 3 T.d_winds_of.f T.d_winds_of.fd ["store", "winds"] (fnBody 2 (g_winds_of F_wind_line)) :=
  FnG.of (N := ["store", "winds"]) T.d_winds_of.fu sc_winds_of fun cdv A outer s H E c =>
  (csO (csRet (cCall c h_wind_line (by decide) T.d_wind_line.m T.d_wind_line.fu.kp T.d_wind_line.b (caC (cv 0) (caC (cv 1) caN)) 2)))

theorem sc_winds_way : FnScope ["store", "one", "other", "shared", "left", "entered"] ["store", "one", "other"] (defScope s_winds_way) := ⟨rfl, rfl, rfl, by decide +kernel, rfl, by decide +kernel, by decide +kernel⟩
theorem ok_winds_way (T : Txt K mg) {F_wind_line : List D → CH → Res D} (h_wind_line : FnG P w K mg base 2 T.d_wind_line.f T.d_wind_line.fd ["store", "winds"] F_wind_line) : FnG P w K mg base 3 T.d_winds_way.f T.d_winds_way.fd ["store", "one", "other"] (fnBody 6 (g_winds_way F_wind_line)) :=
  FnG.of (N := ["store", "one", "other", "shared", "left", "entered"]) T.d_winds_way.fu sc_winds_way fun cdv A outer s H E c =>
  (csC (csPar c (caC (cCall c h_wind_line (by decide) T.d_wind_line.m T.d_wind_line.fu.kp T.d_wind_line.b (caC (cv 0) (caC (cv 1) caN)) 2) (caC (cCall c h_wind_line (by decide) T.d_wind_line.m T.d_wind_line.fu.kp T.d_wind_line.b (caC (cv 0) (caC (cv 2) caN)) 2) caN)))
  (csC (csSet 3 c cInt)
  (csC (csWh c (ctW (cwAnd (tLt (cv 3) (cMin2 c rfl T.b_min (caC (cLen rfl T.b_len (caC (cv 4) caN)) (caC (cLen rfl T.b_len (caC (cv 5) caN)) caN)))) (cwAnd1 (tEq c (cSubs c (cv 4) (cSub (cNeg cInt) (cv 3)) (fun _ _ => rfl)) (cSubs c (cv 5) (cSub (cNeg cInt) (cv 3)) (fun _ _ => rfl)))))) (csO (csSet 3 c (cAdd (cv 3) cInt))))
  (csO (csRet (cTup (caC (cSl (cv 4) coN (coS (cSub (cLen rfl T.b_len (caC (cv 4) caN)) (cv 3)))) (caC (cRev (cSl (cv 5) coN (coS (cSub (cLen rfl T.b_len (caC (cv 5) caN)) (cv 3))))) caN))))))))

theorem sc__law_begun : FnScope ["script", "k", "cells", "great", "begun", "cell"] ["script", "k"] (defScope s__law_begun) := ⟨rfl, rfl, rfl, by decide +kernel, rfl, by decide +kernel, by decide +kernel⟩
theorem ok__law_begun (T : Txt K mg) : FnG P w K mg base 2 T.d__law_begun.f T.d__law_begun.fd ["script", "k"] (fnBody 6 (g__law_begun)) :=
  FnG.of (N := ["script", "k", "cells", "great", "begun", "cell"]) T.d__law_begun.fu sc__law_begun fun cdv A outer s H E c =>
  (csC (csSet 2 c (cAdd (cSl (cv 0) (coS (cv 1)) coN) (cSl (cv 0) coN (coS (cv 1)))))
  (csC (csLc 3 [("cell", 5)] c (sw_true rfl rfl rfl (by decide +kernel)) (ciSeq (cv 0)) (blkOk_by (N := ["script", "k", "cells", "great", "begun", "cell"]) (sc := defScope s__law_begun) (by decide +kernel)) (fun _ _ _ _ _ c' => (cgN 5 c'.nd)) (fun _ _ _ _ _ c' => (ctsO (tGe (cv 5) (cPow cInt cInt)))) (fun _ _ _ _ _ c' => (cv 5)))
  (csC (csSet 4 c (cAdd cInt (cMul cInt (cv 1))))
  (csC (csFor c (ciSeq (cv 2)) (cgN 5 c.nd) (csO (csSet 4 c (cMod (cIntOf rfl T.b_int (caC (cAdd (cMul (cv 4) cInt) (cv 5)) caN)) cInt))))
  (csO (csRet (cDct (cpsC cStr (cIf (tLt (cv 1) (cLen rfl T.b_len (caC (cv 3) caN))) (cSubs c (cv 3) (cv 1) (fun _ _ => rfl)) cInt) (cpsC cStr (cv 4) (cpsC cStr (cAdd (cv 2) (cLst (caC (cAdd (cMul cInt (cv 1)) cInt) caN))) (cpsC cStr cInt (cpsC cStr cInt cpsN))))))))))))

theorem sc__law_draw : FnScope ["m", "below", "spot", "cell", "blend", "found", "cells", "added"] ["m", "below"] (defScope s__law_draw) := ⟨rfl, rfl, rfl, by decide +kernel, rfl, by decide +kernel, by decide +kernel⟩
theorem ok__law_draw (T : Txt K mg) : FnG P w K mg base 2 T.d__law_draw.f T.d__law_draw.fd ["m", "below"] (fnBody 8 (g__law_draw)) :=
  FnG.of (N := ["m", "below", "spot", "cell", "blend", "found", "cells", "added"]) T.d__law_draw.fu sc__law_draw fun cdv A outer s H E c =>
  (csC (csIf (tGt (cSubs c (cv 0) cStr (fun _ _ => rfl)) cInt) (csC (csSet 5 c (cMod (cIntOf rfl T.b_int (caC (cSubs c (cv 0) cStr (fun _ _ => rfl)) caN)) (cv 1)))
  (csC (csPut c (cv 0) cStr (cDiv (cSubs c (cv 0) cStr (fun _ _ => rfl)) (cv 1)))
  (csO (csRet (cv 5))))) csN)
  (csC (csSet 2 c (cSubs c (cv 0) cStr (fun _ _ => rfl)))
  (csC (csPut c (cv 0) cStr (cAdd (cv 2) cInt))
  (csC (csPar c (caC (cSubs c (cv 0) cStr (fun _ _ => rfl)) (caC (cAdd (cSubs c (cv 0) cStr (fun _ _ => rfl)) (cMul (cMul cInt (cv 2)) (cv 2))) caN)))
  (csC (csSet 3 c (cSubs c (cv 6) (cMod (cIntOf rfl T.b_int (caC (cv 2) caN)) (cLen rfl T.b_len (caC (cv 6) caN))) (fun _ _ => rfl)))
  (csC (csSet 4 c (cMod (cIntOf rfl T.b_int (caC (cAdd (cMul (cv 3) (cAdd (cMul cInt (cv 2)) cInt)) (cv 7)) caN)) cInt))
  (csC (csSet 4 c (cMod (cIntOf rfl T.b_int (caC (cAdd (cAdd (cMul (cv 4) (cv 4)) (cMul cInt (cv 2))) (cSubs c (cv 0) cStr (fun _ _ => rfl))) caN)) cInt))
  (csO (csRet (cMod (cDiv (cMod (cIntOf rfl T.b_int (caC (cAdd (cMul (cv 4) cInt) (cv 2)) caN)) cInt) cInt) (cv 1)))))))))))

theorem sc__law_of : FnScope ["m", "some"] ["m", "some"] (defScope s__law_of) := ⟨rfl, rfl, rfl, by decide +kernel, rfl, by decide +kernel, by decide +kernel⟩
theorem ok__law_of (T : Txt K mg) {F__law_draw : List D → CH → Res D} (h__law_draw : FnG P w K mg base 2 T.d__law_draw.f T.d__law_draw.fd ["m", "below"] F__law_draw) : FnG P w K mg base 3 T.d__law_of.f T.d__law_of.fd ["m", "some"] (fnBody 2 (g__law_of F__law_draw)) :=
  FnG.of (N := ["m", "some"]) T.d__law_of.fu sc__law_of fun cdv A outer s H E c =>
  (csO (csRet (cSubs c (cv 1) (cCall c h__law_draw (by decide) T.d__law_draw.m T.d__law_draw.fu.kp T.d__law_draw.b (caC (cv 0) (caC (cLen rfl T.b_len (caC (cv 1) caN)) caN)) 2) (fun _ _ => rfl))))

theorem sc__law_store : FnScope ["m", "many", "k", "store", "known", "lap", "rest"] ["m", "many"] (defScope s__law_store) := ⟨rfl, rfl, rfl, by decide +kernel, rfl, by decide +kernel, by decide +kernel⟩
theorem ok__law_store (T : Txt K mg) {F__law_draw : List D → CH → Res D} (h__law_draw : FnG P w K mg base 2 T.d__law_draw.f T.d__law_draw.fd ["m", "below"] F__law_draw) {F__law_of : List D → CH → Res D} (h__law_of : FnG P w K mg base 3 T.d__law_of.f T.d__law_of.fd ["m", "some"] F__law_of) : FnG P w K mg base 4 T.d__law_store.f T.d__law_store.fd ["m", "many"] (fnBody 7 (g__law_store F__law_draw F__law_of)) :=
  FnG.of (N := ["m", "many", "k", "store", "known", "lap", "rest"]) T.d__law_store.fu sc__law_store fun cdv A outer s H E c =>
  (csC (csPar c (caC (cLst (caC (cTup (caC cStr (caC (cTup (caC cInt caN)) (caC (cTup caN) caN)))) (caC (cTup (caC cStr (caC cInt caN))) caN))) (caC (cLst (caC (cTup caN) caN)) caN)))
  (csC (csFor c (ciR1 rfl T.b_range (caC (cv 1) caN)) (cgN 2 c.nd) (csC (csFor c (ciR1 rfl T.b_range (caC (cCall c h__law_draw (by decide) T.d__law_draw.m T.d__law_draw.fu.kp T.d__law_draw.b (caC (cv 0) (caC cInt caN)) 2) caN)) (cgN 5 c.nd) (csO (csE (cApp (cv 3) (caC (cCall c h__law_of (by decide) T.d__law_of.m T.d__law_of.fu.kp T.d__law_of.b (caC (cv 0) (caC (cLst (caC (cTup (caC cStr (caC (cTup (caC cStr (caC cInt caN))) (caC (cv 2) caN)))) (caC (cTup (caC cStr (caC (cTup caN) caN))) (caC (cTup (caC cStr (caC (cTup (caC cInt (caC (cv 2) caN))) (caC (cTup (caC (cTup (caC cInt (caC cInt caN))) caN)) caN)))) caN)))) caN)) 2) caN)))))
  (csC (csSet 6 c (cIf (tGt (cCall c h__law_draw (by decide) T.d__law_draw.m T.d__law_draw.fu.kp T.d__law_draw.b (caC (cv 0) (caC cInt caN)) 2) cInt) (cSubs c (cv 4) (cNeg cInt) (fun _ _ => rfl)) (cCall c h__law_of (by decide) T.d__law_of.m T.d__law_of.fu.kp T.d__law_of.b (caC (cv 0) (caC (cv 4) caN)) 2)))
  (csC (csE (cApp (cv 3) (caC (cTup (caC cStr (caC (cTup (caC (cv 2) caN)) (caC (cTup (caC cStr (caC cInt caN))) (caC (cTup (caC cStr (caC cInt caN))) (caC (cv 6) caN)))))) caN)))
  (csO (csE (cApp (cv 4) (caC (cTup (caC cStr (caC (cSub (cLen rfl T.b_len (caC (cv 3) caN)) cInt) caN))) caN))))))))
  (csO (csRet (cTup (caC (cTupOf rfl T.b_tuple (caC (cv 3) caN)) (caC (cv 4) caN)))))))

theorem sc__law_list : FnScope ["store", "value", "found", "lap"] ["store", "value"] (defScope s__law_list) := ⟨rfl, rfl, rfl, by decide +kernel, rfl, by decide +kernel, by decide +kernel⟩
theorem ok__law_list (T : Txt K mg) : FnG P w K mg base 2 T.d__law_list.f T.d__law_list.fd ["store", "value"] (fnBody 4 (g__law_list)) :=
  FnG.of (N := ["store", "value", "found", "lap"]) T.d__law_list.fu sc__law_list fun cdv A outer s H E c =>
  (csC (csSet 2 c (cLst caN))
  (csC (csFor c (ciR1 rfl T.b_range (caC (cLen rfl T.b_len (caC (cv 0) caN)) caN)) (cgN 3 c.nd) (csO (csIf (tNe c (cv 1) (cTup caN)) (csC (csE (cApp (cv 2) (caC (cSubs c (cv 1) cInt (fun _ _ => rfl)) caN)))
  (csO (csSet 1 c (cSubs c (cSubs c (cv 0) (cSubs c (cv 1) cInt (fun _ _ => rfl)) (fun _ _ => rfl)) cInt (fun _ _ => rfl))))) csN)))
  (csO (csRet (cv 2)))))

theorem sc__law_way : FnScope ["one", "other", "left", "entered", "spot"] ["one", "other"] (defScope s__law_way) := ⟨rfl, rfl, rfl, by decide +kernel, rfl, by decide +kernel, by decide +kernel⟩
theorem ok__law_way (T : Txt K mg) : FnG P w K mg base 2 T.d__law_way.f T.d__law_way.fd ["one", "other"] (fnBody 5 (g__law_way)) :=
  FnG.of (N := ["one", "other", "left", "entered", "spot"]) T.d__law_way.fu sc__law_way fun cdv A outer s H E c =>
  (csC (csLc 2 [("spot", 4)] c (sw_true rfl rfl rfl (by decide +kernel)) (ciSeq (cv 0)) (blkOk_by (N := ["one", "other", "left", "entered", "spot"]) (sc := defScope s__law_way) (by decide +kernel)) (fun _ _ _ _ _ c' => (cgN 4 c'.nd)) (fun _ _ _ _ _ c' => (ctsO (tNotIn c' (cv 4) (cv 1) rfl))) (fun _ _ _ _ _ c' => (cv 4)))
  (csC (csLc 3 [("spot", 4)] c (sw_true rfl rfl rfl (by decide +kernel)) (ciSeq (cv 1)) (blkOk_by (N := ["one", "other", "left", "entered", "spot"]) (sc := defScope s__law_way) (by decide +kernel)) (fun _ _ _ _ _ c' => (cgN 4 c'.nd)) (fun _ _ _ _ _ c' => (ctsO (tNotIn c' (cv 4) (cv 0) rfl))) (fun _ _ _ _ _ c' => (cv 4)))
  (csO (csRet (cTup (caC (cTupOf rfl T.b_tuple (caC (cv 2) caN)) (caC (cTupOf rfl T.b_tuple (caC (cRev (cv 3)) caN)) caN)))))))

theorem sc_law : FnScope ["script", "k", "m", "lap", "end", "store", "known", "one", "other", "first", "second"] ["script"] (defScope s_law) := ⟨rfl, rfl, rfl, by decide +kernel, rfl, by decide +kernel, by decide +kernel⟩
theorem ok_law (T : Txt K mg) {F_winds_way : List D → CH → Res D} (h_winds_way : FnG P w K mg base 3 T.d_winds_way.f T.d_winds_way.fd ["store", "one", "other"] F_winds_way) {F_winds_of : List D → CH → Res D} (h_winds_of : FnG P w K mg base 3 T.d_winds_of.f T.d_winds_of.fd ["store", "winds"] F_winds_of) {F__law_way : List D → CH → Res D} (h__law_way : FnG P w K mg base 2 T.d__law_way.f T.d__law_way.fd ["one", "other"] F__law_way) {F__law_list : List D → CH → Res D} (h__law_list : FnG P w K mg base 2 T.d__law_list.f T.d__law_list.fd ["store", "value"] F__law_list) {F__law_of : List D → CH → Res D} (h__law_of : FnG P w K mg base 3 T.d__law_of.f T.d__law_of.fd ["m", "some"] F__law_of) {F__law_store : List D → CH → Res D} (h__law_store : FnG P w K mg base 4 T.d__law_store.f T.d__law_store.fd ["m", "many"] F__law_store) {F__law_draw : List D → CH → Res D} (h__law_draw : FnG P w K mg base 2 T.d__law_draw.f T.d__law_draw.fd ["m", "below"] F__law_draw) {F__law_begun : List D → CH → Res D} (h__law_begun : FnG P w K mg base 2 T.d__law_begun.f T.d__law_begun.fd ["script", "k"] F__law_begun) : FnG P w K mg base 5 T.d_law.f T.d_law.fd ["script"] (fnBody 11 (g_law F_winds_way F_winds_of F__law_way F__law_list F__law_of F__law_store F__law_draw F__law_begun)) :=
  FnG.of (N := ["script", "k", "m", "lap", "end", "store", "known", "one", "other", "first", "second"]) T.d_law.fu sc_law fun cdv A outer s H E c =>
  (csC (csFor c (ciR1 rfl T.b_range (caC cInt caN)) (cgN 1 c.nd) (csC (csSet 2 c (cCall c h__law_begun (by decide) T.d__law_begun.m T.d__law_begun.fu.kp T.d__law_begun.b (caC (cv 0) (caC (cv 1) caN)) 2))
  (csC (csAsg (cCall c h__law_store (by decide) T.d__law_store.m T.d__law_store.fu.kp T.d__law_store.b (caC (cv 2) (caC (cAdd cInt (cCall c h__law_draw (by decide) T.d__law_draw.m T.d__law_draw.fu.kp T.d__law_draw.b (caC (cv 2) (caC cInt caN)) 2)) caN)) 2) (cgT c (cgsC (cgN 5 c.nd) (cgsC (cgN 6 c.nd) cgsN))))
  (csC (csFor c (ciR1 rfl T.b_range (caC cInt caN)) (cgN 3 c.nd) (csC (csPar c (caC (cCall c h__law_of (by decide) T.d__law_of.m T.d__law_of.fu.kp T.d__law_of.b (caC (cv 2) (caC (cv 6) caN)) 2) (caC (cCall c h__law_of (by decide) T.d__law_of.m T.d__law_of.fu.kp T.d__law_of.b (caC (cv 2) (caC (cv 6) caN)) 2) caN)))
  (csC (csPar c (caC (cCall c h__law_list (by decide) T.d__law_list.m T.d__law_list.fu.kp T.d__law_list.b (caC (cv 5) (caC (cv 7) caN)) 2) (caC (cCall c h__law_list (by decide) T.d__law_list.m T.d__law_list.fu.kp T.d__law_list.b (caC (cv 5) (caC (cv 8) caN)) 2) caN)))
  (csC (csIf (tNe c (cRpr c rfl T.b_repr (caC (cCall c h_winds_of (by decide) T.d_winds_of.m T.d_winds_of.fu.kp T.d_winds_of.b (caC (cv 5) (caC (cv 7) caN)) 2) caN)) (cRpr c rfl T.b_repr (caC (cTupOf rfl T.b_tuple (caC (cv 9) caN)) caN))) (csO (csRet cBl)) csN)
  (csC (csIf (tNe c (cRpr c rfl T.b_repr (caC (cCall c h_winds_way (by decide) T.d_winds_way.m T.d_winds_way.fu.kp T.d_winds_way.b (caC (cv 5) (caC (cv 7) (caC (cv 8) caN))) 3) caN)) (cRpr c rfl T.b_repr (caC (cCall c h__law_way (by decide) T.d__law_way.m T.d__law_way.fu.kp T.d__law_way.b (caC (cv 9) (caC (cv 10) caN)) 2) caN))) (csO (csRet cBl)) csN)
  (csO (csIf (tNe c (cRpr c rfl T.b_repr (caC (cCall c h_winds_way (by decide) T.d_winds_way.m T.d_winds_way.fu.kp T.d_winds_way.b (caC (cv 5) (caC (cv 7) (caC (cv 7) caN))) 3) caN)) (cRpr c rfl T.b_repr (caC (cTup (caC (cTup caN) (caC (cTup caN) caN))) caN))) (csO (csRet cBl)) csN)))))))
  (csC (csSet 4 c (cSubs c (cv 6) (cNeg cInt) (fun _ _ => rfl)))
  (csC (csIf (tNe c (cRpr c rfl T.b_repr (caC (cCall c h_winds_way (by decide) T.d_winds_way.m T.d_winds_way.fu.kp T.d_winds_way.b (caC (cv 5) (caC (cv 4) (caC (cTup caN) caN))) 3) caN)) (cRpr c rfl T.b_repr (caC (cTup (caC (cCall c h_winds_of (by decide) T.d_winds_of.m T.d_winds_of.fu.kp T.d_winds_of.b (caC (cv 5) (caC (cv 4) caN)) 2) (caC (cTup caN) caN))) caN))) (csO (csRet cBl)) csN)
  (csO (csIf (tNe c (cRpr c rfl T.b_repr (caC (cCall c h_winds_way (by decide) T.d_winds_way.m T.d_winds_way.fu.kp T.d_winds_way.b (caC (cv 5) (caC (cTup caN) (caC (cv 4) caN))) 3) caN)) (cRpr c rfl T.b_repr (caC (cTup (caC (cTup caN) (caC (cRev (cCall c h_winds_of (by decide) T.d_winds_of.m T.d_winds_of.fu.kp T.d_winds_of.b (caC (cv 5) (caC (cv 4) caN)) 2)) caN))) caN))) (csO (csRet cBl)) csN))))))))
  (csO (csRet cBl)))

end
end Lw
/-! Printed by genz.py: the head and the end. -/
namespace Lw
open PySem PySem.Spec L2 Cl
section
variable {P : Program} {w : World} {K : PySem.W.Frag} {mg : Str → Option Value}
def Def1.of {h : Heap} {x : Str} {st : Stmt} {ps : List Str} {f : Addr} {oc : Value} {od an : Option Addr} {osl : Array (Option Value)} {kV doc pm cdv ct : Value} (X : K.In h) (G : h.Ns mainGlobals mg)
    (a : PySem.W.nsIn K mainGlobals x = some (some (.ref f))) (l : K.lookup f = some ⟨oc, od, .func (PySem.W.fnOf x x (defArgs st) (defBody st) (defScope st) .none kV doc pm an cdv ct), osl⟩)
    (c : PySem.W.codeIn K cdv x = true) (k : PySem.W.keepIn K (.ref f) = true)
    (hb : ∀ (kV doc pm : Value) (an : Option Addr) (cdv ct : Value) (us : List Value), us.length = ps.length → bindArgs (PySem.W.fnOf x x (defArgs st) (defBody st) (defScope st) .none kV doc pm an cdv ct) ⟨us, []⟩ = pure (ps.zip us)) : Def1 K mg x st ps :=
  ⟨f, PySem.W.fnOf x x (defArgs st) (defBody st) (defScope st) .none kV doc pm an cdv ct, fun_mk l c k, PySem.W.mg_of X G a, (fun_mk l c k).binds hb⟩
theorem law_k (T : Txt K mg) (base : Heap) : FnG P w K mg base 5 T.d_law.f T.d_law.fd ["script"] F_law := by
  have hline := (ok_wind_line (P := P) (w := w) (base := base) T).spec (fun ds C wf _ _ => line_cuts ds C wf)
  have hof := ok_winds_of T hline
  have hway := ok_winds_way T hline
  have hb := ok__law_begun (P := P) (w := w) (base := base) T
  have hdraw := ok__law_draw (P := P) (w := w) (base := base) T
  have hlof := ok__law_of T hdraw
  have hst := ok__law_store T hdraw hlof
  have hli := ok__law_list (P := P) (w := w) (base := base) T
  have hlw := (ok__law_way (P := P) (w := w) (base := base) T).spec (fun ds C wf _ _ => way_cuts ds C wf)
  exact ok_law T hway hof hlw hli hlof hst hdraw hb

end
theorem all_mk {P : Program} {w : World} {K : PySem.W.Frag} {h : Heap} {mg : Str → Option Value} {fa f0 f1 f2 f3 f4 f5 f6 f7 f8 f9 : Addr} (X : K.In h) (G : h.Ns mainGlobals mg) (hfa : mg "law" = some (.ref fa))
    {od0 an0 od1 an1 od2 an2 od3 an3 od4 an4 od5 an5 od6 an6 od7 an7 od8 an8 od9 an9 : Option Addr} {sl0 sl1 sl2 sl3 sl4 sl5 sl6 sl7 sl8 sl9 : Array (Option Value)} {oc0 kV0 dc0 pm0 cd0 ct0 oc1 kV1 dc1 pm1 cd1 ct1 oc2 kV2 dc2 pm2 cd2 ct2 oc3 kV3 dc3 pm3 cd3 ct3 oc4 kV4 dc4 pm4 cd4 ct4 oc5 kV5 dc5 pm5 cd5 ct5 oc6 kV6 dc6 pm6 cd6 ct6 oc7 kV7 dc7 pm7 cd7 ct7 oc8 kV8 dc8 pm8 cd8 ct8 oc9 kV9 dc9 pm9 cd9 ct9 : Value}
    (a0 : PySem.W.nsIn K mainGlobals "wind_line" = some (some (.ref f0))) (l0 : K.lookup f0 = some ⟨oc0, od0, .func (PySem.W.fnOf "wind_line" "wind_line" (defArgs s_wind_line) (defBody s_wind_line) (defScope s_wind_line) .none kV0 dc0 pm0 an0 cd0 ct0), sl0⟩) (c0 : PySem.W.codeIn K cd0 "wind_line" = true) (k0 : PySem.W.keepIn K (.ref f0) = true)
    (a1 : PySem.W.nsIn K mainGlobals "winds_of" = some (some (.ref f1))) (l1 : K.lookup f1 = some ⟨oc1, od1, .func (PySem.W.fnOf "winds_of" "winds_of" (defArgs s_winds_of) (defBody s_winds_of) (defScope s_winds_of) .none kV1 dc1 pm1 an1 cd1 ct1), sl1⟩) (c1 : PySem.W.codeIn K cd1 "winds_of" = true) (k1 : PySem.W.keepIn K (.ref f1) = true)
    (a2 : PySem.W.nsIn K mainGlobals "winds_way" = some (some (.ref f2))) (l2 : K.lookup f2 = some ⟨oc2, od2, .func (PySem.W.fnOf "winds_way" "winds_way" (defArgs s_winds_way) (defBody s_winds_way) (defScope s_winds_way) .none kV2 dc2 pm2 an2 cd2 ct2), sl2⟩) (c2 : PySem.W.codeIn K cd2 "winds_way" = true) (k2 : PySem.W.keepIn K (.ref f2) = true)
    (a3 : PySem.W.nsIn K mainGlobals "_law_begun" = some (some (.ref f3))) (l3 : K.lookup f3 = some ⟨oc3, od3, .func (PySem.W.fnOf "_law_begun" "_law_begun" (defArgs s__law_begun) (defBody s__law_begun) (defScope s__law_begun) .none kV3 dc3 pm3 an3 cd3 ct3), sl3⟩) (c3 : PySem.W.codeIn K cd3 "_law_begun" = true) (k3 : PySem.W.keepIn K (.ref f3) = true)
    (a4 : PySem.W.nsIn K mainGlobals "_law_draw" = some (some (.ref f4))) (l4 : K.lookup f4 = some ⟨oc4, od4, .func (PySem.W.fnOf "_law_draw" "_law_draw" (defArgs s__law_draw) (defBody s__law_draw) (defScope s__law_draw) .none kV4 dc4 pm4 an4 cd4 ct4), sl4⟩) (c4 : PySem.W.codeIn K cd4 "_law_draw" = true) (k4 : PySem.W.keepIn K (.ref f4) = true)
    (a5 : PySem.W.nsIn K mainGlobals "_law_of" = some (some (.ref f5))) (l5 : K.lookup f5 = some ⟨oc5, od5, .func (PySem.W.fnOf "_law_of" "_law_of" (defArgs s__law_of) (defBody s__law_of) (defScope s__law_of) .none kV5 dc5 pm5 an5 cd5 ct5), sl5⟩) (c5 : PySem.W.codeIn K cd5 "_law_of" = true) (k5 : PySem.W.keepIn K (.ref f5) = true)
    (a6 : PySem.W.nsIn K mainGlobals "_law_store" = some (some (.ref f6))) (l6 : K.lookup f6 = some ⟨oc6, od6, .func (PySem.W.fnOf "_law_store" "_law_store" (defArgs s__law_store) (defBody s__law_store) (defScope s__law_store) .none kV6 dc6 pm6 an6 cd6 ct6), sl6⟩) (c6 : PySem.W.codeIn K cd6 "_law_store" = true) (k6 : PySem.W.keepIn K (.ref f6) = true)
    (a7 : PySem.W.nsIn K mainGlobals "_law_list" = some (some (.ref f7))) (l7 : K.lookup f7 = some ⟨oc7, od7, .func (PySem.W.fnOf "_law_list" "_law_list" (defArgs s__law_list) (defBody s__law_list) (defScope s__law_list) .none kV7 dc7 pm7 an7 cd7 ct7), sl7⟩) (c7 : PySem.W.codeIn K cd7 "_law_list" = true) (k7 : PySem.W.keepIn K (.ref f7) = true)
    (a8 : PySem.W.nsIn K mainGlobals "_law_way" = some (some (.ref f8))) (l8 : K.lookup f8 = some ⟨oc8, od8, .func (PySem.W.fnOf "_law_way" "_law_way" (defArgs s__law_way) (defBody s__law_way) (defScope s__law_way) .none kV8 dc8 pm8 an8 cd8 ct8), sl8⟩) (c8 : PySem.W.codeIn K cd8 "_law_way" = true) (k8 : PySem.W.keepIn K (.ref f8) = true)
    (a9 : PySem.W.nsIn K mainGlobals "law" = some (some (.ref f9))) (l9 : K.lookup f9 = some ⟨oc9, od9, .func (PySem.W.fnOf "law" "law" (defArgs s_law) (defBody s_law) (defScope s_law) .none kV9 dc9 pm9 an9 cd9 ct9), sl9⟩) (c9 : PySem.W.codeIn K cd9 "law" = true) (k9 : PySem.W.keepIn K (.ref f9) = true)
    (z0 : PySem.W.nsIn K mainGlobals "int" = some none)
    (z1 : PySem.W.nsIn K mainGlobals "len" = some none)
    (z2 : PySem.W.nsIn K mainGlobals "min" = some none)
    (z3 : PySem.W.nsIn K mainGlobals "range" = some none)
    (z4 : PySem.W.nsIn K mainGlobals "repr" = some none)
    (z5 : PySem.W.nsIn K mainGlobals "tuple" = some none) :
    ∃ fd : FuncData, (∀ (s : Shared) (u : Value), BindsTo s fd ⟨[u], []⟩ [("script", u)]) ∧ ∀ base : Heap, K.In base → base.Ns mainGlobals mg → FnG P w K mg base 5 fa fd ["script"] F_law := by
  have e := hfa.symm.trans (PySem.W.mg_of X G a9)
  cases e
  let T : Txt K mg := ⟨Def1.of (st := s_wind_line) X G a0 l0 c0 k0 (fun _ _ _ _ _ _ us hl => match us, hl with | [_, _], _ => rfl),
    Def1.of (st := s_winds_of) X G a1 l1 c1 k1 (fun _ _ _ _ _ _ us hl => match us, hl with | [_, _], _ => rfl),
    Def1.of (st := s_winds_way) X G a2 l2 c2 k2 (fun _ _ _ _ _ _ us hl => match us, hl with | [_, _, _], _ => rfl),
    Def1.of (st := s__law_begun) X G a3 l3 c3 k3 (fun _ _ _ _ _ _ us hl => match us, hl with | [_, _], _ => rfl),
    Def1.of (st := s__law_draw) X G a4 l4 c4 k4 (fun _ _ _ _ _ _ us hl => match us, hl with | [_, _], _ => rfl),
    Def1.of (st := s__law_of) X G a5 l5 c5 k5 (fun _ _ _ _ _ _ us hl => match us, hl with | [_, _], _ => rfl),
    Def1.of (st := s__law_store) X G a6 l6 c6 k6 (fun _ _ _ _ _ _ us hl => match us, hl with | [_, _], _ => rfl),
    Def1.of (st := s__law_list) X G a7 l7 c7 k7 (fun _ _ _ _ _ _ us hl => match us, hl with | [_, _], _ => rfl),
    Def1.of (st := s__law_way) X G a8 l8 c8 k8 (fun _ _ _ _ _ _ us hl => match us, hl with | [_, _], _ => rfl),
    Def1.of (st := s_law) X G a9 l9 c9 k9 (fun _ _ _ _ _ _ us hl => match us, hl with | [_], _ => rfl),
    PySem.W.mg_none_of X G z0,
    PySem.W.mg_none_of X G z1,
    PySem.W.mg_none_of X G z2,
    PySem.W.mg_none_of X G z3,
    PySem.W.mg_none_of X G z4,
    PySem.W.mg_none_of X G z5⟩
  exact ⟨T.d_law.fd, fun s v => .of_eq rfl, fun base _ _ => law_k T base⟩
end Lw
open PySem PySem.W PyProof.Rows in
set_option maxRecDepth 100000 in
set_option maxHeartbeats 0 in
theorem PySem.Challenge.cw_keptrest_k19_ways_of_winds_holds : PySem.Challenge.rw_keptrest_k19_ways_of_winds.Holds := by
  w_on; o_law; k_head; (case hw => w_witness2)
  k_fill
  refine Cl.walkG (l := PySem.Challenge.rw_keptrest_k19_ways_of_winds) (n := 63) (k := 5) (x := "script") rfl (by decide) rfl ⟨rfl, by decide, by decide⟩ (fun w h Y => PySem.W.kIn_of Y) ?F (fun ns hl hb => Lw.law_ok ns hl)
  case F =>
    intro w mg fa h KX G hmg
    refine' Lw.all_mk KX G hmg ?a0 ?l0 ?c0 ?k0 ?a1 ?l1 ?c1 ?k1 ?a2 ?l2 ?c2 ?k2 ?a3 ?l3 ?c3 ?k3 ?a4 ?l4 ?c4 ?k4 ?a5 ?l5 ?c5 ?k5 ?a6 ?l6 ?c6 ?k6 ?a7 ?l7 ?c7 ?k7 ?a8 ?l8 ?c8 ?k8 ?a9 ?l9 ?c9 ?k9 ?z0 ?z1 ?z2 ?z3 ?z4 ?z5
    (case a0 => k_is)
    (case l0 => k_is)
    (case c0 => k_is)
    (case k0 => k_is)
    (case a1 => k_is)
    (case l1 => k_is)
    (case c1 => k_is)
    (case k1 => k_is)
    (case a2 => k_is)
    (case l2 => k_is)
    (case c2 => k_is)
    (case k2 => k_is)
    (case a3 => k_is)
    (case l3 => k_is)
    (case c3 => k_is)
    (case k3 => k_is)
    (case a4 => k_is)
    (case l4 => k_is)
    (case c4 => k_is)
    (case k4 => k_is)
    (case a5 => k_is)
    (case l5 => k_is)
    (case c5 => k_is)
    (case k5 => k_is)
    (case a6 => k_is)
    (case l6 => k_is)
    (case c6 => k_is)
    (case k6 => k_is)
    (case a7 => k_is)
    (case l7 => k_is)
    (case c7 => k_is)
    (case k7 => k_is)
    (case a8 => k_is)
    (case l8 => k_is)
    (case c8 => k_is)
    (case k8 => k_is)
    (case a9 => k_is)
    (case l9 => k_is)
    (case c9 => k_is)
    (case k9 => k_is)
    (case z0 => k_is)
    (case z1 => k_is)
    (case z2 => k_is)
    (case z3 => k_is)
    (case z4 => k_is)
    (case z5 => k_is)
