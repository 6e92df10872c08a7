import PyProof.Rows.All
import Wide.All
import OpenK.AllK
import Wide.FinOn
import HandS.ForMost
import HandS.ForExc
import HandS.TupAny
import HandS.Style
import PyProof.StrLawsRepr
import HandS.Deep
import HandS.EndBits
import PyProof.Rows.RegStrFacts
import PyProof.ReprRoads
import HandS.IsInst
import HandS.Conv
import HandS.TupMul
import KE.GoesEnum
import HandS.ExcInit
import HandS.ExcField
import PySem.Challenge.RW_keptrest_k22_whole_least_roads
set_option Elab.async false
set_option autoImplicit false
set_option linter.all false
set_option maxRecDepth 100000
set_option maxHeartbeats 8000000
set_option maxHeartbeats 4000000
/-! Cl, part A: clean data, the clean heap, how they lie in the abstract heap of HandS; denotations and their readings. -/
namespace Cl
open PySem PySem.Spec L2

/-- clean data: tuples are trees; fl: a locked list (the script); ref n: a mutable object by number; v: any other value that never changes; xc: a caught exception, its fields -/
inductive D where
  | non | bl (b : Bool) | int (i : Int) | str (x : Str) | tup (xs : List D) | fl (xs : List D) | ref (n : Nat) | v (x : V) | xc (a dd : Addr) (ns : List Str) (ds : List D)
instance : Inhabited D := ⟨.non⟩

inductive O where
  | lst (xs : List D) | dK (kvs : List (Key × D)) | dT (kvs : List (List Key × D))
abbrev CH := List O
abbrev Sc := List (Option D)

def Fz (K : PySem.W.Frag) (H : Hp) (a : Addr) (vs : List V) : Prop :=
  (∃ o, H a = some (.frz o (.lst vs))) ∨
    ∃ (o : Obj) (its : Array Value) (n : Nat), K.lookup a = some o ∧ o.cls = .type "list" ∧ o.dict = none ∧ o.data = .seq its n ∧ its.size ≤ sizeLine ∧ Vals vs its.toList
theorem Fz.sq {K : PySem.W.Frag} {H : Hp} {a : Addr} {vs : List V} (h : Fz K H a vs) : SqL K H a vs := h.elim (fun x => .inl (.inr x)) .inr

mutual
inductive Rl (K : PySem.W.Frag) (ad : List Addr) (H : Hp) : D → V → Prop
  | non : Rl K ad H .non .non
  | bl (b : Bool) : Rl K ad H (.bl b) (.bl b)
  | int (i : Int) : Rl K ad H (.int i) (.int i)
  | str (x : Str) : Rl K ad H (.str x) (.str x)
  | tup {ds : List D} {a : Addr} {vs : List V} : H a = some (.tup vs) → Rls K ad H ds vs → Rl K ad H (.tup ds) (.ref a)
  | fl {ds : List D} {a : Addr} {vs : List V} : Fz K H a vs → Rls K ad H ds vs → Rl K ad H (.fl ds) (.ref a)
  | ref {n : Nat} {a : Addr} : ad[n]? = some a → Rl K ad H (.ref n) (.ref a)
  | v (x : V) : Rl K ad H (.v x) x
  | xc {a dd : Addr} {ns : List Str} {ds : List D} {ws : List (Str × V)} : H dd = some (.xd ws) → ns = ws.map (·.1) → Rls K ad H ds (ws.map (·.2)) → Rl K ad H (.xc a dd ns ds) (.ref a)
inductive Rls (K : PySem.W.Frag) (ad : List Addr) (H : Hp) : List D → List V → Prop
  | nil : Rls K ad H [] []
  | cons {d : D} {v : V} {ds : List D} {vs : List V} : Rl K ad H d v → Rls K ad H ds vs → Rls K ad H (d :: ds) (v :: vs)
end

structure Ext (ad : List Addr) (H : Hp) (ad' : List Addr) (H' : Hp) : Prop where
  pre : ∀ (n : Nat) (a : Addr), ad[n]? = some a → ad'[n]? = some a
  tup : ∀ (a : Addr) (vs : List V), H a = some (.tup vs) → H' a = some (.tup vs)
  frz : ∀ (a : Addr) (o : Obj) (u : HO), H a = some (.frz o u) → H' a = some (.frz o u)
  xd : ∀ (a : Addr) (vs : List (Str × V)), H a = some (.xd vs) → H' a = some (.xd vs)
theorem Ext.refl (ad : List Addr) (H : Hp) : Ext ad H ad H := ⟨fun _ _ h => h, fun _ _ h => h, fun _ _ _ h => h, fun _ _ h => h⟩
theorem Ext.trans {ad ad1 ad2 : List Addr} {H H1 H2 : Hp} (a : Ext ad H ad1 H1) (b : Ext ad1 H1 ad2 H2) : Ext ad H ad2 H2 :=
  ⟨fun n x h => b.pre n x (a.pre n x h), fun n x h => b.tup n x (a.tup n x h), fun n x u h => b.frz n x u (a.frz n x u h), fun n x h => b.xd n x (a.xd n x h)⟩

section
variable {K : PySem.W.Frag} {ad ad' ad1 ad2 : List Addr} {H H' H1 H2 : Hp} {C C' C1 C2 : CH}
theorem Fz.mono (E : Ext ad H ad' H') {a : Addr} {vs : List V} (h : Fz K H a vs) : Fz K H' a vs :=
  h.elim (fun ⟨o, x⟩ => .inl ⟨o, E.frz _ _ _ x⟩) .inr
mutual
theorem Rl.mono (E : Ext ad H ad' H') : ∀ {d : D} {v : V}, Rl K ad H d v → Rl K ad' H' d v
  | _, _, .non => .non
  | _, _, .bl b => .bl b
  | _, _, .int i => .int i
  | _, _, .str x => .str x
  | _, _, .tup h r => .tup (E.tup _ _ h) (Rls.mono E r)
  | _, _, .fl h r => .fl (h.mono E) (Rls.mono E r)
  | _, _, .ref h => .ref (E.pre _ _ h)
  | _, _, .v x => .v x
  | _, _, .xc h e r => .xc (E.xd _ _ h) e (Rls.mono E r)
theorem Rls.mono (E : Ext ad H ad' H') : ∀ {ds : List D} {vs : List V}, Rls K ad H ds vs → Rls K ad' H' ds vs
  | _, _, .nil => .nil
  | _, _, .cons r t => .cons (Rl.mono E r) (Rls.mono E t)
end
theorem Rls.length : ∀ {ds : List D} {vs : List V}, Rls K ad H ds vs → ds.length = vs.length
  | _, _, .nil => rfl
  | _, _, .cons _ t => by simp [Rls.length t]
theorem Rls.get : ∀ {ds : List D} {vs : List V} {i : Nat} {d : D}, Rls K ad H ds vs → ds[i]? = some d → ∃ v, vs[i]? = some v ∧ Rl K ad H d v
  | _, _, i, d, .nil, e => by simp at e
  | _, _, 0, d, .cons r _, e => by simp at e; subst e; exact ⟨_, rfl, r⟩
  | _, _, i + 1, d, .cons _ t, e => by
    obtain ⟨v, h1, h2⟩ := Rls.get (i := i) t (by simpa using e)
    exact ⟨v, by simpa using h1, h2⟩
theorem Rls.get' : ∀ {ds : List D} {vs : List V} {i : Nat} {v : V}, Rls K ad H ds vs → vs[i]? = some v → ∃ d, ds[i]? = some d ∧ Rl K ad H d v
  | _, _, i, v, .nil, e => by simp at e
  | _, _, 0, v, .cons r _, e => by simp at e; subst e; exact ⟨_, rfl, r⟩
  | _, _, i + 1, v, .cons _ t, e => by
    obtain ⟨d, h1, h2⟩ := Rls.get' (i := i) t (by simpa using e)
    exact ⟨d, by simpa using h1, h2⟩
theorem Rls.append : ∀ {ds es : List D} {vs ws : List V}, Rls K ad H ds vs → Rls K ad H es ws → Rls K ad H (ds ++ es) (vs ++ ws)
  | _, _, _, _, .nil, s => s
  | _, _, _, _, .cons r t, s => .cons r (Rls.append t s)
theorem Rls.one {d : D} {v : V} (r : Rl K ad H d v) : Rls K ad H [d] [v] := .cons r .nil
theorem Rls.take : ∀ {ds : List D} {vs : List V} (n : Nat), Rls K ad H ds vs → Rls K ad H (ds.take n) (vs.take n)
  | _, _, 0, _ => by simpa using Rls.nil
  | _, _, _ + 1, .nil => by simpa using Rls.nil
  | _, _, n + 1, .cons r t => .cons r (Rls.take n t)
theorem Rls.drop : ∀ {ds : List D} {vs : List V} (n : Nat), Rls K ad H ds vs → Rls K ad H (ds.drop n) (vs.drop n)
  | _, _, 0, r => r
  | _, _, _ + 1, .nil => .nil
  | _, _, n + 1, .cons r t => Rls.drop n t
theorem Rls.reverse : ∀ {ds : List D} {vs : List V}, Rls K ad H ds vs → Rls K ad H ds.reverse vs.reverse
  | _, _, .nil => .nil
  | _, _, .cons r t => by
    rw [List.reverse_cons, List.reverse_cons]
    exact (Rls.reverse t).append (.one r)
theorem Rls.set {d : D} {v : V} (r : Rl K ad H d v) : ∀ {ds : List D} {vs : List V} (i : Nat), Rls K ad H ds vs → Rls K ad H (ds.set i d) (vs.set i v)
  | _, _, _, .nil => .nil
  | _, _, 0, .cons _ t => .cons r t
  | _, _, i + 1, .cons q t => .cons q (Rls.set r i t)
theorem Rls.dropLast {ds : List D} {vs : List V} (r : Rls K ad H ds vs) : Rls K ad H ds.dropLast vs.dropLast := by
  rw [List.dropLast_eq_take, List.dropLast_eq_take, r.length]
  exact r.take _

/-- entries of a dict -/
def KR {κ : Type} (K : PySem.W.Frag) (ad : List Addr) (H : Hp) : List (κ × D) → List (κ × V) → Prop := Paired fun p q => p.1 = q.1 ∧ Rl K ad H p.2 q.2
theorem KR.mono {κ : Type} (E : Ext ad H ad' H') {xs : List (κ × D)} {ys : List (κ × V)} (h : KR K ad H xs ys) : KR K ad' H' xs ys :=
  Paired.mapP h fun _ _ z => ⟨z.1, z.2.mono E⟩

def OR (K : PySem.W.Frag) (ad : List Addr) (H : Hp) : O → HO → Prop
  | .lst ds, u => ∃ vs, u = .lst vs ∧ Rls K ad H ds vs
  | .dK kvs, u => ∃ vs, u = .dK vs ∧ KR K ad H kvs vs
  | .dT kvs, u => ∃ vs, u = .dT vs ∧ KR K ad H kvs vs
theorem OR.mono (E : Ext ad H ad' H') {o : O} {u : HO} (h : OR K ad H o u) : OR K ad' H' o u := by
  cases o with
  | lst ds => obtain ⟨vs, e, r⟩ := h; exact ⟨vs, e, r.mono E⟩
  | dK ds => obtain ⟨vs, e, r⟩ := h; exact ⟨vs, e, r.mono E⟩
  | dT ds => obtain ⟨vs, e, r⟩ := h; exact ⟨vs, e, r.mono E⟩
theorem OR.notTup {o : O} {u : HO} (h : OR K ad H o u) (vs : List V) : u ≠ .tup vs := by
  cases o <;> (obtain ⟨vs, e, r⟩ := h; subst e; intro z; cases z)
theorem OR.notXd {o : O} {u : HO} (h : OR K ad H o u) (vs : List (Str × V)) : u ≠ .xd vs := by
  cases o <;> (obtain ⟨vs, e, r⟩ := h; subst e; intro z; cases z)
theorem OR.notFrz {o : O} {u : HO} (h : OR K ad H o u) (ob : Obj) (w : HO) : u ≠ .frz ob w := by
  cases o <;> (obtain ⟨vs, e, r⟩ := h; subst e; intro z; cases z)

structure HRel (K : PySem.W.Frag) (ad : List Addr) (H : Hp) (C : CH) : Prop where
  len : ad.length = C.length
  obj : ∀ (n : Nat) (o : O) (a : Addr), C[n]? = some o → ad[n]? = some a → ∃ u, H a = some u ∧ OR K ad H o u
  inj : ∀ (n m : Nat) (a : Addr), ad[n]? = some a → ad[m]? = some a → n = m
theorem HRel.at (h : HRel K ad H C) {n : Nat} {o : O} (e : C[n]? = some o) : ∃ a u, ad[n]? = some a ∧ H a = some u ∧ OR K ad H o u := by
  have l : n < ad.length := by rw [h.len]; exact (List.getElem?_eq_some_iff.mp e).1
  obtain ⟨u, h1, h2⟩ := h.obj n o ad[n] e (List.getElem?_eq_getElem l)
  exact ⟨_, u, List.getElem?_eq_getElem l, h1, h2⟩
theorem HRel.there (h : HRel K ad H C) {n : Nat} {a : Addr} (e : ad[n]? = some a) : ∃ u, H a = some u := by
  have l : n < C.length := by rw [← h.len]; exact (List.getElem?_eq_some_iff.mp e).1
  obtain ⟨u, h1, _⟩ := h.obj n C[n] a (List.getElem?_eq_getElem l) e
  exact ⟨u, h1⟩
theorem HRel.ne (h : HRel K ad H C) {n : Nat} {a p : Addr} (e : ad[n]? = some a) (hp : H p = none) : a ≠ p := by
  obtain ⟨u, q⟩ := h.there e
  exact ne_of_none q hp
/-- a new object that the clean heap doesn't hold -/
theorem ext_new {p : Addr} (hp : H p = none) {u : HO} : Ext ad H ad (upd H p u) :=
  ⟨fun _ _ h => h, fun a vs h => by rw [upd_ne (ne_of_none h hp)]; exact h, fun a o u h => by rw [upd_ne (ne_of_none h hp)]; exact h, fun a vs h => by rw [upd_ne (ne_of_none h hp)]; exact h⟩
theorem HRel.new (h : HRel K ad H C) {p : Addr} (hp : H p = none) {u : HO} : HRel K ad (upd H p u) C :=
  ⟨h.len, fun n o a e1 e2 => by
    obtain ⟨w, h1, h2⟩ := h.obj n o a e1 e2
    exact ⟨w, by rw [upd_ne (h.ne e2 hp)]; exact h1, h2.mono (ext_new hp)⟩, h.inj⟩
/-- a new object of the clean heap -/
theorem get_snoc {α : Type} {l : List α} {x y : α} {n : Nat} : (l ++ [x])[n]? = some y → l[n]? = some y ∨ (n = l.length ∧ y = x) := by
  intro e
  rw [List.getElem?_append] at e
  split at e
  · exact .inl e
  · rename_i hn
    have : n - l.length = 0 := by
      rcases Nat.lt_or_ge (n - l.length) 1 with z | z
      · omega
      · rw [List.getElem?_eq_none (by simpa using z)] at e
        cases e
    rw [this] at e
    simp at e
    exact .inr ⟨by omega, e.symm⟩
theorem ext_alloc {p : Addr} (hp : H p = none) {u : HO} : Ext ad H (ad ++ [p]) (upd H p u) :=
  ⟨fun n a h => by rw [List.getElem?_append_left (List.getElem?_eq_some_iff.mp h).1]; exact h, (ext_new (ad := ad) hp).tup, (ext_new (ad := ad) hp).frz, (ext_new (ad := ad) hp).xd⟩
theorem HRel.alloc (h : HRel K ad H C) {p : Addr} (hp : H p = none) {u : HO} {o : O} (r : OR K (ad ++ [p]) (upd H p u) o u) : HRel K (ad ++ [p]) (upd H p u) (C ++ [o]) := by
  refine ⟨by simp [h.len], fun n q a e1 e2 => ?_, fun n m a e1 e2 => ?_⟩
  · rcases get_snoc e1 with f1 | ⟨f1, rfl⟩
    · rcases get_snoc e2 with f2 | ⟨f2, rfl⟩
      · obtain ⟨w, h1, h2⟩ := h.obj n q a f1 f2
        exact ⟨w, by rw [upd_ne (h.ne f2 hp)]; exact h1, h2.mono (ext_alloc hp)⟩
      · have := (List.getElem?_eq_some_iff.mp f1).1
        rw [← h.len] at this
        omega
    · rcases get_snoc e2 with f2 | ⟨f2, rfl⟩
      · have := (List.getElem?_eq_some_iff.mp f2).1
        rw [h.len] at this
        omega
      · exact ⟨u, upd_same, r⟩
  · rcases get_snoc e1 with f1 | ⟨f1, g1⟩
    · rcases get_snoc e2 with f2 | ⟨f2, g2⟩
      · exact h.inj n m a f1 f2
      · exact absurd g2 (h.ne f1 hp)
    · rcases get_snoc e2 with f2 | ⟨f2, g2⟩
      · exact absurd g1 (h.ne f2 hp)
      · omega
theorem alloc_at (h : HRel K ad H C) {p : Addr} : (ad ++ [p])[C.length]? = some p := by rw [← h.len]; simp
/-- an object written -/
theorem ext_set (h : HRel K ad H C) {n : Nat} {a : Addr} {o : O} (e : C[n]? = some o) (ea : ad[n]? = some a) {u : HO} : Ext ad H ad (upd H a u) := by
  obtain ⟨w, h1, h2⟩ := h.obj n o a e ea
  refine ⟨fun _ _ h => h, fun b vs q => ?_, fun b ob z q => ?_, fun b vs q => ?_⟩
  · rw [upd_ne]
    · exact q
    · rintro rfl
      rw [h1] at q
      exact h2.notTup vs (Option.some.inj q)
  · rw [upd_ne]
    · exact q
    · rintro rfl
      rw [h1] at q
      exact h2.notFrz ob z (Option.some.inj q)
  · rw [upd_ne]
    · exact q
    · rintro rfl
      rw [h1] at q
      exact h2.notXd vs (Option.some.inj q)
theorem HRel.set (h : HRel K ad H C) {n : Nat} {a : Addr} {o o' : O} (e : C[n]? = some o) (ea : ad[n]? = some a) {u : HO} (r : OR K ad (upd H a u) o' u) : HRel K ad (upd H a u) (C.set n o') := by
  have E : Ext ad H ad (upd H a u) := ext_set h e ea
  refine ⟨by simp [h.len], fun m q b e1 e2 => ?_, h.inj⟩
  by_cases hm : m = n
  · subst hm
    rw [ea] at e2; cases e2
    rw [List.getElem?_set_self (List.getElem?_eq_some_iff.mp e).1] at e1
    cases e1
    exact ⟨u, upd_same, r⟩
  · rw [List.getElem?_set_ne (Ne.symm hm)] at e1
    obtain ⟨w, h1, h2⟩ := h.obj m q b e1 e2
    have : b ≠ a := fun z => hm (h.inj m n a (z ▸ e2) ea)
    exact ⟨w, by rw [upd_ne this]; exact h1, h2.mono E⟩
/-- the newest objects forgotten -/
theorem HRel.cut (h : HRel K ad H C) (k : Nat) (hc : ∀ (n : Nat) (o : O) (u : HO), n < k → C[n]? = some o → OR K ad H o u → OR K (ad.take k) H o u) : HRel K (ad.take k) H (C.take k) := by
  refine ⟨by simp [h.len], fun n o a e1 e2 => ?_, fun n m a e1 e2 => ?_⟩
  · rw [List.getElem?_take] at e1 e2
    split at e1
    · rename_i hn
      rw [if_pos hn] at e2
      obtain ⟨u, h1, h2⟩ := h.obj n o a e1 e2
      exact ⟨u, h1, hc n o u hn e1 h2⟩
    · cases e1
  · rw [List.getElem?_take] at e1 e2
    split at e1
    · split at e2
      · exact h.inj n m a e1 e2
      · cases e2
    · cases e1

/-- a frame's slots -/
structure SRel (K : PySem.W.Frag) (ad : List Addr) (H : Hp) (sc : Sc) (σ : St) : Prop where
  len : sc.length = σ.length
  get : ∀ (i : Nat) (d : D), sc[i]? = some (some d) → ∃ v, σ[i]? = some (some v) ∧ Rl K ad H d v
theorem SRel.mono {sc : Sc} {σ : St} (E : Ext ad H ad' H') (h : SRel K ad H sc σ) : SRel K ad' H' sc σ :=
  ⟨h.len, fun i d e => let ⟨v, h1, h2⟩ := h.get i d e; ⟨v, h1, h2.mono E⟩⟩
theorem SRel.set {sc : Sc} {σ : St} (h : SRel K ad H sc σ) (i : Nat) {d : D} {v : V} (r : Rl K ad H d v) : SRel K ad H (sc.set i (some d)) (σ.set i (some v)) := by
  refine ⟨by simp [h.len], fun j e q => ?_⟩
  by_cases hj : j = i
  · subst hj
    have hl : j < sc.length := by
      have := (List.getElem?_eq_some_iff.mp q).1
      simpa using this
    rw [List.getElem?_set_self hl] at q
    cases q
    exact ⟨v, List.getElem?_set_self (by rw [← h.len]; exact hl), r⟩
  · rw [List.getElem?_set_ne (Ne.symm hj)] at q
    obtain ⟨w, h1, h2⟩ := h.get j e q
    exact ⟨w, by rw [List.getElem?_set_ne (Ne.symm hj)]; exact h1, h2⟩
theorem SRel.unset {sc : Sc} {σ : St} (h : SRel K ad H sc σ) (i : Nat) : SRel K ad H (sc.set i none) (σ.set i none) := by
  refine ⟨by simp [h.len], fun j e q => ?_⟩
  by_cases hj : j = i
  · subst hj
    have hl : j < sc.length := by
      have := (List.getElem?_eq_some_iff.mp q).1
      simpa using this
    rw [List.getElem?_set_self hl] at q
    cases q
  · rw [List.getElem?_set_ne (Ne.symm hj)] at q
    obtain ⟨w, h1, h2⟩ := h.get j e q
    exact ⟨w, by rw [List.getElem?_set_ne (Ne.symm hj)]; exact h1, h2⟩
end

/-! ### denotations -/
/-- an exception: its class, its fields -/
structure XD where
  cls : Addr
  fs : List (Str × D)
inductive Res (α : Type) where
  | ok (a : α) (C : CH) | ex (x : XD) (C : CH) | bad
def Res.bind {α β : Type} : Res α → (α → CH → Res β) → Res β
  | .ok a C, f => f a C
  | .ex x C, _ => .ex x C
  | .bad, _ => .bad
@[simp] theorem Res.bind_ok {α β : Type} (a : α) (C : CH) (f : α → CH → Res β) : (Res.ok a C).bind f = f a C := rfl
@[simp] theorem Res.bind_ex {α β : Type} (x : XD) (C : CH) (f : α → CH → Res β) : (Res.ex x C : Res α).bind f = .ex x C := rfl
@[simp] theorem Res.bind_bad {α β : Type} (f : α → CH → Res β) : (Res.bad : Res α).bind f = .bad := rfl
def Res.lift {α : Type} : Option (α × CH) → Res α
  | some (a, C) => .ok a C
  | none => .bad
@[simp] theorem Res.lift_some {α : Type} (a : α) (C : CH) : Res.lift (some (a, C)) = .ok a C := rfl
@[simp] theorem Res.lift_none {α : Type} : Res.lift (none : Option (α × CH)) = .bad := rfl
inductive SOut where
  | nx (sc : Sc) (C : CH) | rt (d : D) (C : CH) | bk (sc : Sc) (C : CH) | ct (sc : Sc) (C : CH) | ex (x : XD) (sc : Sc) (C : CH) | bad
abbrev Fe := Sc → CH → Res D
abbrev Ft := Sc → CH → Res Bool
abbrev Fa := Sc → CH → Res (List D)
abbrev Fs := Sc → CH → SOut

section
variable (K : PySem.W.Frag)
/-- behind: a later heap, at which R -/
def Aft (ad : List Addr) (H : Hp) (C' : CH) (R : List Addr → Hp → Prop) (H' : Hp) : Prop := ∃ ad', Ext ad H ad' H' ∧ HRel K ad' H' C' ∧ R ad' H'
/-- the fields of an exception -/
def XF (ad : List Addr) (H : Hp) : List (Str × D) → Option Addr → Prop
  | [], d => d = none
  | f :: fs, d => ∃ a vs, d = some a ∧ H a = some (.xd vs) ∧ KR K ad H (f :: fs) vs
def XP (ad : List Addr) (H : Hp) (C' : CH) (x : XD) (c : Value) (d : Option Addr) (H' : Hp) : Prop :=
  c = .ref x.cls ∧ Aft K ad H C' (fun ad' H' => XF K ad' H' x.fs d) H'
/-- what is to be shown of a result -/
def RP {α : Type} (W : WX) (ad : List Addr) (H : Hp) (σ : St) : Res α → (α → CH → Prop) → Prop
  | .ok a C', k => k a C'
  | .ex x C', _ => ∀ c d H', XP K ad H C' x c d H' → W c d σ H'
  | .bad, _ => False
def tE (W : WX) (f : Fe) : TE := fun σ H Q => ∃ ad sc C, SRel K ad H sc σ ∧ HRel K ad H C ∧ RP K W ad H σ (f sc C) fun d C' => ∀ v H', Aft K ad H C' (fun ad' H' => Rl K ad' H' d v) H' → Q v H'
def tT (W : WX) (f : Ft) : TT := fun σ H Q => ∃ ad sc C, SRel K ad H sc σ ∧ HRel K ad H C ∧ RP K W ad H σ (f sc C) fun b C' => ∀ H', Aft K ad H C' (fun _ _ => True) H' → Q b H'
def tA (W : WX) (f : Fa) : TA := fun σ H Q => ∃ ad sc C, SRel K ad H sc σ ∧ HRel K ad H C ∧ RP K W ad H σ (f sc C) fun ds C' => ∀ vs H', Aft K ad H C' (fun ad' H' => Rls K ad' H' ds vs) H' → Q vs H'
/-- behind a statement -/
def SAft (ad : List Addr) (H : Hp) (sc' : Sc) (C' : CH) (σ' : St) (H' : Hp) : Prop := Aft K ad H C' (fun ad' H' => SRel K ad' H' sc' σ') H'
def SPo (W : WX) (ad : List Addr) (H : Hp) (D : Ends) : SOut → Prop
  | .nx sc' C' => ∀ σ' H', SAft K ad H sc' C' σ' H' → D.nx σ' H'
  | .rt d C' => ∀ v H', Aft K ad H C' (fun ad' H' => Rl K ad' H' d v) H' → D.rt v H'
  | .bk sc' C' => ∀ σ' H', SAft K ad H sc' C' σ' H' → D.bk σ' H'
  | .ct sc' C' => ∀ σ' H', SAft K ad H sc' C' σ' H' → D.ct σ' H'
  | .ex x sc' C' => ∀ c d σ' H', c = .ref x.cls → Aft K ad H C' (fun ad' H' => XF K ad' H' x.fs d ∧ SRel K ad' H' sc' σ') H' → W c d σ' H'
  | .bad => False
def tS (W : WX) (g : Fs) : TS := fun D σ H => ∃ ad sc C, SRel K ad H sc σ ∧ HRel K ad H C ∧ SPo K W ad H D (g sc C)
end
abbrev CE (X : Cx) (W : WX) (e : Expr) (f : Fe) : Prop := PE X e (tE X.K W f)
abbrev CT (X : Cx) (W : WX) (e : Expr) (f : Ft) : Prop := PT X e (tT X.K W f)
abbrev CA (X : Cx) (W : WX) (es : List Expr) (f : Fa) : Prop := PA X es (tA X.K W f)
abbrev CS (X : Cx) (W : WX) (st : Stmt) (g : Fs) : Prop := PS X st (tS X.K W g)
abbrev CSs (X : Cx) (W : WX) (sts : List Stmt) (g : Fs) : Prop := PSs X sts (tS X.K W g)

section
variable {K : PySem.W.Frag} {W : WX} {ad ad' ad1 ad2 : List Addr} {H H' H1 H2 : Hp} {C C' C1 C2 : CH} {σ : St}
theorem Aft.intro {R : List Addr → Hp → Prop} (h : HRel K ad H C) (r : R ad H) : Aft K ad H C R H := ⟨ad, .refl _ _, h, r⟩
theorem Aft.trans {R : List Addr → Hp → Prop} (E : Ext ad H ad1 H1) (a : Aft K ad1 H1 C R H') : Aft K ad H C R H' := by
  obtain ⟨ad2, E2, h2, r⟩ := a
  exact ⟨ad2, E.trans E2, h2, r⟩
theorem RP.imp {α : Type} {r : Res α} {k k' : α → CH → Prop} (h : RP K W ad H σ r k) (i : ∀ a C', k a C' → k' a C') : RP K W ad H σ r k' := by
  cases r with
  | ok a C' => exact i a C' h
  | ex x C' => exact h
  | bad => exact h
theorem RP.bind {α β : Type} {r : Res α} {f : α → CH → Res β} {k : β → CH → Prop} (h : RP K W ad H σ (r.bind f) k) : RP K W ad H σ r fun a C' => RP K W ad H σ (f a C') k := by
  cases r with
  | ok a C' => exact h
  | ex x C' => exact h
  | bad => exact h
theorem RP.later {α : Type} {r : Res α} {k k' : α → CH → Prop} (E : Ext ad H ad1 H1) (h : RP K W ad H σ r k) (i : ∀ a C', k a C' → k' a C') : RP K W ad1 H1 σ r k' := by
  cases r with
  | ok a C' => exact i a C' h
  | ex x C' => exact fun c d H' ⟨e, a⟩ => h c d H' ⟨e, a.trans E⟩
  | bad => exact h
theorem RP.lift {α : Type} {r : Option (α × CH)} {k : α → CH → Prop} (h : RP K W ad H σ (Res.lift r) k) : ∃ a C', r = some (a, C') ∧ k a C' := by
  cases r with
  | none => exact h.elim
  | some p => exact ⟨p.1, p.2, rfl, h⟩
end

theorem PE_imp {X : Cx} {e : Expr} {t t' : TE} (h : PE X e t) (i : ∀ σ H Q, t' σ H Q → t σ H Q) : PE X e t' := ⟨fun pins s σ H Q I z => h.run pins s σ H Q I (i σ H Q z)⟩
theorem PT_imp {X : Cx} {e : Expr} {t t' : TT} (h : PT X e t) (i : ∀ σ H Q, t' σ H Q → t σ H Q) : PT X e t' := ⟨fun pins s σ H Q I z => h.run pins s σ H Q I (i σ H Q z)⟩
theorem PW_imp {X : Cx} {e : Expr} {t t' : TT} (h : PW X e t) (i : ∀ σ H Q, t' σ H Q → t σ H Q) : PW X e t' := ⟨fun wh pins s σ H Q I z => h.run wh pins s σ H Q I (i σ H Q z)⟩
theorem PA_imp {X : Cx} {es : List Expr} {t t' : TA} (h : PA X es t) (i : ∀ σ H Q, t' σ H Q → t σ H Q) : PA X es t' := ⟨fun pos pins s σ H Q I z => h.run pos pins s σ H Q I (i σ H Q z)⟩
theorem PS_imp {X : Cx} {st : Stmt} {t t' : TS} (h : PS X st t) (i : ∀ D σ H, t' D σ H → t D σ H) : PS X st t' := ⟨fun pins s σ H D I z => h.run pins s σ H D I (i D σ H z)⟩
theorem PSs_imp {X : Cx} {st : List Stmt} {t t' : TS} (h : PSs X st t) (i : ∀ D σ H, t' D σ H → t D σ H) : PSs X st t' := ⟨fun pins s σ H D I z => h.run pins s σ H D I (i D σ H z)⟩
end Cl
set_option maxHeartbeats 4000000
/-! Cl, part B: the rules for expressions. -/
namespace Cl
open PySem PySem.Spec L2

/-- what a body's context bears -/
structure Ctx (k : Nat) (X : Cx) (W : WX) : Prop where
  tk : Takes X W
  calm : X.calm = true
  room : Room k X.A
  gd : X.A.guards = some []
  nd : X.N.Nodup
  ps : PassesOwn (model X.prog X.w) X.A X.env X.xe
theorem Ctx.un {k : Nat} {X : Cx} {W : WX} (c : Ctx k X W) : X.A.units + 64 < cLine := c.room.units
theorem Ctx.un1 {k : Nat} {X : Cx} {W : WX} (c : Ctx k X W) : X.A.units + 1 < cLine := by have := c.un; omega

/-- from one operand on -/
theorem tE_bind {K : PySem.W.Frag} {W : WX} {ad0 ad : List Addr} {H0 H : Hp} {sc : Sc} {C : CH} {σ : L2.St} {β : Type} {fa : Fe} {k : D → CH → Res β} {P : β → CH → Prop} {R : VK} (hs : SRel K ad H sc σ) (hh : HRel K ad H C) (E : Ext ad0 H0 ad H)
    (h : RP K W ad0 H0 σ ((fa sc C).bind k) P)
    (n : ∀ d C1 ad1 H1 v, Ext ad H ad1 H1 → SRel K ad1 H1 sc σ → HRel K ad1 H1 C1 → Rl K ad1 H1 d v → RP K W ad0 H0 σ (k d C1) P → R v H1) : tE K W fa σ H R := by
  refine ⟨ad, sc, C, hs, hh, ?_⟩
  refine (h.bind).later E fun d C1 q v H1 a => ?_
  obtain ⟨ad1, E1, h1, r⟩ := a
  exact n d C1 ad1 H1 v E1 (hs.mono E1) h1 r q
theorem tA_bind {K : PySem.W.Frag} {W : WX} {ad0 ad : List Addr} {H0 H : Hp} {sc : Sc} {C : CH} {σ : L2.St} {β : Type} {fa : Fa} {k : List D → CH → Res β} {P : β → CH → Prop} {R : List V → Hp → Prop} (hs : SRel K ad H sc σ) (hh : HRel K ad H C) (E : Ext ad0 H0 ad H)
    (h : RP K W ad0 H0 σ ((fa sc C).bind k) P)
    (n : ∀ d C1 ad1 H1 v, Ext ad H ad1 H1 → SRel K ad1 H1 sc σ → HRel K ad1 H1 C1 → Rls K ad1 H1 d v → RP K W ad0 H0 σ (k d C1) P → R v H1) : tA K W fa σ H R := by
  refine ⟨ad, sc, C, hs, hh, ?_⟩
  refine (h.bind).later E fun d C1 q v H1 a => ?_
  obtain ⟨ad1, E1, h1, r⟩ := a
  exact n d C1 ad1 H1 v E1 (hs.mono E1) h1 r q
theorem tT_bind {K : PySem.W.Frag} {W : WX} {ad0 ad : List Addr} {H0 H : Hp} {sc : Sc} {C : CH} {σ : L2.St} {β : Type} {fa : Ft} {k : Bool → CH → Res β} {P : β → CH → Prop} {R : Bool → Hp → Prop} (hs : SRel K ad H sc σ) (hh : HRel K ad H C) (E : Ext ad0 H0 ad H)
    (h : RP K W ad0 H0 σ ((fa sc C).bind k) P)
    (n : ∀ d C1 ad1 H1, Ext ad H ad1 H1 → SRel K ad1 H1 sc σ → HRel K ad1 H1 C1 → RP K W ad0 H0 σ (k d C1) P → R d H1) : tT K W fa σ H R := by
  refine ⟨ad, sc, C, hs, hh, ?_⟩
  refine (h.bind).later E fun d C1 q H1 a => ?_
  obtain ⟨ad1, E1, h1, _⟩ := a
  exact n d C1 ad1 H1 E1 (hs.mono E1) h1 q

section
variable {k : Nat} {X : Cx} {W : WX} {pos : Pos}

/-! ### names, constants -/
def dVar (i : Nat) : Fe := fun sc C => match sc[i]? with
  | some (some d) => .ok d C
  | _ => .bad
def dC (d : D) : Fe := fun _ C => .ok d C
theorem cv (i : Nat) {x : Str} (hN : X.N[i]? = some x := by rfl) (hv : Vis X.env.scope x := by first | exact Or.inl rfl | exact Or.inr (Or.inl rfl) | exact Or.inr (Or.inr rfl)) (hd : (x == ("__debug__" : Str)) = false := by decide)
    (hcd : (x == ("__classdict__" : Str)) = false := by decide) : CE X W (.Name x pos) (dVar i) := by
  refine PE_imp (pe_var hN hv hd hcd) fun σ H Q ⟨ad, sc, C, hs, hh, h⟩ => ?_
  unfold dVar at h
  split at h
  · rename_i d e
    obtain ⟨v, e1, r⟩ := hs.get i d e
    exact ⟨v, e1, h v H (.intro hh r)⟩
  · exact h.elim
theorem cC {v : V} {d : D} {e : Expr} (hp : PE X e (tC v)) (r : ∀ ad H, Rl X.K ad H d v) : CE X W e (dC d) :=
  PE_imp hp fun _ H _ ⟨ad, _, _, _, hh, h⟩ => h v H (.intro hh (r ad H))
theorem cInt {i : Int} {j pos} : CE X W (.Constant (.int i) j pos) (dC (.int i)) := cC pe_int fun _ _ => .int i
theorem cBl {b : Bool} {j pos} : CE X W (.Constant (.bool b) j pos) (dC (.bl b)) := cC pe_bl fun _ _ => .bl b
theorem cNon {j pos} : CE X W (.Constant .none j pos) (dC .non) := cC pe_non fun _ _ => .non
theorem cStr {x : Str} {j pos} : CE X W (.Constant (.str x) j pos) (dC (.str x)) := cC pe_str fun _ _ => .str x

/-! ### two operands -/
abbrev Og := D → D → CH → Option (D × CH)
def RG (K : PySem.W.Frag) (r : R2) (g : Og) : Prop := ∀ ad H C x y d e z C', HRel K ad H C → Rl K ad H d x → Rl K ad H e y → g d e C = some (z, C') →
  ∀ Q : VK, (∀ v H', Aft K ad H C' (fun ad' H' => Rl K ad' H' z v) H' → Q v H') → r x y H Q
def dBin (g : Og) (fa fb : Fe) : Fe := fun sc C => (fa sc C).bind fun x C1 => (fb sc C1).bind fun y C2 => .lift (g x y C2)
theorem two {K : PySem.W.Frag} {r : R2} {g : Og} (rg : RG K r g) {fa fb : Fe} {σ : L2.St} {H : Hp} {Q : VK} (h : tE K W (dBin g fa fb) σ H Q) : tOp r (tE K W fa) (tE K W fb) σ H Q := by
  obtain ⟨ad, sc, C, hs, hh, h⟩ := h
  refine tE_bind hs hh (.refl _ _) h fun d C1 ad1 H1 v E1 hs1 hh1 r1 h1 => ?_
  refine tE_bind hs1 hh1 E1 h1 fun e C2 ad2 H2 w E2 hs2 hh2 r2 h2 => ?_
  obtain ⟨z, C3, eq, q⟩ := RP.lift h2
  exact rg ad2 H2 C2 v w d e z C3 hh2 (r1.mono E2) r2 eq Q fun v' H' a => q v' H' (a.trans (E1.trans E2))
variable {a b : Expr} {fa fb : Fe}
theorem cBin {op : Operator} {r : R2} {g : Og} (ho : OpR X (binaryOp op) r) (rg : RG X.K r g) (ha : CE X W a fa) (hb : CE X W b fb) : CE X W (.BinOp a op b pos) (dBin g fa fb) :=
  PE_imp (pe_op ho ha hb) fun _ _ _ h => two rg h
theorem cCmp {op : CmpOp} {r : R2} {g : Og} (ho : OpR X (compareOp op) r) (rg : RG X.K r g) (ha : CE X W a fa) (hb : CE X W b fb) (hm : behindInMarks op b = false) : CE X W (.Compare a [op] [b] pos) (dBin g fa fb) :=
  PE_imp (pe_cmpR ho ha hb hm) fun _ _ _ h => two rg h
/-- a value that is a bool, as a test -/
def dTest (f : Fe) : Ft := fun sc C => (f sc C).bind fun d C1 => match d with
  | .bl b => .ok b C1
  | _ => .bad
theorem test {K : PySem.W.Frag} {t : TE} {f : Fe} (i : ∀ σ H Q, tE K W f σ H Q → t σ H Q) {σ : L2.St} {H : Hp} {Q : Bool → Hp → Prop} (h : tT K W (dTest f) σ H Q) : tTest t σ H Q := by
  obtain ⟨ad, sc, C, hs, hh, h⟩ := h
  refine i _ _ _ (tE_bind hs hh (.refl _ _) h fun d C1 ad1 H1 v E1 hs1 hh1 r1 h1 => ?_)
  cases r1 with
  | bl b => exact ⟨b, rfl, h1 H1 ⟨ad1, E1, hh1, trivial⟩⟩
  | _ => exact h1.elim
theorem ctCmp {op : CmpOp} {r : R2} {g : Og} (ho : OpR X (compareOp op) r) (rg : RG X.K r g) (ha : CE X W a fa) (hb : CE X W b fb) (hm : behindInMarks op b = false) : CT X W (.Compare a [op] [b] pos) (dTest (dBin g fa fb)) :=
  PT_imp (pt_cmpR ho ha hb hm) fun _ _ _ h => test (fun _ _ _ q => two rg q) h
theorem RG.or {K : PySem.W.Frag} {r r' : R2} {g : Og} (h : RG K r g) : RG K (fun x y H Q => r x y H Q ∨ r' x y H Q) g := fun ad H C x y d e z C' h1 h2 h3 h4 Q q => .inl (h ad H C x y d e z C' h1 h2 h3 h4 Q q)
/-- by cases of the operands' forms -/
def orO (g g' : Og) : Og := fun d e C => (g d e C).orElse fun _ => g' d e C
theorem RG.orO {K : PySem.W.Frag} {r r' : R2} {g g' : Og} (h : RG K r g) (h' : RG K r' g') : RG K (fun x y H Q => r x y H Q ∨ r' x y H Q) (orO g g') := fun ad H C x y d e z C' h1 h2 h3 h4 Q q => by
  unfold Cl.orO at h4
  cases e1 : g d e C with
  | some p =>
    rw [e1] at h4
    simp only [Option.orElse_some] at h4
    rw [h4] at e1
    exact .inl (h ad H C x y d e z C' h1 h2 h3 e1 Q q)
  | none =>
    rw [e1] at h4
    simp only [Option.orElse_none] at h4
    exact .inr (h' ad H C x y d e z C' h1 h2 h3 h4 Q q)

/-! ### argument lists, displays -/
def dNil : Fa := fun _ C => .ok [] C
def dCons (fa : Fe) (fr : Fa) : Fa := fun sc C => (fa sc C).bind fun d C1 => (fr sc C1).bind fun ds C2 => .ok (d :: ds) C2
theorem caN : CA X W [] dNil := PA_imp pa_nil fun _ H _ ⟨_, _, _, _, hh, h⟩ => h [] H (.intro hh .nil)
theorem caC {e : Expr} {es : List Expr} {f : Fe} {fr : Fa} (he : CE X W e f) (hr : CA X W es fr) (hs : starEach (e :: es) X.env = (false, eval e X.env) :: starEach es X.env := by rfl) : CA X W (e :: es) (dCons f fr) := by
  refine PA_imp (pa_cons he hr hs) fun σ H Q ⟨ad, sc, C, hs, hh, h⟩ => ?_
  refine tE_bind hs hh (.refl _ _) h fun d C1 ad1 H1 v E1 hs1 hh1 r1 h1 => ?_
  refine tA_bind hs1 hh1 E1 h1 fun ds C2 ad2 H2 vs E2 hs2 hh2 r2 h2 => ?_
  exact h2 _ H2 ⟨ad2, E1.trans E2, hh2, .cons (r1.mono E2) r2⟩
theorem cA1 {e : Expr} {f : Fe} (he : CE X W e f) (hs : starEach [e] X.env = (false, eval e X.env) :: starEach [] X.env := by rfl) : CA X W [e] (dCons f dNil) := caC he caN hs
theorem line_of {n : Nat} (h : n ≤ 1000) : n ≤ sizeLine := Nat.le_trans h (by decide)
def dTup (fs : Fa) : Fe := fun sc C => (fs sc C).bind fun ds C1 => if ds.length ≤ 1000 then .ok (.tup ds) C1 else .bad
theorem cTup {es : List Expr} {fs : Fa} {x1} (h : CA X W es fs) : CE X W (.Tuple es x1 pos) (dTup fs) := by
  refine PE_imp (pe_tup h) fun σ H Q ⟨ad, sc, C, hs, hh, h⟩ => ?_
  refine tA_bind hs hh (.refl _ _) h fun ds C1 ad1 H1 vs E1 hs1 hh1 r1 h1 => ?_
  by_cases z : ds.length ≤ 1000
  · rw [if_pos z] at h1
    refine ⟨by rw [← r1.length]; exact line_of z, fun p hp => h1 _ _ ⟨ad1, E1.trans (ext_new hp), hh1.new hp, .tup upd_same (r1.mono (ext_new hp))⟩⟩
  · rw [if_neg z] at h1
    exact h1.elim
def dLst (fs : Fa) : Fe := fun sc C => (fs sc C).bind fun ds C1 => if ds.length ≤ 1000 then .ok (.ref C1.length) (C1 ++ [.lst ds]) else .bad
theorem cLst {es : List Expr} {fs : Fa} (h : CA X W es fs) : CE X W (.List es pos) (dLst fs) := by
  refine PE_imp (pe_lst h) fun σ H Q ⟨ad, sc, C, hs, hh, h⟩ => ?_
  refine tA_bind hs hh (.refl _ _) h fun ds C1 ad1 H1 vs E1 hs1 hh1 r1 h1 => ?_
  by_cases z : ds.length ≤ 1000
  · rw [if_pos z] at h1
    exact ⟨by rw [← r1.length]; exact line_of z, fun p hp => h1 _ _ ⟨ad1 ++ [p], E1.trans (ext_alloc hp), hh1.alloc hp ⟨vs, rfl, r1.mono (ext_alloc hp)⟩, .ref (alloc_at hh1)⟩⟩
  · rw [if_neg z] at h1
    exact h1.elim

/-! ### tests -/
def dAnd (f g : Ft) : Ft := fun sc C => (f sc C).bind fun c C1 => if c then g sc C1 else .ok false C1
def dOr (f g : Ft) : Ft := fun sc C => (f sc C).bind fun c C1 => if c then .ok true C1 else g sc C1
def dNot (f : Ft) : Ft := fun sc C => (f sc C).bind fun c C1 => .ok (!c) C1
abbrev CW (X : Cx) (W : WX) (e : Expr) (f : Ft) : Prop := PW X e (tT X.K W f)
variable {f g : Ft} {rest : List Expr}
theorem cwAnd1 (ha : CT X W a f) : CW X W (.BoolOp .And [a] pos) f := pw_and1 ha
theorem cwOr1 (ha : CT X W a f) : CW X W (.BoolOp .Or [a] pos) f := pw_or1 ha
theorem cwAnd (ha : CT X W a f) (hb : CW X W (.BoolOp .And (b :: rest) pos) g) : CW X W (.BoolOp .And (a :: b :: rest) pos) (dAnd f g) := by
  refine PW_imp (pw_and ha hb) fun σ H Q ⟨ad, sc, C, hs, hh, h⟩ => ?_
  refine tT_bind hs hh (.refl _ _) h fun c C1 ad1 H1 E1 hs1 hh1 h1 => ?_
  cases c with
  | true => exact ⟨ad1, sc, C1, hs1, hh1, RP.later E1 h1 fun b C2 q H2 a => q H2 (a.trans E1)⟩
  | false => exact h1 H1 ⟨ad1, E1, hh1, trivial⟩
theorem cwOr (ha : CT X W a f) (hb : CW X W (.BoolOp .Or (b :: rest) pos) g) : CW X W (.BoolOp .Or (a :: b :: rest) pos) (dOr f g) := by
  refine PW_imp (pw_or ha hb) fun σ H Q ⟨ad, sc, C, hs, hh, h⟩ => ?_
  refine tT_bind hs hh (.refl _ _) h fun c C1 ad1 H1 E1 hs1 hh1 h1 => ?_
  cases c with
  | false => exact ⟨ad1, sc, C1, hs1, hh1, RP.later E1 h1 fun b C2 q H2 a => q H2 (a.trans E1)⟩
  | true => exact h1 H1 ⟨ad1, E1, hh1, trivial⟩
theorem ctW {e : Expr} (h : CW X W e f) : CT X W e f := h.pt
theorem ctNot (ha : CT X W a f) : CT X W (.UnaryOp .Not a pos) (dNot f) := by
  refine PT_imp (pt_not ha) fun σ H Q ⟨ad, sc, C, hs, hh, h⟩ => ?_
  exact tT_bind hs hh (.refl _ _) h fun c C1 ad1 H1 E1 hs1 hh1 h1 => h1 H1 ⟨ad1, E1, hh1, trivial⟩
/-- as values, of bools -/
def dAndV (fa fb : Fe) : Fe := fun sc C => (fa sc C).bind fun d C1 => match d with
  | .bl true => fb sc C1
  | .bl false => .ok (.bl false) C1
  | _ => .bad
def dOrV (fa fb : Fe) : Fe := fun sc C => (fa sc C).bind fun d C1 => match d with
  | .bl true => .ok (.bl true) C1
  | .bl false => fb sc C1
  | _ => .bad
def dNotV (fa : Fe) : Fe := fun sc C => (fa sc C).bind fun d C1 => match d with
  | .bl c => .ok (.bl (!c)) C1
  | _ => .bad
theorem cOne {op} (h : CE X W a fa) : CE X W (.BoolOp op [a] pos) fa := pe_one h
theorem cAndV (ha : CE X W a fa) (hb : CE X W (.BoolOp .And (b :: rest) pos) fb) : CE X W (.BoolOp .And (a :: b :: rest) pos) (dAndV fa fb) := by
  refine PE_imp (pe_and ha hb) fun σ H Q ⟨ad, sc, C, hs, hh, h⟩ => ?_
  refine tE_bind hs hh (.refl _ _) h fun d C1 ad1 H1 v E1 hs1 hh1 r1 h1 => ?_
  cases r1 with
  | bl c =>
    cases c with
    | true => exact ⟨true, rfl, ad1, sc, C1, hs1, hh1, RP.later E1 h1 fun b C2 q v H2 a => q v H2 (a.trans E1)⟩
    | false => exact ⟨false, rfl, h1 _ H1 ⟨ad1, E1, hh1, .bl false⟩⟩
  | _ => exact h1.elim
theorem cOrV (ha : CE X W a fa) (hb : CE X W (.BoolOp .Or (b :: rest) pos) fb) : CE X W (.BoolOp .Or (a :: b :: rest) pos) (dOrV fa fb) := by
  refine PE_imp (pe_or ha hb) fun σ H Q ⟨ad, sc, C, hs, hh, h⟩ => ?_
  refine tE_bind hs hh (.refl _ _) h fun d C1 ad1 H1 v E1 hs1 hh1 r1 h1 => ?_
  cases r1 with
  | bl c =>
    cases c with
    | false => exact ⟨false, rfl, ad1, sc, C1, hs1, hh1, RP.later E1 h1 fun b C2 q v H2 a => q v H2 (a.trans E1)⟩
    | true => exact ⟨true, rfl, h1 _ H1 ⟨ad1, E1, hh1, .bl true⟩⟩
  | _ => exact h1.elim
theorem cNotV (ha : CE X W a fa) : CE X W (.UnaryOp .Not a pos) (dNotV fa) := by
  refine PE_imp (pe_not ha) fun σ H Q ⟨ad, sc, C, hs, hh, h⟩ => ?_
  refine tE_bind hs hh (.refl _ _) h fun d C1 ad1 H1 v E1 hs1 hh1 r1 h1 => ?_
  cases r1 with
  | bl c => exact ⟨c, rfl, h1 _ H1 ⟨ad1, E1, hh1, .bl _⟩⟩
  | _ => exact h1.elim
def dIf (t : Ft) (fa fb : Fe) : Fe := fun sc C => (t sc C).bind fun c C1 => if c then fa sc C1 else fb sc C1
theorem cIf {c : Expr} (hc : CT X W c f) (ha : CE X W a fa) (hb : CE X W b fb) : CE X W (.IfExp c a b pos) (dIf f fa fb) := by
  refine PE_imp (pe_ifExp hc ha hb) fun σ H Q ⟨ad, sc, C, hs, hh, h⟩ => ?_
  refine tT_bind hs hh (.refl _ _) h fun c C1 ad1 H1 E1 hs1 hh1 h1 => ?_
  cases c with
  | true => exact ⟨ad1, sc, C1, hs1, hh1, RP.later E1 h1 fun b C2 q v H2 a => q v H2 (a.trans E1)⟩
  | false => exact ⟨ad1, sc, C1, hs1, hh1, RP.later E1 h1 fun b C2 q v H2 a => q v H2 (a.trans E1)⟩
/-- the truth of a value -/
def tru : D → CH → Option Bool
  | .non, _ => some false
  | .bl b, _ => some b
  | .int i, _ => some (i != 0)
  | .str x, _ => if x.length ≤ 1000000 then some (x.length != 0) else none
  | .tup ds, _ => some (!ds.isEmpty)
  | .fl ds, _ => some (!ds.isEmpty)
  | .ref n, C => match C[n]? with
    | some (.lst ds) => some (!ds.isEmpty)
    | _ => none
  | .v _, _ => none
  | .xc _ _ _ _, _ => none
end
end Cl
set_option maxHeartbeats 4000000
/-! Cl, part C: operators by the forms of their operands; subscripts, slices. -/
namespace Cl
open PySem PySem.Spec L2

section
variable {K : PySem.W.Frag}
/-- an operator whose answer is no new object -/
def pureO (g : D → D → Option D) : Og := fun d e C => (g d e).map fun z => (z, C)
theorem pureO_inv {g : D → D → Option D} {d e z : D} {C C' : CH} (h : pureO g d e C = some (z, C')) : g d e = some z ∧ C' = C := by
  unfold pureO at h
  cases q : g d e with
  | none => rw [q] at h; cases h
  | some w =>
    rw [q] at h
    simp only [Option.map_some, Option.some.injEq, Prod.mk.injEq] at h
    exact ⟨by rw [h.1], h.2.symm⟩

/-- a condition that the kernel never reckons -/
noncomputable def ck (p : Prop) : Bool := @decide p (Classical.propDecidable p)
theorem ck_iff {p : Prop} : ck p = true ↔ p := @decide_eq_true_iff p (Classical.propDecidable p)
theorem ck_of {p : Prop} (h : p) : ck p = true := ck_iff.mpr h
/-! ### ints -/
def iI (P : Int → Int → Bool) (g : Int → Int → D) : D → D → Option D
  | .int i, .int j => if P i j = true then some (g i j) else none
  | _, _ => none
theorem iI_inv {P : Int → Int → Bool} {g : Int → Int → D} {d e z : D} (h : iI P g d e = some z) : ∃ i j, d = .int i ∧ e = .int j ∧ P i j = true ∧ z = g i j := by
  unfold iI at h
  split at h
  · split at h
    · rename_i i j hp
      exact ⟨i, j, rfl, rfl, hp, by simpa using h.symm⟩
    · cases h
  · cases h
theorem rgI {Cd : Int → Int → Prop} {f : Int → Int → V} {P : Int → Int → Bool} {g : Int → Int → D} (hC : ∀ i j, P i j = true → Cd i j) (hr : ∀ ad H i j, Rl K ad H (g i j) (f i j)) : RG K (rI Cd f) (pureO (iI P g)) := by
  intro ad H C x y d e z C' hh rx ry h Q q
  obtain ⟨h2, rfl⟩ := pureO_inv h
  clear h
  obtain ⟨i, j, rfl, rfl, hp, rfl⟩ := iI_inv h2
  cases rx
  cases ry
  exact ⟨i, j, rfl, rfl, hC i j hp, q _ H (.intro hh (hr ad H i j))⟩
theorem rgI0 {f : Int → Int → V} {g : Int → Int → D} (hr : ∀ ad H i j, Rl K ad H (g i j) (f i j)) : RG K (rI0 f) (pureO (iI (fun _ _ => true) g)) := by
  intro ad H C x y d e z C' hh rx ry h Q q
  obtain ⟨h2, rfl⟩ := pureO_inv h
  clear h
  obtain ⟨i, j, rfl, rfl, hp, rfl⟩ := iI_inv h2
  cases rx
  cases ry
  exact ⟨i, j, rfl, rfl, q _ H (.intro hh (hr ad H i j))⟩
/-! ### texts, tuples, lists added -/
def sAdd : D → D → Option D
  | .str x, .str y => if x.length + y.length ≤ 1000000 then some (.str (x ++ y)) else none
  | _, _ => none
theorem mil {n : Nat} (h : n ≤ 1000000) : n ≤ sizeLine := Nat.le_trans h (by decide)
theorem rgS : RG K (fun x y H Q => ∃ i j, x = .str i ∧ y = .str j ∧ i.length + j.length ≤ sizeLine ∧ Q (.str (i ++ j)) H) (pureO sAdd) := by
  intro ad H C x y d e z C' hh rx ry h Q q
  obtain ⟨h2, rfl⟩ := pureO_inv h
  clear h
  have h := h2
  unfold sAdd at h
  split at h
  · split at h
    · rename_i hz
      cases rx
      cases ry
      cases h
      exact ⟨_, _, rfl, rfl, mil hz, q _ H (.intro hh (.str _))⟩
    · cases h
  · cases h
def tAddO : D → D → Option D
  | .tup x, .tup y => if x.length + y.length ≤ 1000000 then some (.tup (x ++ y)) else none
  | _, _ => none
theorem rgT : RG K (rCatA K) (pureO tAddO) := by
  intro ad H C x y d e z C' hh rx ry h Q q
  obtain ⟨h2, rfl⟩ := pureO_inv h
  clear h
  have h := h2
  unfold tAddO at h
  split at h
  · rename_i xs ys
    split at h
    · rename_i hz
      cases h
      cases rx with
      | tup h1 r1 =>
        rename_i a vs
        cases ry with
        | tup h2 r2 =>
          rename_i b ws
          refine ⟨a, b, vs, ws, rfl, rfl, .of h1, .of h2, by rw [← r1.length, ← r2.length]; exact mil hz, fun e0 => ?_, fun e0 e1 => ?_, fun e0 e1 p hp => ?_⟩
          · subst e0
            cases r1
            exact q _ H (.intro hh (Rl.tup (ds := ys) ‹_› r2))
          · subst e1
            cases r2
            rw [List.append_nil] at q
            exact q _ H (.intro hh (.tup h1 r1))
          · exact q _ _ ⟨ad, ext_new hp, hh.new hp, .tup upd_same ((r1.append r2).mono (ext_new hp))⟩
    · cases h
  · cases h
def lAddO : Og := fun d e C => match d, e with
  | .ref n, .ref m => match C[n]?, C[m]? with
    | some (.lst xs), some (.lst ys) => if xs.length + ys.length ≤ 1000000 then some (.ref C.length, C ++ [.lst (xs ++ ys)]) else none
    | _, _ => none
  | _, _ => none
theorem rgL : RG K rCat lAddO := by
  intro ad H C x y d e z C' hh rx ry h Q q
  unfold lAddO at h
  split at h
  · rename_i n m
    split at h
    · rename_i xs ys e1 e2
      split at h
      · rename_i hz
        cases h
        cases rx with
        | ref ha =>
          cases ry with
          | ref hb =>
            rename_i a b
            obtain ⟨u, h1, vs, rfl, r1⟩ := hh.obj n _ a e1 ha
            obtain ⟨u, h2, ws, rfl, r2⟩ := hh.obj m _ b e2 hb
            refine ⟨a, b, vs, ws, rfl, rfl, h1, h2, by rw [← r1.length, ← r2.length]; exact mil hz, fun p hp => ?_⟩
            exact q _ _ ⟨ad ++ [p], ext_alloc hp, hh.alloc hp ⟨_, rfl, (r1.append r2).mono (ext_alloc hp)⟩, .ref (alloc_at hh)⟩
      · cases h
    · cases h
  · cases h
def oAdd : Og := orO (pureO (iI (fun _ _ => true) fun i j => .int (i + j))) (orO (pureO sAdd) (orO (pureO tAddO) lAddO))
def oSub : Og := pureO (iI (fun _ _ => true) fun i j => .int (i - j))
noncomputable def bMul (i j : Int) : Bool := ck (CMul i j)
theorem bMul_ok (i j : Int) (h : bMul i j = true) : CMul i j := ck_iff.mp h
noncomputable def oMul : Og := pureO (iI bMul fun i j => .int (i * j))
noncomputable def bDiv (i j : Int) : Bool := ck (CDiv i j)
noncomputable def oDiv : Og := pureO (iI bDiv fun i j => .int (i / j))
def oMod : Og := pureO (iI (fun _ j => decide (0 < j)) fun i j => .int (i % j))
noncomputable def bPow (i j : Int) : Bool := ck (CPow i j)
noncomputable def oPow : Og := pureO (iI bPow fun i j => .int (i ^ j.toNat))
section
variable {X : Cx} {W : WX} {a b : Expr} {fa fb : Fe} {pos : Pos}
theorem cAdd (ha : CE X W a fa) (hb : CE X W b fb) : CE X W (.BinOp a .Add b pos) (dBin oAdd fa fb) :=
  cBin (op_add.or (op_add_str.or (op_catA.or op_cat))) ((rgI0 fun _ _ _ _ => .int _).orO (rgS.orO (rgT.orO rgL))) ha hb
theorem cSub (ha : CE X W a fa) (hb : CE X W b fb) : CE X W (.BinOp a .Sub b pos) (dBin oSub fa fb) := cBin op_sub (rgI0 fun _ _ _ _ => .int _) ha hb
theorem cMul (ha : CE X W a fa) (hb : CE X W b fb) : CE X W (.BinOp a .Mult b pos) (dBin oMul fa fb) := cBin op_mul (rgI bMul_ok fun _ _ _ _ => .int _) ha hb
theorem cDiv (ha : CE X W a fa) (hb : CE X W b fb) : CE X W (.BinOp a .FloorDiv b pos) (dBin oDiv fa fb) :=
  cBin op_fdiv (rgI (fun i j h => ck_iff.mp h) fun _ _ _ _ => .int _) ha hb
theorem cMod (ha : CE X W a fa) (hb : CE X W b fb) : CE X W (.BinOp a .Mod b pos) (dBin oMod fa fb) :=
  cBin op_mod (rgI (fun i j h => by simpa only [decide_eq_true_eq] using h) fun _ _ _ _ => .int _) ha hb
theorem cPow (ha : CE X W a fa) (hb : CE X W b fb) : CE X W (.BinOp a .Pow b pos) (dBin oPow fa fb) :=
  cBin op_pow (rgI (fun i j h => ck_iff.mp h) fun _ _ _ _ => .int _) ha hb
def dNeg (fa : Fe) : Fe := fun sc C => (fa sc C).bind fun d C1 => match d with
  | .int i => .ok (.int (-i)) C1
  | _ => .bad
theorem cNeg (ha : CE X W a fa) : CE X W (.UnaryOp .USub a pos) (dNeg fa) := by
  refine PE_imp (pe_un un_neg ha) fun σ H Q ⟨ad, sc, C, hs, hh, h⟩ => ?_
  refine tE_bind hs hh (.refl _ _) h fun d C1 ad1 H1 v E1 hs1 hh1 r1 h1 => ?_
  cases r1 with
  | int i => exact ⟨i, rfl, h1 _ H1 ⟨ad1, E1, hh1, .int _⟩⟩
  | _ => exact h1.elim
end

/-! ### data, for ==, in, repr -/
def py (C : CH) : Nat → D → Option PyData
  | 0, _ => none
  | k + 1, d => match d with
    | .non => some .none
    | .bl b => some (.bool b)
    | .int i => some (.int i)
    | .str x => if PyData.strOk x then some (.str x) else none
    | .tup ds => (ds.mapM (py C k)).map .tuple
    | .fl ds => (ds.mapM (py C k)).map .list
    | .ref n => match C[n]? with
      | some (.lst ds) => (ds.mapM (py C k)).map .list
      | _ => none
    | .v _ => none
    | .xc _ _ _ _ => none
theorem mapM_cons_some {α β : Type} {f : α → Option β} {x : α} {xs : List α} {ys : List β} (h : (x :: xs).mapM f = some ys) : ∃ y r, f x = some y ∧ xs.mapM f = some r ∧ ys = y :: r := by
  rw [List.mapM_cons] at h
  cases e : f x with
  | none => rw [e] at h; cases h
  | some y =>
    rw [e] at h
    cases e2 : xs.mapM f with
    | none => rw [e2] at h; cases h
    | some r =>
      rw [e2] at h
      exact ⟨y, r, rfl, rfl, by simpa using h.symm⟩
theorem py_dp {ad : List Addr} {H : Hp} {C : CH} (hh : HRel K ad H C) : ∀ (k : Nat) (d : D) (p : PyData) (v : V), py C k d = some p → Rl K ad H d v → Dp K H v p := by
  intro k
  induction k with
  | zero => intro d p v h; cases h
  | succ k ih =>
    have all : ∀ (ds : List D) (ps : List PyData) (vs : List V), ds.mapM (py C k) = some ps → Rls K ad H ds vs → DpAll K H vs ps := by
      intro ds
      induction ds with
      | nil =>
        intro ps vs h r
        cases r
        have : ps = [] := by simpa using h.symm
        subst this
        exact .nil
      | cons d ds ihd =>
        intro ps vs h r
        obtain ⟨y, r', e1, e2, rfl⟩ := mapM_cons_some h
        cases r with
        | cons r1 r2 => exact .cons (ih _ _ _ e1 r1) (ihd _ _ e2 r2)
    intro d p v h r
    cases r with
    | non => cases h; exact .non
    | bl b => cases h; exact .bl b
    | int i => cases h; exact .int i
    | str x =>
      have h : (if PyData.strOk x then some (PyData.str x) else none) = some p := h
      split at h
      · cases h; exact .str x
      · cases h
    | tup h1 r1 =>
      rename_i ds a vs
      have h : (ds.mapM (py C k)).map PyData.tuple = some p := h
      cases e : ds.mapM (py C k) with
      | none => rw [e] at h; cases h
      | some ps =>
        rw [e] at h
        cases h
        exact .tup (.of h1) (all _ _ _ e r1)
    | fl h1 r1 =>
      rename_i ds a vs
      have h : (ds.mapM (py C k)).map PyData.list = some p := h
      cases e : ds.mapM (py C k) with
      | none => rw [e] at h; cases h
      | some ps =>
        rw [e] at h
        cases h
        exact .lst h1.sq (all _ _ _ e r1)
    | ref ha =>
      rename_i n a
      have h : (match C[n]? with | some (.lst ds) => (ds.mapM (py C k)).map PyData.list | _ => none) = some p := h
      split at h
      · rename_i ds e
        cases e2 : ds.mapM (py C k) with
        | none => rw [e2] at h; cases h
        | some ps =>
          rw [e2] at h
          cases h
          obtain ⟨u, h1, vs, rfl, r1⟩ := hh.obj n _ a e ha
          exact .lst (.of h1) (all _ _ _ e2 r1)
      · cases h
    | v x => cases h
    | xc _ _ _ => cases h
def eqP (C : CH) (d e : D) : Option Bool := (py C 66 d).bind fun p => (py C 66 e).bind fun q => if SeqAt.shaped p && SeqAt.shaped q then some (PyData.eqv p q) else none
theorem eqP_inv {C : CH} {d e : D} {z : Bool} (h : eqP C d e = some z) : ∃ p q, py C 66 d = some p ∧ py C 66 e = some q ∧ SeqAt.shaped p = true ∧ SeqAt.shaped q = true ∧ z = PyData.eqv p q := by
  unfold eqP at h
  cases e1 : py C 66 d with
  | none => rw [e1] at h; cases h
  | some p =>
    cases e2 : py C 66 e with
    | none => rw [e1, e2] at h; cases h
    | some q =>
      rw [e1, e2] at h
      simp only [Option.bind_some] at h
      split at h
      · rename_i hb
        rw [Bool.and_eq_true] at hb
        exact ⟨p, q, rfl, rfl, hb.1, hb.2, by simpa using h.symm⟩
      · cases h
/-- == of data: ints and texts at once, all else as data -/
def eqO (C : CH) : D → D → Option Bool
  | .int i, .int j => some (decide (i = j))
  | .str x, .str y => some (decide (x = y))
  | .bl x, .bl y => some (decide (x = y))
  | d, e => eqP C d e
def oEq : Og := fun d e C => (eqO C d e).map fun z => (.bl z, C)
def oNe : Og := fun d e C => (eqO C d e).map fun z => (.bl (!z), C)
theorem eq_cases {C : CH} {d e : D} {z : Bool} (h : eqO C d e = some z) : (∃ i j, d = .int i ∧ e = .int j ∧ z = decide (i = j)) ∨ (∃ i j, d = .str i ∧ e = .str j ∧ z = decide (i = j)) ∨ (∃ i j, d = .bl i ∧ e = .bl j ∧ z = decide (i = j)) ∨ eqP C d e = some z := by
  unfold eqO at h
  split at h
  · exact .inl ⟨_, _, rfl, rfl, by simpa using h.symm⟩
  · exact .inr (.inl ⟨_, _, rfl, rfl, by simpa using h.symm⟩)
  · exact .inr (.inr (.inl ⟨_, _, rfl, rfl, by simpa using h.symm⟩))
  · exact .inr (.inr (.inr h))
theorem dec_i (i j : Int) : decide (V.int i = V.int j) = decide (i = j) := by by_cases h : i = j <;> simp [h]
theorem dec_s (i j : Str) : decide (V.str i = V.str j) = decide (i = j) := by by_cases h : i = j <;> simp [h]
theorem dec_b (i j : Bool) : decide (V.bl i = V.bl j) = decide (i = j) := by by_cases h : i = j <;> simp [h]
theorem rgEq : RG K (fun x y H Q => rEq x y H Q ∨ rEqD K x y H Q) oEq := by
  intro ad H C x y d e z C' hh rx ry h Q q
  unfold oEq at h
  cases e0 : eqO C d e with
  | none => rw [e0] at h; cases h
  | some b =>
    rw [e0] at h
    cases h
    rcases eq_cases e0 with ⟨i, j, rfl, rfl, rfl⟩ | ⟨i, j, rfl, rfl, rfl⟩ | ⟨i, j, rfl, rfl, rfl⟩ | e1
    · cases rx; cases ry
      exact .inl ⟨rfl, by rw [dec_i]; exact q _ H (.intro hh (.bl _))⟩
    · cases rx; cases ry
      exact .inl ⟨rfl, by rw [dec_s]; exact q _ H (.intro hh (.bl _))⟩
    · cases rx; cases ry
      exact .inl ⟨rfl, by rw [dec_b]; exact q _ H (.intro hh (.bl _))⟩
    · obtain ⟨p, q', h1, h2, s1, s2, rfl⟩ := eqP_inv e1
      exact .inr ⟨p, q', py_dp hh _ _ _ _ h1 rx, py_dp hh _ _ _ _ h2 ry, s1, s2, q _ H (.intro hh (.bl _))⟩
theorem rgNe : RG K (fun x y H Q => rNe x y H Q ∨ rNeD K x y H Q) oNe := by
  intro ad H C x y d e z C' hh rx ry h Q q
  unfold oNe at h
  cases e0 : eqO C d e with
  | none => rw [e0] at h; cases h
  | some b =>
    rw [e0] at h
    cases h
    rcases eq_cases e0 with ⟨i, j, rfl, rfl, rfl⟩ | ⟨i, j, rfl, rfl, rfl⟩ | ⟨i, j, rfl, rfl, rfl⟩ | e1
    · cases rx; cases ry
      exact .inl ⟨rfl, by rw [dec_i]; exact q _ H (.intro hh (.bl _))⟩
    · cases rx; cases ry
      exact .inl ⟨rfl, by rw [dec_s]; exact q _ H (.intro hh (.bl _))⟩
    · cases rx; cases ry
      exact .inl ⟨rfl, by rw [dec_b]; exact q _ H (.intro hh (.bl _))⟩
    · obtain ⟨p, q', h1, h2, s1, s2, rfl⟩ := eqP_inv e1
      exact .inr ⟨p, q', py_dp hh _ _ _ _ h1 rx, py_dp hh _ _ _ _ h2 ry, s1, s2, q _ H (.intro hh (.bl _))⟩
def oLt : Og := pureO (iI (fun _ _ => true) fun i j => .bl (decide (i < j)))
def oLe : Og := pureO (iI (fun _ _ => true) fun i j => .bl (decide (i ≤ j)))
def oGt : Og := pureO (iI (fun _ _ => true) fun i j => .bl (decide (j < i)))
def oGe : Og := pureO (iI (fun _ _ => true) fun i j => .bl (decide (j ≤ i)))
/-- in a list or a tuple of flat things -/
def flat : D → Bool
  | .int _ => true
  | .str _ => true
  | _ => false
def eqF : D → D → Bool
  | .int i, .int j => decide (i = j)
  | .str i, .str j => decide (i = j)
  | _, _ => false
def itemsOf (C : CH) : D → Option (List D)
  | .tup ds => some ds
  | .fl ds => some ds
  | .ref n => match C[n]? with
    | some (.lst ds) => some ds
    | _ => none
  | _ => none
def inF (d : D) (ds : List D) : Bool := ds.any fun e => eqF e d
def oIn (neg : Bool) : Og := fun d e C => (itemsOf C e).bind fun ds => if flat d && ds.all flat then some (.bl (if neg then !inF d ds else inF d ds), C) else none
theorem items_sq {ad : List Addr} {H : Hp} {C : CH} (hh : HRel K ad H C) {d : D} {v : V} {ds : List D} (r : Rl K ad H d v) (h : itemsOf C d = some ds) : ∃ p vs, v = .ref p ∧ (SqL K H p vs ∨ SqT K H p vs) ∧ Rls K ad H ds vs := by
  cases r with
  | tup h1 r1 => cases h; exact ⟨_, _, rfl, .inr (.of h1), r1⟩
  | fl h1 r1 => cases h; exact ⟨_, _, rfl, .inl h1.sq, r1⟩
  | ref ha =>
    rename_i n a
    have h : (match C[n]? with | some (.lst ds) => some ds | _ => none) = some ds := h
    split at h
    · rename_i e
      cases h
      obtain ⟨u, h1, vs, rfl, r1⟩ := hh.obj n _ a e ha
      exact ⟨_, _, rfl, .inl (.of h1), r1⟩
    · cases h
  | _ => cases h
end
end Cl
set_option maxHeartbeats 4000000
/-! Cl, part D: comparisons, in, dicts, subscripts, slices, built-ins, methods. -/
namespace Cl
open PySem PySem.Spec L2

theorem PE_or {X : Cx} {e : Expr} {t t' : TE} (h : PE X e t) (h' : PE X e t') : PE X e (fun σ H Q => t σ H Q ∨ t' σ H Q) :=
  ⟨fun pins s σ H Q I z => z.elim (h.run pins s σ H Q I) (h'.run pins s σ H Q I)⟩
theorem PT_or {X : Cx} {e : Expr} {t t' : TT} (h : PT X e t) (h' : PT X e t') : PT X e (fun σ H Q => t σ H Q ∨ t' σ H Q) :=
  ⟨fun pins s σ H Q I z => z.elim (h.run pins s σ H Q I) (h'.run pins s σ H Q I)⟩
theorem PS_or {X : Cx} {e : Stmt} {t t' : TS} (h : PS X e t) (h' : PS X e t') : PS X e (fun D σ H => t D σ H ∨ t' D σ H) :=
  ⟨fun pins s σ H Q I z => z.elim (h.run pins s σ H Q I) (h'.run pins s σ H Q I)⟩
theorem dBin_or (g g' : Og) (fa fb : Fe) (sc : Sc) (C : CH) : dBin (orO g g') fa fb sc C = dBin g fa fb sc C ∨ dBin (orO g g') fa fb sc C = dBin g' fa fb sc C := by
  unfold dBin
  cases fa sc C with
  | bad => exact .inl rfl
  | ex x C1 => exact .inl rfl
  | ok d C1 =>
    simp only [Res.bind_ok]
    cases fb sc C1 with
    | bad => exact .inl rfl
    | ex x C2 => exact .inl rfl
    | ok e C2 =>
      simp only [Res.bind_ok]
      unfold orO
      cases g d e C2 with
      | some p => exact .inl rfl
      | none => exact .inr rfl
theorem two_or {K : PySem.W.Frag} {W : WX} {g g' : Og} {fa fb : Fe} {σ : L2.St} {H : Hp} {Q : VK} (h : tE K W (dBin (orO g g') fa fb) σ H Q) : tE K W (dBin g fa fb) σ H Q ∨ tE K W (dBin g' fa fb) σ H Q := by
  obtain ⟨ad, sc, C, hs, hh, h⟩ := h
  rcases dBin_or g g' fa fb sc C with e | e
  · exact .inl ⟨ad, sc, C, hs, hh, by rw [← e]; exact h⟩
  · exact .inr ⟨ad, sc, C, hs, hh, by rw [← e]; exact h⟩
theorem test_or {K : PySem.W.Frag} {W : WX} {g g' : Og} {fa fb : Fe} {σ : L2.St} {H : Hp} {Q : Bool → Hp → Prop} (h : tT K W (dTest (dBin (orO g g') fa fb)) σ H Q) : tT K W (dTest (dBin g fa fb)) σ H Q ∨ tT K W (dTest (dBin g' fa fb)) σ H Q := by
  obtain ⟨ad, sc, C, hs, hh, h⟩ := h
  have e1 : ∀ f : Fe, dTest f sc C = (f sc C).bind fun d C1 => match d with
      | .bl b => .ok b C1
      | _ => .bad := fun _ => rfl
  rw [e1] at h
  rcases dBin_or g g' fa fb sc C with e | e
  · exact .inl ⟨ad, sc, C, hs, hh, by rw [e1, ← e]; exact h⟩
  · exact .inr ⟨ad, sc, C, hs, hh, by rw [e1, ← e]; exact h⟩

/-! ### in a list or a tuple -/
section
variable {K : PySem.W.Frag}
theorem flat_rel {ad : List Addr} {H : Hp} {d : D} {v : V} (f : flat d = true) (r : Rl K ad H d v) : flatV v = true := by
  cases r <;> first | rfl | cases f
theorem flat_all {ad : List Addr} {H : Hp} : ∀ {ds : List D} {vs : List V}, ds.all flat = true → Rls K ad H ds vs → vs.all flatV = true
  | _, _, _, .nil => rfl
  | _, _, f, .cons r t => by
    rw [List.all_cons, Bool.and_eq_true] at f ⊢
    exact ⟨flat_rel f.1 r, flat_all f.2 t⟩
theorem eqF_rel {ad : List Addr} {H : Hp} {d e : D} {v w : V} (f : flat d = true) (f2 : flat e = true) (r : Rl K ad H d v) (r2 : Rl K ad H e w) : L2.eqV v w = eqF d e := by
  cases r with
  | int i =>
    cases r2 with
    | int j =>
      show (i == j) = decide (i = j)
      rw [Bool.beq_eq_decide_eq]
    | str j => rfl
    | _ => cases f2
  | str i =>
    cases r2 with
    | str j =>
      show (i == j) = decide (i = j)
      rw [Bool.beq_eq_decide_eq]
    | int j => rfl
    | _ => cases f2
  | _ => cases f
theorem inF_rel {ad : List Addr} {H : Hp} {d : D} {v : V} (f : flat d = true) (r : Rl K ad H d v) : ∀ {ds : List D} {vs : List V}, ds.all flat = true → Rls K ad H ds vs → inV v vs = inF d ds
  | _, _, _, .nil => rfl
  | _, _, g, .cons r1 t => by
    rw [List.all_cons, Bool.and_eq_true] at g
    have ih := inF_rel f r g.2 t
    unfold inV inF at ih ⊢
    rw [List.any_cons, List.any_cons, ih, eqF_rel g.1 f r1 r]
theorem rgIn (neg : Bool) : RG K (rIn K neg) (oIn neg) := by
  intro ad H C x y d e z C' hh rx ry h Q q
  unfold oIn at h
  cases e0 : itemsOf C e with
  | none => rw [e0] at h; cases h
  | some ds =>
    rw [e0] at h
    simp only [Option.bind_some] at h
    split at h
    · rename_i hb
      rw [Bool.and_eq_true] at hb
      cases h
      obtain ⟨p, vs, rfl, hq, rs⟩ := items_sq hh ry e0
      refine ⟨p, vs, rfl, hq, flat_rel hb.1 rx, flat_all hb.2 rs, ?_⟩
      rw [inF_rel hb.1 rx hb.2 rs]
      exact q _ H (.intro hh (.bl _))
    · cases h
/-- .. of any data in a list -/
def isList (C : CH) : D → Bool
  | .fl _ => true
  | .ref n => match C[n]? with
    | some (.lst _) => true
    | _ => false
  | _ => false
def oInD (neg : Bool) : Og := fun d e C => (py C 66 d).bind fun p => (py C 66 e).bind fun q => match q with
  | .list ds => if SeqAt.shaped p && SeqAt.shaped (.list ds) then some (.bl (if neg then !ds.any (fun z => PyData.eqv z p) else ds.any fun z => PyData.eqv z p), C) else none
  | _ => none
theorem oInD_inv {neg : Bool} {d e z : D} {C C' : CH} (h : oInD neg d e C = some (z, C')) : ∃ p ds, py C 66 d = some p ∧ py C 66 e = some (.list ds) ∧ SeqAt.shaped p = true ∧ SeqAt.shaped (.list ds) = true ∧ C' = C ∧ z = .bl (if neg then !ds.any (fun z => PyData.eqv z p) else ds.any fun z => PyData.eqv z p) := by
  unfold oInD at h
  cases e1 : py C 66 d with
  | none => rw [e1] at h; cases h
  | some p =>
    cases e2 : py C 66 e with
    | none => rw [e1, e2] at h; cases h
    | some q =>
      rw [e1, e2] at h
      simp only [Option.bind_some] at h
      split at h
      · rename_i ds
        split at h
        · rename_i hb
          rw [Bool.and_eq_true] at hb
          cases h
          exact ⟨p, ds, rfl, rfl, hb.1, hb.2, rfl, rfl⟩
        · cases h
      · cases h
theorem rgInD : RG K (rInD K) (oInD false) := by
  intro ad H C x y d e z C' hh rx ry h Q q
  obtain ⟨p, ds, h1, h2, s1, s2, rfl, rfl⟩ := oInD_inv h
  exact ⟨p, ds, py_dp hh _ _ _ _ h1 rx, py_dp hh _ _ _ _ h2 ry, s1, s2, q _ H (.intro hh (.bl _))⟩
theorem rgNotInD : RG K (rNotInD K) (oInD true) := by
  intro ad H C x y d e z C' hh rx ry h Q q
  obtain ⟨p, ds, h1, h2, s1, s2, rfl, rfl⟩ := oInD_inv h
  exact ⟨p, ds, py_dp hh _ _ _ _ h1 rx, py_dp hh _ _ _ _ h2 ry, s1, s2, q _ H (.intro hh (.bl _))⟩

/-! ### dicts -/
def keyOf : D → Option Key
  | .int i => some (.inl i)
  | .str x => some (.inr x)
  | _ => none
def keysOf : D → Option (List Key)
  | .tup ds => ds.mapM keyOf
  | _ => none
def valD {κ : Type} [DecidableEq κ] (kvs : List (κ × D)) (k : κ) : Option D := (kvs.find? fun kv => decide (kv.1 = k)).map (·.2)
def putD {κ : Type} [DecidableEq κ] (kvs : List (κ × D)) (k : κ) (v : D) : List (κ × D) :=
  if kvs.any (fun kv => decide (kv.1 = k)) then kvs.map fun kv => if kv.1 = k then (kv.1, v) else kv else kvs ++ [(k, v)]
theorem key_rel {ad : List Addr} {H : Hp} {d : D} {v : V} {k : Key} (h : keyOf d = some k) (r : Rl K ad H d v) : v = kV k := by
  cases r <;> first | (cases h; rfl) | cases h
theorem keys_rel {ad : List Addr} {H : Hp} : ∀ {ds : List D} {vs : List V} {ks : List Key}, ds.mapM keyOf = some ks → Rls K ad H ds vs → vs = ks.map kV
  | _, _, ks, h, .nil => by
    have : ks = [] := by simpa using h.symm
    subst this; rfl
  | _, _, ks, h, .cons r t => by
    obtain ⟨y, r', e1, e2, rfl⟩ := mapM_cons_some h
    rw [key_rel e1 r, keys_rel e2 t]
    rfl
theorem val_rel {κ : Type} [DecidableEq κ] {ad : List Addr} {H : Hp} (k : κ) : ∀ {kvs : List (κ × D)} {vs : List (κ × V)}, KR K ad H kvs vs → (valD kvs k = none ∧ valV vs k = none) ∨ ∃ d v, valD kvs k = some d ∧ valV vs k = some v ∧ Rl K ad H d v
  | _, _, .nil => .inl ⟨rfl, rfl⟩
  | p :: ps, q :: qs, .cons r t => by
    by_cases e : p.1 = k
    · refine .inr ⟨p.2, q.2, ?_, valV_pos (by rw [← r.1]; exact e), r.2⟩
      unfold valD
      rw [List.find?_cons, decide_eq_true e]
      rfl
    · have e2 : ¬ q.1 = k := by rw [← r.1]; exact e
      have h1 : valD (p :: ps) k = valD ps k := by
        unfold valD
        rw [List.find?_cons, decide_eq_false e]
      rw [valV_neg e2]
      rcases val_rel k t with ⟨a, b⟩ | ⟨d, v, a, b, c⟩
      · exact .inl ⟨h1.trans a, b⟩
      · exact .inr ⟨d, v, h1.trans a, b, c⟩
theorem any_rel {κ : Type} [DecidableEq κ] {ad : List Addr} {H : Hp} (k : κ) : ∀ {kvs : List (κ × D)} {vs : List (κ × V)}, KR K ad H kvs vs → (kvs.any fun kv => decide (kv.1 = k)) = vs.any fun kv => decide (kv.1 = k)
  | _, _, .nil => rfl
  | _, _, .cons r t => by rw [List.any_cons, List.any_cons, any_rel k t, r.1]
theorem put_rel {κ : Type} [DecidableEq κ] {ad : List Addr} {H : Hp} (k : κ) {d : D} {v : V} (rv : Rl K ad H d v) {kvs : List (κ × D)} {vs : List (κ × V)} (h : KR K ad H kvs vs) : KR K ad H (putD kvs k d) (putK vs k v) := by
  unfold putD putK
  rw [any_rel k h]
  have m1 : ∀ {kvs : List (κ × D)} {vs : List (κ × V)}, KR K ad H kvs vs → KR K ad H (kvs.map fun kv => if kv.1 = k then (kv.1, d) else kv) (vs.map fun kv => if kv.1 = k then (kv.1, v) else kv) := by
    intro kvs vs h
    induction h with
    | nil => exact .nil
    | cons r t ih =>
      rename_i p q ps qs
      refine Paired.cons ?_ ih
      by_cases e : p.1 = k
      · have e2 : q.1 = k := by rw [← r.1]; exact e
        dsimp only
        rw [if_pos e, if_pos e2]
        exact ⟨r.1, rv⟩
      · have e2 : ¬ q.1 = k := by rw [← r.1]; exact e
        dsimp only
        rw [if_neg e, if_neg e2]
        exact r
  have m2 : ∀ {kvs : List (κ × D)} {vs : List (κ × V)}, KR K ad H kvs vs → KR K ad H (kvs ++ [(k, d)]) (vs ++ [(k, v)]) := by
    intro kvs vs h
    induction h with
    | nil => exact .cons ⟨rfl, rv⟩ .nil
    | cons r t ih => exact Paired.cons r ih
  split
  · exact m1 h
  · exact m2 h
theorem KR.length {κ : Type} {ad : List Addr} {H : Hp} {kvs : List (κ × D)} {vs : List (κ × V)} (h : KR K ad H kvs vs) : kvs.length = vs.length := Paired.length h
/-- what a dict holds at a key -/
def dGetO (C : CH) (o k : D) : Option (Option D) := match o with
  | .ref n => match C[n]? with
    | some (.dK kvs) => (keyOf k).map fun i => valD kvs i
    | some (.dT kvs) => (keysOf k).map fun i => valD kvs i
    | _ => none
  | _ => none
theorem dGet_rel {ad : List Addr} {H : Hp} {C : CH} (hh : HRel K ad H C) {o k : D} {x y : V} {z : Option D} (rx : Rl K ad H o x) (ry : Rl K ad H k y) (h : dGetO C o k = some z) :
    ∃ a w, x = .ref a ∧ DGet H a y w ∧ ((z = none ∧ w = none) ∨ ∃ d v, z = some d ∧ w = some v ∧ Rl K ad H d v) := by
  unfold dGetO at h
  split at h
  · rename_i n
    cases rx with
    | ref ha =>
      rename_i a
      split at h
      · rename_i kvs e
        obtain ⟨u, h1, vs, rfl, r1⟩ := hh.obj n _ a e ha
        cases e2 : keyOf k with
        | none => rw [e2] at h; cases h
        | some i =>
          rw [e2] at h
          cases h
          rw [key_rel e2 ry]
          refine ⟨a, _, rfl, DGet.k h1, ?_⟩
          rcases val_rel i r1 with ⟨p, q⟩ | ⟨d, v, p, q, r⟩
          · exact .inl ⟨p, q⟩
          · exact .inr ⟨d, v, p, q, r⟩
      · rename_i kvs e
        obtain ⟨u, h1, vs, rfl, r1⟩ := hh.obj n _ a e ha
        cases e2 : keysOf k with
        | none => rw [e2] at h; cases h
        | some i =>
          rw [e2] at h
          cases h
          unfold keysOf at e2
          split at e2
          · cases ry with
            | tup h2 r2 =>
              rename_i b ws
              have := keys_rel e2 r2
              subst this
              refine ⟨a, _, rfl, DGet.t h1 h2, ?_⟩
              rcases val_rel i r1 with ⟨p, q⟩ | ⟨d, v, p, q, r⟩
              · exact .inl ⟨p, q⟩
              · exact .inr ⟨d, v, p, q, r⟩
          · cases e2
      · cases h
  · cases h
def rDIn (neg : Bool) : R2 := fun y x H Q => ∃ a o, x = .ref a ∧ DGet H a y o ∧ Q (.bl (if neg then !o.isSome else o.isSome)) H
def oDIn (neg : Bool) : Og := fun d e C => (dGetO C e d).map fun z => (.bl (if neg then !z.isSome else z.isSome), C)
theorem rgDIn (neg : Bool) : RG K (rDIn neg) (oDIn neg) := by
  intro ad H C x y d e z C' hh rx ry h Q q
  unfold oDIn at h
  cases e0 : dGetO C e d with
  | none => rw [e0] at h; cases h
  | some w =>
    rw [e0] at h
    cases h
    obtain ⟨a, o, rfl, g, c⟩ := dGet_rel hh ry rx e0
    refine ⟨a, o, rfl, g, ?_⟩
    have : o.isSome = w.isSome := by
      rcases c with ⟨rfl, rfl⟩ | ⟨_, _, rfl, rfl, _⟩ <;> rfl
    rw [this]
    exact q _ H (.intro hh (.bl _))
def rDGet : R2 := fun x y H Q => ∃ a v, x = .ref a ∧ DGet H a y (some v) ∧ Q v H
def oDGet : Og := fun d e C => match dGetO C d e with
  | some (some z) => some (z, C)
  | _ => none
theorem rgDGet : RG K rDGet oDGet := by
  intro ad H C x y d e z C' hh rx ry h Q q
  unfold oDGet at h
  split at h
  · rename_i w e0
    cases h
    obtain ⟨a, o, rfl, g, c⟩ := dGet_rel hh rx ry e0
    rcases c with ⟨z1, _⟩ | ⟨d', v, z1, rfl, r⟩
    · cases z1
    · cases z1
      exact ⟨a, v, rfl, g, q _ H (.intro hh r)⟩
  · cases h

/-! ### subscripts -/
def oIx : Og := fun d e C => match e with
  | .int i => match d with
    | .str z => if z.length ≤ 1000000 then (atI z.cps.toList i).map fun c => (.str ⟨#[c]⟩, C) else none
    | _ => (itemsOf C d).bind fun ds => (atI ds i).map fun w => (w, C)
  | _ => none
theorem atI_rel {ad : List Addr} {H : Hp} {ds : List D} {vs : List V} {i : Int} {d : D} (r : Rls K ad H ds vs) (h : atI ds i = some d) : ∃ v, atI vs i = some v ∧ Rl K ad H d v := by
  unfold atI at h ⊢
  rw [r.length] at h
  cases e : ixN vs.length i with
  | none => rw [e] at h; cases h
  | some j =>
    rw [e] at h
    exact r.get h
theorem rgIx : RG K (rIx K) oIx := by
  intro ad H C x y d e z C' hh rx ry h Q q
  unfold oIx at h
  split at h
  · rename_i i
    cases ry
    split at h
    · rename_i s
      split at h
      · rename_i hz
        cases rx
        cases e1 : atI s.cps.toList i with
        | none => rw [e1] at h; cases h
        | some c =>
          rw [e1] at h
          cases h
          exact .inr (.inr ⟨s, i, c, rfl, rfl, mil hz, e1, q _ H (.intro hh (.str _))⟩)
      · cases h
    · cases e0 : itemsOf C d with
      | none => rw [e0] at h; cases h
      | some ds =>
        rw [e0] at h
        simp only [Option.bind_some] at h
        cases e1 : atI ds i with
        | none => rw [e1] at h; cases h
        | some w =>
          rw [e1] at h
          cases h
          obtain ⟨p, vs, rfl, hq, rs⟩ := items_sq hh rx e0
          obtain ⟨v, a1, r1⟩ := atI_rel rs e1
          rcases hq with hq | hq
          · exact .inl ⟨p, vs, i, v, rfl, rfl, hq, a1, q _ H (.intro hh r1)⟩
          · exact .inr (.inl ⟨p, vs, i, v, rfl, rfl, hq, a1, q _ H (.intro hh r1)⟩)
  · cases h
def oSub2 : Og := orO oIx oDGet
def oIn2 (neg : Bool) : Og := orO (oIn neg) (orO (oDIn neg) (oInD neg))
end
section
variable {k : Nat} {X : Cx} {W : WX} {a b : Expr} {fa fb : Fe} {pos : Pos}
theorem cSubs (c : Ctx k X W) (ha : CE X W a fa) (hb : CE X W b fb) (hs : PlainIx b) : CE X W (.Subscript a b pos) (dBin oSub2 fa fb) :=
  PE_imp (PE_or (pe_ix ix_seq ha hb hs) (pe_dget c.un1 ha hb hs)) fun σ H Q h => (two_or h).elim (fun q => .inl (two rgIx q)) fun q => .inr (two rgDGet q)
theorem cIn (c : Ctx (k + 1) X W) (ha : CE X W a fa) (hb : CE X W b fb) (hm : behindInMarks .In b = false) : CE X W (.Compare a [.In] [b] pos) (dBin (oIn2 false) fa fb) :=
  PE_imp (PE_or (pe_cmpR op_in_seq ha hb hm) (PE_or (pe_cmp (pc_din c.un1 ha hb) hm) (pe_cmpR (op_inD (by have := c.room.un; omega)) ha hb hm))) fun σ H Q h =>
    (two_or h).elim (fun q => .inl (two (rgIn false) q)) fun q => .inr ((two_or q).elim (fun q => .inl (two (r := rDIn false) (rgDIn false) q)) fun q => .inr (two rgInD q))
theorem cNotIn (c : Ctx (k + 1) X W) (ha : CE X W a fa) (hb : CE X W b fb) (hm : behindInMarks .NotIn b = false) : CE X W (.Compare a [.NotIn] [b] pos) (dBin (oIn2 true) fa fb) :=
  PE_imp (PE_or (pe_cmpR op_notIn_seq ha hb hm) (PE_or (pe_cmp (pc_dnotin c.un1 ha hb) hm) (pe_cmpR (op_notInD (by have := c.room.un; omega)) ha hb hm))) fun σ H Q h =>
    (two_or h).elim (fun q => .inl (two (rgIn true) q)) fun q => .inr ((two_or q).elim (fun q => .inl (two (r := rDIn true) (rgDIn true) q)) fun q => .inr (two rgNotInD q))
theorem cEq (c : Ctx k X W) (ha : CE X W a fa) (hb : CE X W b fb) : CE X W (.Compare a [.Eq] [b] pos) (dBin oEq fa fb) := cCmp (op_eq.or (op_eqD c.un)) rgEq ha hb (nomark _)
theorem cNe (c : Ctx k X W) (ha : CE X W a fa) (hb : CE X W b fb) : CE X W (.Compare a [.NotEq] [b] pos) (dBin oNe fa fb) := cCmp (op_ne.or (op_neD c.un)) rgNe ha hb (nomark _)
theorem cLt (ha : CE X W a fa) (hb : CE X W b fb) : CE X W (.Compare a [.Lt] [b] pos) (dBin oLt fa fb) := cCmp op_lt (rgI0 fun _ _ _ _ => .bl _) ha hb (nomark _)
theorem cLe (ha : CE X W a fa) (hb : CE X W b fb) : CE X W (.Compare a [.LtE] [b] pos) (dBin oLe fa fb) := cCmp op_le (rgI0 fun _ _ _ _ => .bl _) ha hb (nomark _)
theorem cGt (ha : CE X W a fa) (hb : CE X W b fb) : CE X W (.Compare a [.Gt] [b] pos) (dBin oGt fa fb) := cCmp op_gt (rgI0 fun _ _ _ _ => .bl _) ha hb (nomark _)
theorem cGe (ha : CE X W a fa) (hb : CE X W b fb) : CE X W (.Compare a [.GtE] [b] pos) (dBin oGe fa fb) := cCmp op_ge (rgI0 fun _ _ _ _ => .bl _) ha hb (nomark _)
/-- any comparison of one operator, as a test -/
theorem ctOf {op : CmpOp} {r : R2} {g : Og} (ho : OpR X (compareOp op) r) (rg : RG X.K r g) (ha : CE X W a fa) (hb : CE X W b fb) (hm : behindInMarks op b = false) : CT X W (.Compare a [op] [b] pos) (dTest (dBin g fa fb)) := ctCmp ho rg ha hb hm
theorem tEq (c : Ctx k X W) (ha : CE X W a fa) (hb : CE X W b fb) : CT X W (.Compare a [.Eq] [b] pos) (dTest (dBin oEq fa fb)) := ctCmp (op_eq.or (op_eqD c.un)) rgEq ha hb (nomark _)
theorem tNe (c : Ctx k X W) (ha : CE X W a fa) (hb : CE X W b fb) : CT X W (.Compare a [.NotEq] [b] pos) (dTest (dBin oNe fa fb)) := ctCmp (op_ne.or (op_neD c.un)) rgNe ha hb (nomark _)
theorem tLt (ha : CE X W a fa) (hb : CE X W b fb) : CT X W (.Compare a [.Lt] [b] pos) (dTest (dBin oLt fa fb)) := ctCmp op_lt (rgI0 fun _ _ _ _ => .bl _) ha hb (nomark _)
theorem tLe (ha : CE X W a fa) (hb : CE X W b fb) : CT X W (.Compare a [.LtE] [b] pos) (dTest (dBin oLe fa fb)) := ctCmp op_le (rgI0 fun _ _ _ _ => .bl _) ha hb (nomark _)
theorem tGt (ha : CE X W a fa) (hb : CE X W b fb) : CT X W (.Compare a [.Gt] [b] pos) (dTest (dBin oGt fa fb)) := ctCmp op_gt (rgI0 fun _ _ _ _ => .bl _) ha hb (nomark _)
theorem tGe (ha : CE X W a fa) (hb : CE X W b fb) : CT X W (.Compare a [.GtE] [b] pos) (dTest (dBin oGe fa fb)) := ctCmp op_ge (rgI0 fun _ _ _ _ => .bl _) ha hb (nomark _)
theorem tIn (c : Ctx (k + 1) X W) (ha : CE X W a fa) (hb : CE X W b fb) (hm : behindInMarks .In b = false) : CT X W (.Compare a [.In] [b] pos) (dTest (dBin (oIn2 false) fa fb)) :=
  PT_imp (PT_or (pt_cmpR op_in_seq ha hb hm) (PT_or (pt_cmp (pc_din c.un1 ha hb) hm) (pt_cmpR (op_inD (by have := c.room.un; omega)) ha hb hm))) fun σ H Q h =>
    (test_or h).elim (fun q => .inl (test (fun _ _ _ z => two (rgIn false) z) q)) fun q => .inr ((test_or q).elim (fun q => .inl (test (fun _ _ _ z => two (r := rDIn false) (rgDIn false) z) q)) fun q => .inr (test (fun _ _ _ z => two rgInD z) q))
theorem tNotIn (c : Ctx (k + 1) X W) (ha : CE X W a fa) (hb : CE X W b fb) (hm : behindInMarks .NotIn b = false) : CT X W (.Compare a [.NotIn] [b] pos) (dTest (dBin (oIn2 true) fa fb)) :=
  PT_imp (PT_or (pt_cmpR op_notIn_seq ha hb hm) (PT_or (pt_cmp (pc_dnotin c.un1 ha hb) hm) (pt_cmpR (op_notInD (by have := c.room.un; omega)) ha hb hm))) fun σ H Q h =>
    (test_or h).elim (fun q => .inl (test (fun _ _ _ z => two (rgIn true) z) q)) fun q => .inr ((test_or q).elim (fun q => .inl (test (fun _ _ _ z => two (r := rDIn true) (rgDIn true) z) q)) fun q => .inr (test (fun _ _ _ z => two rgNotInD z) q))
end
end Cl
set_option maxHeartbeats 4000000
/-! Cl, part E: truth, slices, built-ins, methods; statements. -/
namespace Cl
open PySem PySem.Spec L2

/-! ### truth -/
def truB : D → CH → Option Bool
  | .non, _ => some false
  | .bl b, _ => some b
  | .int i, _ => some (i != 0)
  | .str x, _ => if x.length ≤ 1000000 then some ((x.length : Int) != 0) else none
  | .tup ds, _ => some (!ds.isEmpty)
  | .fl ds, _ => some (!ds.isEmpty)
  | .ref n, C => match C[n]? with
    | some (.lst ds) => some (!ds.isEmpty)
    | some (.dK ds) => some (!ds.isEmpty)
    | _ => none
  | .v _, _ => none
  | .xc _ _ _ _, _ => none
theorem Rls.isEmpty {K : PySem.W.Frag} {ad : List Addr} {H : Hp} {ds : List D} {vs : List V} (r : Rls K ad H ds vs) : ds.isEmpty = vs.isEmpty := by cases r <;> rfl
theorem truB_rel {K : PySem.W.Frag} {ad : List Addr} {H : Hp} {C : CH} (hh : HRel K ad H C) {d : D} {v : V} {b : Bool} (r : Rl K ad H d v) (h : truB d C = some b) : TruV K v H b := by
  cases r with
  | non => cases h; rfl
  | bl c => cases h; rfl
  | int i => cases h; rfl
  | str x =>
    have h : (if x.length ≤ 1000000 then some ((x.length : Int) != 0) else none) = some b := h
    split at h
    · rename_i hz
      cases h
      exact ⟨mil hz, rfl⟩
    · cases h
  | tup h1 r1 =>
    cases h
    exact .inr (.inl ⟨_, .of h1, by rw [r1.isEmpty]⟩)
  | fl h1 r1 =>
    cases h
    exact .inl ⟨_, h1.sq, by rw [r1.isEmpty]⟩
  | ref ha =>
    rename_i n a
    have h : (match C[n]? with | some (.lst ds) => some (!ds.isEmpty) | some (.dK ds) => some (!ds.isEmpty) | _ => none) = some b := h
    split at h
    · rename_i e
      cases h
      obtain ⟨u, h1, vs, rfl, r1⟩ := hh.obj n _ a e ha
      exact .inl ⟨_, .of h1, by rw [r1.isEmpty]⟩
    · rename_i e
      cases h
      obtain ⟨u, h1, vs, rfl, r1⟩ := hh.obj n _ a e ha
      refine .inr (.inr ⟨_, h1, ?_⟩)
      cases r1 <;> rfl
    · cases h
  | v x => cases h
  | xc _ _ _ => cases h
def dTru (f : Fe) : Ft := fun sc C => (f sc C).bind fun d C1 => match truB d C1 with
  | some b => .ok b C1
  | none => .bad
section
variable {k : Nat} {X : Cx} {W : WX} {a b : Expr} {fa fb : Fe} {pos : Pos}
theorem tTru (ha : CE X W a fa) (he : ∀ whole, isTrue a X.env whole = (do let v ← whole; standAt a.pos; holding [v] (truthy v)) := by intro _; rfl) : CT X W a (dTru fa) := by
  refine PT_imp (pt_truth ha he) fun σ H Q ⟨ad, sc, C, hs, hh, h⟩ => ?_
  refine tE_bind hs hh (.refl _ _) h fun d C1 ad1 H1 v E1 hs1 hh1 r1 h1 => ?_
  split at h1
  · rename_i b e
    exact ⟨b, truB_rel hh1 r1 e, h1 H1 ⟨ad1, E1, hh1, trivial⟩⟩
  · exact h1.elim

/-! ### slices -/
abbrev Fo := Sc → CH → Res (Option Int)
def tO (K : PySem.W.Frag) (W : WX) (f : Fo) : TO := fun σ H Q => ∃ ad sc C, SRel K ad H sc σ ∧ HRel K ad H C ∧ RP K W ad H σ (f sc C) fun o C' => ∀ H', Aft K ad H C' (fun _ _ => True) H' → Q o H'
abbrev CO (X : Cx) (W : WX) (e : Option Expr) (f : Fo) : Prop := PO X e (tO X.K W f)
def dPN : Fo := fun _ C => .ok none C
def dPS (f : Fe) : Fo := fun sc C => (f sc C).bind fun d C1 => match d with
  | .int i => .ok (some i) C1
  | _ => .bad
theorem PO_imp {e : Option Expr} {t t' : TO} (h : PO X e t) (i : ∀ σ H Q, t' σ H Q → t σ H Q) : PO X e t' := ⟨fun pins s σ H Q I z => h.run pins s σ H Q I (i σ H Q z)⟩
theorem coN : CO X W none dPN := PO_imp po_none fun σ H Q ⟨ad, sc, C, hs, hh, h⟩ => h H (.intro hh trivial)
theorem coS (ha : CE X W a fa) : CO X W (some a) (dPS fa) := by
  refine PO_imp (po_some ha) fun σ H Q ⟨ad, sc, C, hs, hh, h⟩ => ?_
  refine tE_bind hs hh (.refl _ _) h fun d C1 ad1 H1 v E1 hs1 hh1 r1 h1 => ?_
  cases r1 with
  | int i => exact ⟨i, rfl, h1 H1 ⟨ad1, E1, hh1, trivial⟩⟩
  | _ => exact h1.elim
theorem tO_bind {K : PySem.W.Frag} {W : WX} {ad0 ad : List Addr} {H0 H : Hp} {sc : Sc} {C : CH} {σ : L2.St} {β : Type} {fa : Fo} {k : Option Int → CH → Res β} {P : β → CH → Prop} {R : Option Int → Hp → Prop} (hs : SRel K ad H sc σ) (hh : HRel K ad H C) (E : Ext ad0 H0 ad H)
    (h : RP K W ad0 H0 σ ((fa sc C).bind k) P)
    (n : ∀ d C1 ad1 H1, Ext ad H ad1 H1 → SRel K ad1 H1 sc σ → HRel K ad1 H1 C1 → RP K W ad0 H0 σ (k d C1) P → R d H1) : tO K W fa σ H R := by
  refine ⟨ad, sc, C, hs, hh, ?_⟩
  refine (h.bind).later E fun d C1 q H1 a => ?_
  obtain ⟨ad1, E1, h1, _⟩ := a
  exact n d C1 ad1 H1 E1 (hs.mono E1) h1 q
def cutD (xs : List D) (lo hi : Option Int) : List D := (xs.drop (HT.sIx xs.length 0 lo)).take (HT.sIx xs.length xs.length hi - HT.sIx xs.length 0 lo)
theorem cut_rel {K : PySem.W.Frag} {ad : List Addr} {H : Hp} {ds : List D} {vs : List V} (r : Rls K ad H ds vs) (lo hi : Option Int) : Rls K ad H (cutD ds lo hi) (cutV vs lo hi) := by
  unfold cutD cutV
  rw [r.length]
  exact (r.drop _).take _
def slO (d : D) (lo hi : Option Int) (C : CH) : Option (D × CH) := match d with
  | .str z => if z.length ≤ 1000000 then some (.str (cutS z lo hi), C) else none
  | .tup ds => some (.tup (cutD ds lo hi), C)
  | _ => (itemsOf C d).map fun ds => (.ref C.length, C ++ [.lst (cutD ds lo hi)])
def dSl (fe : Fe) (fl fu : Fo) : Fe := fun sc C => (fe sc C).bind fun d C1 => (fl sc C1).bind fun lo C2 => (fu sc C2).bind fun hi C3 => .lift (slO d lo hi C3)
theorem cut_whole {vs : List V} {lo hi : Option Int} (h : HT.sIx vs.length 0 lo = 0 ∧ HT.sIx vs.length vs.length hi = vs.length) : cutV vs lo hi = vs := by
  unfold cutV
  rw [h.1, h.2]
  simp
theorem cSl {lo hi : Option Expr} {fl fu : Fo} {p2 : Pos} (ha : CE X W a fa) (hl : CO X W lo fl) (hu : CO X W hi fu) : CE X W (.Subscript a (.Slice lo hi none p2) pos) (dSl fa fl fu) := by
  refine PE_imp (pe_slice (sl_list.or (sl_tupA.or sl_str)) ha hl hu) fun σ H Q ⟨ad, sc, C, hs, hh, h⟩ => ?_
  refine tE_bind hs hh (.refl _ _) h fun d C1 ad1 H1 v E1 hs1 hh1 r1 h1 => ?_
  refine tO_bind hs1 hh1 E1 h1 fun l C2 ad2 H2 E2 hs2 hh2 h2 => ?_
  refine tO_bind hs2 hh2 (E1.trans E2) h2 fun u C3 ad3 H3 E3 hs3 hh3 h3 => ?_
  obtain ⟨z, C4, e, q⟩ := RP.lift h3
  have EE : Ext ad H ad3 H3 := E1.trans (E2.trans E3)
  have r := r1.mono (E2.trans E3)
  unfold slO at e
  split at e
  · split at e
    · rename_i hz
      cases e
      cases r
      exact .inr (.inr ⟨_, rfl, mil hz, q _ _ ⟨ad3, EE, hh3, .str _⟩⟩)
    · cases e
  · cases e
    cases r with
    | tup g1 g2 =>
      rename_i ds x vs
      refine .inr (.inl ⟨x, vs, rfl, .of g1, fun hw => ?_, fun hw p hp => ?_⟩)
      · refine q _ _ ⟨ad3, EE, hh3, .tup g1 ?_⟩
        have := cut_rel g2 l u
        rw [cut_whole hw] at this
        exact this
      · exact q _ _ ⟨ad3, EE.trans (ext_new hp), hh3.new hp, .tup upd_same ((cut_rel g2 l u).mono (ext_new hp))⟩
  · rename_i n1 n2
    cases e0 : itemsOf C3 d with
    | none => rw [e0] at e; cases e
    | some ds =>
      rw [e0] at e
      cases e
      have key : ∀ (p : Addr) (vs : List V), SqL X.K H3 p vs → Rls X.K ad3 H3 ds vs → rSlL X.K (.ref p) l u H3 Q := fun p vs hq rs =>
        ⟨p, vs, rfl, hq, fun p hp => q _ _ ⟨ad3 ++ [p], EE.trans (ext_alloc hp), hh3.alloc hp ⟨_, rfl, (cut_rel rs l u).mono (ext_alloc hp)⟩, .ref (alloc_at hh3)⟩⟩
      cases r with
      | tup g1 g2 => exact absurd rfl (n2 _)
      | fl g1 g2 => cases e0; exact .inl (key _ _ g1.sq g2)
      | ref ha =>
        rename_i n x
        have e0 : (match C3[n]? with | some (.lst ds) => some ds | _ => none) = some ds := e0
        split at e0
        · rename_i e5
          cases e0
          obtain ⟨w, g1, vs, rfl, g2⟩ := hh3.obj n _ x e5 ha
          exact .inl (key _ _ (.of g1) g2)
        · cases e0
      | _ => cases e0

/-! ### built-in functions and classes -/
abbrev Og1 := List D → CH → Option (D × CH)
def CG (K : PySem.W.Frag) (r : List V → Hp → VK → Prop) (g : Og1) : Prop := ∀ ad H C ds vs z C', HRel K ad H C → Rls K ad H ds vs → g ds C = some (z, C') →
  ∀ Q : VK, (∀ v H', Aft K ad H C' (fun ad' H' => Rl K ad' H' z v) H' → Q v H') → r vs H Q
def dCB (g : Og1) (fs : Fa) : Fe := fun sc C => (fs sc C).bind fun ds C1 => .lift (g ds C1)
theorem cb {K : PySem.W.Frag} {r : List V → Hp → VK → Prop} {g : Og1} (cg : CG K r g) {fs : Fa} {σ : L2.St} {H : Hp} {Q : VK} (h : tE K W (dCB g fs) σ H Q) : tCB r (tA K W fs) σ H Q := by
  obtain ⟨ad, sc, C, hs, hh, h⟩ := h
  refine tA_bind hs hh (.refl _ _) h fun ds C1 ad1 H1 vs E1 hs1 hh1 r1 h1 => ?_
  obtain ⟨z, C2, e, q⟩ := RP.lift h1
  exact cg ad1 H1 C1 ds vs z C2 hh1 r1 e Q fun v H' a => q v H' (a.trans E1)
theorem CG.or {K : PySem.W.Frag} {r r' : List V → Hp → VK → Prop} {g g' : Og1} (h : CG K r g) (h' : CG K r' g') : CG K (fun xs H Q => r xs H Q ∨ r' xs H Q) (fun ds C => (g ds C).orElse fun _ => g' ds C) := by
  intro ad H C ds vs z C' hh rs e Q q
  cases e1 : g ds C with
  | some p =>
    dsimp only at e
    rw [e1] at e
    simp only [Option.orElse_some] at e
    rw [e] at e1
    exact .inl (h ad H C ds vs z C' hh rs e1 Q q)
  | none =>
    dsimp only at e
    rw [e1] at e
    simp only [Option.orElse_none] at e
    exact .inr (h' ad H C ds vs z C' hh rs e Q q)
variable {x : Str} {p : Pos} {e : Expr} {es : List Expr} {fs : Fa} {id T : String}
theorem cCB {r : List V → Hp → VK → Prop} {g : Og1} (hc : CallR X (.builtin id) r) (cg : CG X.K r g) (hg : Gl X x) (hm : X.mg x = none) (hv : bootBuiltins x = some (.builtin id)) (ha : CA X W (e :: es) fs) (hn : x ≠ "__name__" := by decide) (hdb : (x == ("__debug__" : Str)) = false := by decide)
    (he : starEach (e :: es) X.env = (false, eval e X.env) :: starEach es X.env := by rfl) (hpl : (backTo pos (starEach es X.env)).any (·.1) = false := by rfl) : CE X W (.Call (.Name x p) (e :: es) [] pos) (dCB g fs) :=
  PE_imp (pe_callB hc hg hm hv ha hn hdb he hpl) fun _ _ _ h => cb cg h
theorem cCT {r : List V → Hp → VK → Prop} {g : Og1} (hc : CallR X (.type T) r) (cg : CG X.K r g) (hg : Gl X x) (hm : X.mg x = none) (hv : bootBuiltins x = some (.type T)) (ha : CA X W (e :: es) fs) (hn : x ≠ "__name__" := by decide) (hdb : (x == ("__debug__" : Str)) = false := by decide)
    (he : starEach (e :: es) X.env = (false, eval e X.env) :: starEach es X.env := by rfl) (hpl : (backTo pos (starEach es X.env)).any (·.1) = false := by rfl) : CE X W (.Call (.Name x p) (e :: es) [] pos) (dCB g fs) :=
  PE_imp (pe_callTy hc hg hm hv ha hn hdb he hpl) fun _ _ _ h => cb cg h
/-- len -/
def gLen : Og1 := fun ds C => match ds with
  | [.str z] => if z.length ≤ 1000000 then some (.int z.length, C) else none
  | [d] => (itemsOf C d).map fun ds => (.int ds.length, C)
  | _ => none
theorem cgLen {K : PySem.W.Frag} : CG K (fun xs H Q => ∃ x n, xs = [x] ∧ LenV K x H n ∧ Q (.int n) H) gLen := by
  intro ad H C ds vs z C' hh rs e Q q
  unfold gLen at e
  split at e
  · split at e
    · rename_i hz
      cases e
      cases rs with
      | cons r1 r2 =>
        cases r2
        cases r1
        exact ⟨_, _, rfl, ⟨mil hz, rfl⟩, q _ _ (.intro hh (.int _))⟩
    · cases e
  · rename_i d _
    cases e0 : itemsOf C d with
    | none => rw [e0] at e; cases e
    | some es =>
      rw [e0] at e
      cases e
      cases rs with
      | cons r1 r2 =>
        cases r2
        obtain ⟨p, ws, rfl, hq, rr⟩ := items_sq hh r1 e0
        refine ⟨_, ws.length, rfl, ?_, by rw [← rr.length]; exact q _ _ (.intro hh (.int _))⟩
        rcases hq with hq | hq
        · exact .inl ⟨ws, hq, rfl⟩
        · exact .inr ⟨ws, hq, rfl⟩
  · cases e
/-- len of a dict -/
def gLenD : Og1 := fun ds C => match ds with
  | [.ref n] => match C[n]? with
    | some (.dK kvs) => some (.int kvs.length, C)
    | _ => none
  | _ => none
theorem cgLenD {K : PySem.W.Frag} : CG K (fun xs H Q => ∃ a kvs, xs = [V.ref a] ∧ H a = some (.dK kvs) ∧ Q (.int kvs.length) H) gLenD := by
  intro ad H C ds vs z C' hh rs e Q q
  unfold gLenD at e
  split at e
  · split at e
    · rename_i e1
      cases e
      cases rs with
      | cons r1 r2 =>
        cases r2
        cases r1 with
        | ref ha =>
          obtain ⟨u, h1, ws, rfl, rr⟩ := hh.obj _ _ _ e1 ha
          exact ⟨_, ws, rfl, h1, by rw [← rr.length]; exact q _ _ (.intro hh (.int _))⟩
    · cases e
  · cases e
def gLen2 : Og1 := fun ds C => (gLen ds C).orElse fun _ => gLenD ds C
theorem cLen (hg : Gl X "len") (hm : X.mg "len" = none) (ha : CA X W [e] fs) (he : starEach [e] X.env = (false, eval e X.env) :: starEach [] X.env := by rfl) : CE X W (.Call (.Name "len" p) [e] [] pos) (dCB gLen2 fs) :=
  cCB (call_len.or call_lenD) (cgLen.or cgLenD) hg hm PySem.boot_len ha (by decide) (by decide) he
/-- min, max of two ints -/
def g2I (f : Int → Int → Int) : Og1 := fun ds C => match ds with
  | [.int i, .int j] => some (.int (f i j), C)
  | _ => none
theorem cg2I {K : PySem.W.Frag} {f : Int → Int → Int} : CG K (fun xs H Q => ∃ i j, xs = [.int i, .int j] ∧ Q (.int (f i j)) H) (g2I f) := by
  intro ad H C ds vs z C' hh rs e Q q
  unfold g2I at e
  split at e
  · cases e
    cases rs with
    | cons r1 r2 =>
      cases r2 with
      | cons r2 r3 =>
        cases r3
        cases r1
        cases r2
        exact ⟨_, _, rfl, q _ _ (.intro hh (.int _))⟩
  · cases e
def minI (i j : Int) : Int := if j < i then j else i
def maxI (i j : Int) : Int := if j > i then j else i
theorem cMin2 {e2 : Expr} (c : Ctx k X W) (hg : Gl X "min") (hm : X.mg "min" = none) (ha : CA X W [e, e2] fs) (he : starEach [e, e2] X.env = (false, eval e X.env) :: starEach [e2] X.env := by rfl) (hpl : (backTo pos (starEach [e2] X.env)).any (·.1) = false := by rfl) : CE X W (.Call (.Name "min" p) [e, e2] [] pos) (dCB (g2I minI) fs) :=
  cCB (call_min2 c.calm) cg2I hg hm (by decide +kernel) ha (by decide) (by decide) he hpl
theorem cMax2 {e2 : Expr} (c : Ctx k X W) (hg : Gl X "max") (hm : X.mg "max" = none) (ha : CA X W [e, e2] fs) (he : starEach [e, e2] X.env = (false, eval e X.env) :: starEach [e2] X.env := by rfl) (hpl : (backTo pos (starEach [e2] X.env)).any (·.1) = false := by rfl) : CE X W (.Call (.Name "max" p) [e, e2] [] pos) (dCB (g2I maxI) fs) :=
  cCB (call_max2 c.calm) cg2I hg hm (by decide +kernel) ha (by decide) (by decide) he hpl
/-- int of an int, of a bool -/
def gInt : Og1 := fun ds C => match ds with
  | [.int i] => some (.int i, C)
  | [.bl b] => some (.int (if b then 1 else 0), C)
  | _ => none
theorem cgInt {K : PySem.W.Frag} : CG K (fun xs H Q => (∃ i, xs = [.int i] ∧ Q (.int i) H) ∨ ∃ k, xs = [.bl k] ∧ Q (.int (if k then 1 else 0)) H) gInt := by
  intro ad H C ds vs z C' hh rs e Q q
  unfold gInt at e
  split at e
  · cases e
    cases rs with
    | cons r1 r2 => cases r2; cases r1; exact .inl ⟨_, rfl, q _ _ (.intro hh (.int _))⟩
  · cases e
    cases rs with
    | cons r1 r2 => cases r2; cases r1; exact .inr ⟨_, rfl, q _ _ (.intro hh (.int _))⟩
  · cases e
theorem cIntOf (hg : Gl X "int") (hm : X.mg "int" = none) (ha : CA X W [e] fs) (he : starEach [e] X.env = (false, eval e X.env) :: starEach [] X.env := by rfl) : CE X W (.Call (.Name "int" p) [e] [] pos) (dCB gInt fs) :=
  cCT call_int1 cgInt hg hm (by decide +kernel) ha (by decide) (by decide) he
/-- tuple(xs), list(xs) -/
def gTup : Og1 := fun ds C => match ds with
  | [d] => (itemsOf C d).map fun ds => (.tup ds, C)
  | _ => none
theorem cgTup {K : PySem.W.Frag} : CG K (fun xs H Q => ∃ p ys, xs = [.ref p] ∧ ((SqL K H p ys ∧ ∀ l, H l = none → Q (.ref l) (upd H l (.tup ys))) ∨ (SqT K H p ys ∧ Q (.ref p) H))) gTup := by
  intro ad H C ds vs z C' hh rs e Q q
  unfold gTup at e
  split at e
  · rename_i d
    cases e0 : itemsOf C d with
    | none => rw [e0] at e; cases e
    | some es =>
      rw [e0] at e
      cases e
      cases rs with
      | cons r1 r2 =>
        cases r2
        have key : ∀ (p : Addr) (ws : List V), SqL K H p ws → Rls K ad H es ws → (SqL K H p ws ∧ ∀ l, H l = none → Q (.ref l) (upd H l (.tup ws))) := fun p ws hq rr =>
          ⟨hq, fun l hl => q _ _ ⟨ad, ext_new hl, hh.new hl, .tup upd_same (rr.mono (ext_new hl))⟩⟩
        cases r1 with
        | tup g1 g2 => cases e0; exact ⟨_, _, rfl, .inr ⟨.of g1, q _ _ (.intro hh (.tup g1 g2))⟩⟩
        | fl g1 g2 => cases e0; exact ⟨_, _, rfl, .inl (key _ _ g1.sq g2)⟩
        | ref ha =>
          rename_i n x
          have e0 : (match C[n]? with | some (.lst ds) => some ds | _ => none) = some es := e0
          split at e0
          · rename_i e5
            cases e0
            obtain ⟨w, g1, ws, rfl, g2⟩ := hh.obj n _ x e5 ha
            exact ⟨_, _, rfl, .inl (key _ _ (.of g1) g2)⟩
          · cases e0
        | _ => cases e0
  · cases e
theorem cTupOf (hg : Gl X "tuple") (hm : X.mg "tuple" = none) (ha : CA X W [e] fs) (he : starEach [e] X.env = (false, eval e X.env) :: starEach [] X.env := by rfl) : CE X W (.Call (.Name "tuple" p) [e] [] pos) (dCB gTup fs) :=
  cCT call_tuple_of cgTup hg hm (by decide +kernel) ha (by decide) (by decide) he
def gList : Og1 := fun ds C => match ds with
  | [d] => (itemsOf C d).map fun ds => (.ref C.length, C ++ [.lst ds])
  | _ => none
theorem cgList {K : PySem.W.Frag} : CG K (fun xs H Q => ∃ p ys, xs = [.ref p] ∧ (SqL K H p ys ∨ SqT K H p ys) ∧ ∀ l, H l = none → Q (.ref l) (upd H l (.lst ys))) gList := by
  intro ad H C ds vs z C' hh rs e Q q
  unfold gList at e
  split at e
  · rename_i d
    cases e0 : itemsOf C d with
    | none => rw [e0] at e; cases e
    | some es =>
      rw [e0] at e
      cases e
      cases rs with
      | cons r1 r2 =>
        cases r2
        obtain ⟨p, ws, rfl, hq, rr⟩ := items_sq hh r1 e0
        exact ⟨p, ws, rfl, hq, fun l hl => q _ _ ⟨ad ++ [l], ext_alloc hl, hh.alloc hl ⟨_, rfl, rr.mono (ext_alloc hl)⟩, .ref (alloc_at hh)⟩⟩
  · cases e
theorem cListOf (hg : Gl X "list") (hm : X.mg "list" = none) (ha : CA X W [e] fs) (he : starEach [e] X.env = (false, eval e X.env) :: starEach [] X.env := by rfl) : CE X W (.Call (.Name "list" p) [e] [] pos) (dCB gList fs) :=
  cCT call_list_of cgList hg hm (by decide +kernel) ha (by decide) (by decide) he

/-! ### methods of lists -/
abbrev Ogm := D → List D → CH → Option (D × CH)
def isLst (C : CH) : D → Bool
  | .ref n => match C[n]? with
    | some (.lst _) => true
    | _ => false
  | _ => false
theorem isLst_ty {K : PySem.W.Frag} {ad : List Addr} {H : Hp} {C : CH} (hh : HRel K ad H C) {d : D} {v : V} (r : Rl K ad H d v) (h : isLst C d = true) : tyV K "list" v H := by
  cases r with
  | ref ha =>
    rename_i n a
    have h : (match C[n]? with | some (.lst _) => true | _ => false) = true := h
    split at h
    · rename_i e
      obtain ⟨u, h1, vs, rfl, r1⟩ := hh.obj n _ a e ha
      exact Or.inl ⟨rfl, vs, .of h1⟩
    · cases h
  | _ => cases h
def MG (K : PySem.W.Frag) (r : V → List V → Hp → VK → Prop) (g : Ogm) : Prop := ∀ ad H C d ds v vs z C', HRel K ad H C → Rl K ad H d v → Rls K ad H ds vs → g d ds C = some (z, C') →
  ∀ Q : VK, (∀ v H', Aft K ad H C' (fun ad' H' => Rl K ad' H' z v) H' → Q v H') → r v vs H Q
def dBM (chk : CH → D → Bool) (g : Ogm) (fo : Fe) (fs : Fa) : Fe := fun sc C => (fo sc C).bind fun d C1 => if chk C1 d = true then (fs sc C1).bind fun ds C2 => .lift (g d ds C2) else .bad
theorem bm {K : PySem.W.Frag} {r : V → List V → Hp → VK → Prop} {chk : CH → D → Bool} {g : Ogm} {T : String} (ty : ∀ {ad H C d v}, HRel K ad H C → Rl K ad H d v → chk C d = true → tyV K T v H) (mg : MG K r g) {fo : Fe} {fs : Fa} {σ : L2.St} {H : Hp} {Q : VK}
    (h : tE K W (dBM chk g fo fs) σ H Q) : tBM K T r (tE K W fo) (tA K W fs) σ H Q := by
  obtain ⟨ad, sc, C, hs, hh, h⟩ := h
  refine tE_bind hs hh (.refl _ _) h fun d C1 ad1 H1 v E1 hs1 hh1 r1 h1 => ?_
  by_cases hc : chk C1 d = true
  · rw [if_pos hc] at h1
    refine ⟨ty hh1 r1 hc, tA_bind hs1 hh1 E1 h1 fun ds C2 ad2 H2 vs E2 hs2 hh2 r2 h2 => ?_⟩
    obtain ⟨z, C3, e, q⟩ := RP.lift h2
    exact mg ad2 H2 C2 d ds v vs z C3 hh2 (r1.mono E2) r2 e Q fun v H' a => q v H' (a.trans (E1.trans E2))
  · rw [if_neg hc] at h1
    exact h1.elim
def gApp : Ogm := fun d ds C => match d, ds with
  | .ref n, [x] => match C[n]? with
    | some (.lst xs) => if xs.length ≤ 1000000 then some (.non, C.set n (.lst (xs ++ [x]))) else none
    | _ => none
  | _, _ => none
theorem mil2 {n : Nat} (h : n ≤ 1000000) : n < sizeLine := Nat.lt_of_le_of_lt h (by decide)
theorem mgApp {K : PySem.W.Frag} : MG K rAppend gApp := by
  intro ad H C d ds v vs z C' hh r rs e Q q
  unfold gApp at e
  split at e
  · rename_i n x
    split at e
    · rename_i xs e1
      split at e
      · rename_i hz
        cases e
        cases r with
        | ref ha =>
          rename_i a
          cases rs with
          | cons r1 r2 =>
            rename_i y _
            cases r2
            obtain ⟨u, h1, ws, rfl, rr⟩ := hh.obj n _ a e1 ha
            have E := ext_set hh e1 ha (u := .lst (ws ++ [y]))
            exact ⟨a, ws, _, rfl, rfl, h1, by rw [← rr.length]; exact mil2 hz, q _ _ ⟨ad, E, hh.set e1 ha ⟨_, rfl, (rr.mono E).append (.one (r1.mono E))⟩, .non⟩⟩
      · cases e
    · cases e
  · cases e
variable {o : Expr} {fo : Fe} {apos : Pos}
theorem cApp (ho : CE X W o fo) (ha : CA X W [e] fs) (hbase : attributeBase o "append" X.env (eval o X.env) = eval o X.env := by rfl)
    (hfew : ((backTo pos (starEach [e] X.env)).all (fun x => !x.1) && (backToKw pos (keywordEach [] X.env)).all (fun x => x.1.isSome)
      && decide ([e].length + ([] : List Keyword).length + (if ([] : List Keyword).isEmpty then 0 else 1) < 30)) = true := by rfl)
    (hline : (apos.endLine == pos.line) = true := by rfl) (hs : starEach [e] X.env = (false, eval e X.env) :: starEach [] X.env := by rfl) :
    CE X W (.Call (.Attribute o "append" apos) [e] [] pos) (dBM isLst gApp fo fs) :=
  PE_imp (pe_bm PySem.F.plainAttrs_list PySem.F.slot_list_append PySem.F.type_list_append mt_append ho ha hbase hfew hline hs) fun _ _ _ h => bm (fun h r c => isLst_ty h r c) mgApp h
end
end Cl
set_option maxHeartbeats 4000000
/-! Cl, part F: statements, loops. -/
namespace Cl
open PySem PySem.Spec L2

def Res.st {α : Type} (sc : Sc) : Res α → (α → CH → SOut) → SOut
  | .ok a C, k => k a C
  | .ex x C, _ => .ex x sc C
  | .bad, _ => .bad
@[simp] theorem Res.st_ok {α : Type} (sc : Sc) (a : α) (C : CH) (k : α → CH → SOut) : (Res.ok a C).st sc k = k a C := rfl
@[simp] theorem Res.st_ex {α : Type} (sc : Sc) (x : XD) (C : CH) (k : α → CH → SOut) : (Res.ex x C : Res α).st sc k = .ex x sc C := rfl
@[simp] theorem Res.st_bad {α : Type} (sc : Sc) (k : α → CH → SOut) : (Res.bad : Res α).st sc k = .bad := rfl

section
variable {K : PySem.W.Frag} {W : WX} {ad ad0 ad1 : List Addr} {H H0 H1 : Hp} {C : CH} {sc : Sc} {σ : L2.St} {D : Ends}
theorem SPo.later {o : SOut} (E : Ext ad H ad1 H1) (h : SPo K W ad H D o) : SPo K W ad1 H1 D o := by
  cases o with
  | nx sc' C' => exact fun σ' H' a => h σ' H' (a.trans E)
  | rt d C' => exact fun v H' a => h v H' (a.trans E)
  | bk sc' C' => exact fun σ' H' a => h σ' H' (a.trans E)
  | ct sc' C' => exact fun σ' H' a => h σ' H' (a.trans E)
  | ex x sc' C' => exact fun c d σ' H' e a => h c d σ' H' e (a.trans E)
  | bad => exact h
/-- of a result within a statement -/
theorem SPo.res {α : Type} {r : Res α} {k : α → CH → SOut} (hs : SRel K ad H sc σ) (E : Ext ad0 H0 ad H) (h : SPo K W ad0 H0 D (r.st sc k)) : RP K W ad H σ r fun a C' => SPo K W ad0 H0 D (k a C') := by
  cases r with
  | ok a C' => exact h
  | ex x C' =>
    intro c d H' ⟨e, a⟩
    obtain ⟨ad', E', h', f⟩ := a
    exact h c d σ H' e ⟨ad', E.trans E', h', f, hs.mono E'⟩
  | bad => exact h
theorem sE_bind {fa : Fe} {k : Cl.D → CH → SOut} {R : VK} (hs : SRel K ad H sc σ) (hh : HRel K ad H C) (E : Ext ad0 H0 ad H) (h : SPo K W ad0 H0 D ((fa sc C).st sc k))
    (n : ∀ d C1 ad1 H1 v, Ext ad H ad1 H1 → SRel K ad1 H1 sc σ → HRel K ad1 H1 C1 → Rl K ad1 H1 d v → SPo K W ad0 H0 D (k d C1) → R v H1) : tE K W fa σ H R := by
  refine ⟨ad, sc, C, hs, hh, (SPo.res hs E h).imp fun d C1 q v H1 a => ?_⟩
  obtain ⟨ad1, E1, h1, r⟩ := a
  exact n d C1 ad1 H1 v E1 (hs.mono E1) h1 r q
theorem sT_bind {fa : Ft} {k : Bool → CH → SOut} {R : Bool → Hp → Prop} (hs : SRel K ad H sc σ) (hh : HRel K ad H C) (E : Ext ad0 H0 ad H) (h : SPo K W ad0 H0 D ((fa sc C).st sc k))
    (n : ∀ b C1 ad1 H1, Ext ad H ad1 H1 → SRel K ad1 H1 sc σ → HRel K ad1 H1 C1 → SPo K W ad0 H0 D (k b C1) → R b H1) : tT K W fa σ H R := by
  refine ⟨ad, sc, C, hs, hh, (SPo.res hs E h).imp fun d C1 q H1 a => ?_⟩
  obtain ⟨ad1, E1, h1, _⟩ := a
  exact n d C1 ad1 H1 E1 (hs.mono E1) h1 q
theorem sA_bind {fa : Fa} {k : List Cl.D → CH → SOut} {R : List V → Hp → Prop} (hs : SRel K ad H sc σ) (hh : HRel K ad H C) (E : Ext ad0 H0 ad H) (h : SPo K W ad0 H0 D ((fa sc C).st sc k))
    (n : ∀ d C1 ad1 H1 v, Ext ad H ad1 H1 → SRel K ad1 H1 sc σ → HRel K ad1 H1 C1 → Rls K ad1 H1 d v → SPo K W ad0 H0 D (k d C1) → R v H1) : tA K W fa σ H R := by
  refine ⟨ad, sc, C, hs, hh, (SPo.res hs E h).imp fun d C1 q v H1 a => ?_⟩
  obtain ⟨ad1, E1, h1, r⟩ := a
  exact n d C1 ad1 H1 v E1 (hs.mono E1) h1 r q
end

/-! ### small statements -/
def SOut.seq : SOut → Fs → SOut
  | .nx sc C, g => g sc C
  | .rt d C, _ => .rt d C
  | .bk sc C, _ => .bk sc C
  | .ct sc C, _ => .ct sc C
  | .ex x sc C, _ => .ex x sc C
  | .bad, _ => .bad
@[simp] theorem SOut.seq_nx (sc : Sc) (C : CH) (g : Fs) : (SOut.nx sc C).seq g = g sc C := rfl
@[simp] theorem SOut.seq_rt (d : D) (C : CH) (g : Fs) : (SOut.rt d C).seq g = .rt d C := rfl
@[simp] theorem SOut.seq_bk (sc : Sc) (C : CH) (g : Fs) : (SOut.bk sc C).seq g = .bk sc C := rfl
@[simp] theorem SOut.seq_ct (sc : Sc) (C : CH) (g : Fs) : (SOut.ct sc C).seq g = .ct sc C := rfl
@[simp] theorem SOut.seq_ex (x : XD) (sc : Sc) (C : CH) (g : Fs) : (SOut.ex x sc C).seq g = .ex x sc C := rfl
@[simp] theorem SOut.seq_bad (g : Fs) : SOut.bad.seq g = .bad := rfl
def sNx : Fs := fun sc C => .nx sc C
def sSeq (g1 g2 : Fs) : Fs := fun sc C => (g1 sc C).seq g2
def sIf (t : Ft) (g1 g2 : Fs) : Fs := fun sc C => (t sc C).st sc fun b C1 => if b then g1 sc C1 else g2 sc C1
def sRet (f : Fe) : Fs := fun sc C => (f sc C).st sc fun d C1 => .rt d C1
def sRetN : Fs := fun _ C => .rt .non C
def sDrop (f : Fe) : Fs := fun sc C => (f sc C).st sc fun _ C1 => .nx sc C1
def sBrk : Fs := fun sc C => .bk sc C
def sCt : Fs := fun sc C => .ct sc C
section
variable {k : Nat} {X : Cx} {W : WX} {st : Stmt} {rest : List Stmt} {g g1 g2 : Fs} {f : Ft} {a e : Expr} {fa : Fe} {pos : Pos}
theorem csN : CSs X W [] sNx := PSs_imp pss_nil fun D σ H ⟨ad, sc, C, hs, hh, h⟩ => h σ H (.intro hh hs)
theorem csC (h1 : CS X W st g1) (h2 : CSs X W rest g2) : CSs X W (st :: rest) (sSeq g1 g2) := by
  refine PSs_imp (pss_cons h1 h2) fun D σ H ⟨ad, sc, C, hs, hh, h⟩ => ⟨ad, sc, C, hs, hh, ?_⟩
  have h : SPo X.K W ad H D ((g1 sc C).seq g2) := h
  cases e : g1 sc C with
  | nx sc' C' =>
    rw [e] at h
    intro σ' H' ⟨ad', E, h', s'⟩
    exact ⟨ad', sc', C', s', h', h.later E⟩
  | rt d C' => rw [e] at h; exact h
  | bk sc' C' => rw [e] at h; exact h
  | ct sc' C' => rw [e] at h; exact h
  | ex x sc' C' => rw [e] at h; exact h
  | bad => rw [e] at h; exact h
theorem csO (h1 : CS X W st g1) : CSs X W [st] g1 := pss_one h1
theorem csPass : CS X W (.Pass pos) sNx := PS_imp ps_pass fun D σ H ⟨ad, sc, C, hs, hh, h⟩ => h σ H (.intro hh hs)
theorem csBrk : CS X W (.Break pos) sBrk := PS_imp ps_break fun D σ H ⟨ad, sc, C, hs, hh, h⟩ => h σ H (.intro hh hs)
theorem csCt : CS X W (.Continue pos) sCt := PS_imp ps_continue fun D σ H ⟨ad, sc, C, hs, hh, h⟩ => h σ H (.intro hh hs)
theorem csRet (ha : CE X W a fa) : CS X W (.Return (some a) pos) (sRet fa) := by
  refine PS_imp (ps_ret ha) fun D σ H ⟨ad, sc, C, hs, hh, h⟩ => ?_
  exact sE_bind hs hh (.refl _ _) h fun d C1 ad1 H1 v E1 hs1 hh1 r1 h1 => h1 v H1 ⟨ad1, E1, hh1, r1⟩
theorem csRetN : CS X W (.Return none pos) sRetN := PS_imp ps_retN fun D σ H ⟨ad, sc, C, hs, hh, h⟩ => h _ H (.intro hh .non)
theorem csE (ha : CE X W a fa) (hsw : swapsWith a none pos.line X.env = pure false := by rfl) : CS X W (.Expr a pos) (sDrop fa) := by
  refine PS_imp (ps_expr ha hsw) fun D σ H ⟨ad, sc, C, hs, hh, h⟩ => ?_
  exact sE_bind hs hh (.refl _ _) h fun d C1 ad1 H1 v E1 hs1 hh1 r1 h1 => h1 σ H1 ⟨ad1, E1, hh1, hs1⟩
theorem csIf {c : Expr} {ss ts : List Stmt} (hc : CT X W c f) (h1 : CSs X W ss g1) (h2 : CSs X W ts g2) : CS X W (.If c ss ts pos) (sIf f g1 g2) := by
  refine PS_imp (ps_if hc h1 h2) fun D σ H ⟨ad, sc, C, hs, hh, h⟩ => ?_
  refine sT_bind hs hh (.refl _ _) h fun b C1 ad1 H1 E1 hs1 hh1 q => ?_
  cases b with
  | true => exact ⟨ad1, sc, C1, hs1, hh1, SPo.later E1 q⟩
  | false => exact ⟨ad1, sc, C1, hs1, hh1, SPo.later E1 q⟩

/-! ### targets, assignments -/
abbrev Fg := D → Sc → Option Sc
def tG (K : PySem.W.Frag) (is : List Nat) (g : Fg) : TG := fun v σ H Q => ∃ ad sc C d sc', SRel K ad H sc σ ∧ HRel K ad H C ∧ Rl K ad H d v ∧ g d sc = some sc' ∧ ∀ σ' : L2.St, SRel K ad H sc' σ' → (σ'.length = σ.length ∧ ∀ j, j ∉ is → σ'[j]? = σ[j]?) → Q σ' H
abbrev CGt (X : Cx) (tg : Expr) (is : List Nat) (g : Fg) : Prop := PG X tg (tG X.K is g)
abbrev Fgs := List D → Sc → Option Sc
def tGs (K : PySem.W.Frag) (is : List Nat) (g : Fgs) : TGs := fun vs σ H Q => ∃ ad sc C ds sc', SRel K ad H sc σ ∧ HRel K ad H C ∧ Rls K ad H ds vs ∧ g ds sc = some sc' ∧ ∀ σ' : L2.St, SRel K ad H sc' σ' → (σ'.length = σ.length ∧ ∀ j, j ∉ is → σ'[j]? = σ[j]?) → Q σ' H
abbrev CGts (X : Cx) (tgs : List Expr) (is : List Nat) (g : Fgs) : Prop := PGs X tgs (tGs X.K is g)
theorem PG_imp {e : Expr} {t t' : TG} (h : PG X e t) (i : ∀ v σ H Q, t' v σ H Q → t v σ H Q) : PG X e t' := ⟨fun pins s σ H v u Q I r z => h.run pins s σ H v u Q I r (i v σ H Q z)⟩
theorem PGs_imp {e : List Expr} {t t' : TGs} (h : PGs X e t) (i : ∀ v σ H Q, t' v σ H Q → t v σ H Q) : PGs X e t' := ⟨fun pins s σ H v u Q I r z => h.run pins s σ H v u Q I r (i v σ H Q z)⟩
def gN (i : Nat) : Fg := fun d sc => some (sc.set i (some d))
theorem cgN {x : Str} (i : Nat) (hN : X.N.Nodup) (hi : X.N[i]? = some x := by rfl) (hx : Loc X.env.scope x := by first | exact Or.inl rfl | exact Or.inr rfl) (hf : X.fn x = true ∨ X.env.scope.names.lookup x = some .local := by first | exact .inl rfl | exact .inr rfl | assumption) : CGt X (.Name x pos) [i] (gN i) := by
  refine PG_imp (pg_name hN hi hx hf) fun v σ H Q ⟨ad, sc, C, d, sc', hs, hh, r, e, q⟩ => ?_
  cases e
  exact q _ (hs.set i r) ⟨by simp, fun j hj => List.getElem?_set_ne (fun z => hj (by simp [z]))⟩
def gsN : Fgs := fun ds sc => match ds with
  | [] => some sc
  | _ => none
def gsC (g : Fg) (gs : Fgs) : Fgs := fun ds sc => match ds with
  | d :: r => (g d sc).bind fun sc1 => gs r sc1
  | [] => none
theorem cgsN : CGts X [] [] gsN := by
  refine PGs_imp pgs_nil fun vs σ H Q ⟨ad, sc, C, ds, sc', hs, hh, r, e, q⟩ => ?_
  cases r with
  | nil => cases e; exact ⟨rfl, q _ hs ⟨rfl, fun _ _ => rfl⟩⟩
  | cons r1 r2 => cases e
theorem cgsC {es : List Expr} {is js : List Nat} {gt : Fg} {gs : Fgs} (h1 : CGt X e is gt) (h2 : CGts X es js gs) (hst : (assignEach (e :: es) X.env).map (·.2) = assign e X.env :: (assignEach es X.env).map (·.2) := by rfl) : CGts X (e :: es) (is ++ js) (gsC gt gs) := by
  refine PGs_imp (pgs_cons h1 h2 hst) fun vs σ H Q ⟨ad, sc, C, ds, sc', hs, hh, r, e, q⟩ => ?_
  cases r with
  | nil => cases e
  | cons r1 r2 =>
    rename_i d v ds vs _
    have e : (gt d sc).bind (fun sc1 => gs ds sc1) = some sc' := e
    cases e1 : gt d sc with
    | none => rw [e1] at e; cases e
    | some sc1 =>
      rw [e1] at e
      exact ⟨v, vs, rfl, ad, sc, C, d, sc1, hs, hh, r1, e1, fun σ1 s1 k1 => ⟨ad, sc1, C, ds, sc', s1, hh, r2, e, fun σ2 s2 k2 => q σ2 s2 ⟨k2.1.trans k1.1, fun j hj => (k2.2 j fun z => hj (List.mem_append_right _ z)).trans (k1.2 j fun z => hj (List.mem_append_left _ z))⟩⟩⟩
def gT (n : Nat) (gs : Fgs) : Fg := fun d sc => match d with
  | .tup ds => if ds.length = n then gs ds sc else none
  | _ => none
theorem cgT {es : List Expr} {is : List Nat} {gs : Fgs} {k1 n : Nat} (c : Ctx k X W) (h : CGts X es is gs) (hn : (assignEach es X.env).length = n := by rfl) (hst : (assignEach es X.env).findIdx? (·.1) = none := by rfl) : CGt X (.Tuple es k1 pos) is (gT n gs) := by
  refine PG_imp (pg_tup c.calm h hn hst) fun v σ H Q ⟨ad, sc, C, d, sc', hs, hh, r, e, q⟩ => ?_
  unfold gT at e
  split at e
  · split at e
    · rename_i hl
      cases r with
      | tup g1 g2 => exact ⟨_, _, rfl, .of g1, by rw [← g2.length]; exact hl, ad, sc, C, _, sc', hs, hh, g2, e, q⟩
    · cases e
  · cases e
def optS {α : Type} : Option α → (α → SOut) → SOut
  | some a, k => k a
  | none, _ => .bad
@[simp] theorem optS_some {α : Type} (a : α) (k : α → SOut) : optS (some a) k = k a := rfl
@[simp] theorem optS_none {α : Type} (k : α → SOut) : optS (none : Option α) k = .bad := rfl
def sAsg (g : Fg) (f : Fe) : Fs := fun sc C => (f sc C).st sc fun d C1 => optS (g d sc) fun sc1 => .nx sc1 C1
theorem asg_in {K : PySem.W.Frag} {W : WX} {is : List Nat} {gt : Fg} {fa : Fe} {D : Ends} {σ : L2.St} {H : Hp} (h : tS K W (sAsg gt fa) D σ H) : tAsg (tE K W fa) (tG K is gt) D σ H := by
  obtain ⟨ad, sc, C, hs, hh, h⟩ := h
  refine sE_bind hs hh (.refl _ _) h fun d C1 ad1 H1 v E1 hs1 hh1 r1 h1 => ?_
  cases e : gt d sc with
  | none => rw [e] at h1; exact h1.elim
  | some sc1 =>
    rw [e] at h1
    exact ⟨ad1, sc, C1, d, sc1, hs1, hh1, r1, e, fun σ' s' _ => h1 σ' H1 ⟨ad1, E1, hh1, s'⟩⟩
theorem csSet {x : Str} {pos' : Pos} (i : Nat) (c : Ctx k X W) (ha : CE X W a fa) (hi : X.N[i]? = some x := by rfl) (hx : Loc X.env.scope x := by first | exact Or.inl rfl | exact Or.inr rfl) (hsw : swapsWith a (some (.Name x pos')) pos.line X.env = pure false := by rfl)
    (hf : X.fn x = true ∨ X.env.scope.names.lookup x = some .local := by first | exact .inl rfl | exact .inr rfl | assumption) : CS X W (.Assign [.Name x pos'] a pos) (sAsg (gN i) fa) := by
  refine PS_imp (ps_set c.nd hi hx ha hsw hf) fun D σ H ⟨ad, sc, C, hs, hh, h⟩ => ?_
  exact sE_bind hs hh (.refl _ _) h fun d C1 ad1 H1 v E1 hs1 hh1 r1 h1 => h1 _ H1 ⟨ad1, E1, hh1, hs1.set i r1⟩
theorem csAsg {tg : Expr} {is : List Nat} {gt : Fg} (ha : CE X W a fa) (hg : CGt X tg is gt) (hs : swapsWithSole [tg] a pos.line X.env = pure false := by rfl) (hw : swappedStores [tg] a X.env = pure none := by rfl)
    (h1 : (assignEach [tg] X.env).map (·.2) = [assign tg X.env] := by rfl) : CS X W (.Assign [tg] a pos) (sAsg gt fa) := PS_imp (ps_asg ha hg hs hw h1) fun _ _ _ h => asg_in h
/-- a, b = x, y -/
def sPar (i j : Nat) (fs : Fa) : Fs := fun sc C => (fs sc C).st sc fun ds C1 => match ds with
  | [d, e] => .nx ((sc.set i (some d)).set j (some e)) C1
  | _ => .bad
theorem csPar {i j : Nat} {x y : Str} {b : Expr} {fs : Fa} {px py' pt : Pos} {kt k2 pt2} (c : Ctx k X W) (ha : CA X W [a, b] fs) (hi : X.N[i]? = some x := by rfl) (hj : X.N[j]? = some y := by rfl) (hij : i ≠ j := by decide)
    (hx : X.env.scope.names.lookup x = some .local := by rfl) (hy : X.env.scope.names.lookup y = some .local := by rfl)
    (hw : swappedStores [.Tuple [.Name x px, .Name y py'] kt pt] (.Tuple [a, b] k2 pt2) X.env = pure (some [x, y]) := by rfl)
    (hs : swapsWithSole [.Tuple [.Name x px, .Name y py'] kt pt] (.Tuple [a, b] k2 pt2) pos.line X.env = pure false := by rfl) :
    CS X W (.Assign [.Tuple [.Name x px, .Name y py'] kt pt] (.Tuple [a, b] k2 pt2) pos) (sPar i j fs) := by
  refine PS_imp (ps_par c.calm c.nd hi hj hij hx hy ha hw hs) fun D σ H ⟨ad, sc, C, hs, hh, h⟩ => ?_
  refine sA_bind hs hh (.refl _ _) h fun ds C1 ad1 H1 vs E1 hs1 hh1 r1 h1 => ?_
  split at h1
  · cases r1 with
    | cons r1 r2 =>
      cases r2 with
      | cons r2 r3 =>
        cases r3
        exact ⟨_, _, rfl, h1 _ H1 ⟨ad1, E1, hh1, (hs1.set i r1).set j r2⟩⟩
  · exact h1.elim
/-- o[i] = v -/
def setO (o i v : D) (C : CH) : Option CH := match o with
  | .ref n => match C[n]? with
    | some (.lst xs) => match i with
      | .int z => (ixN xs.length z).map fun j => C.set n (.lst (xs.set j v))
      | _ => none
    | some (.dK kvs) => if kvs.length ≤ 1000000 then (keyOf i).map fun q => C.set n (.dK (putD kvs q v)) else none
    | some (.dT kvs) => if kvs.length ≤ 1000000 then (keysOf i).map fun q => C.set n (.dT (putD kvs q v)) else none
    | _ => none
  | _ => none
def isDct (C : CH) : D → Bool
  | .ref n => match C[n]? with
    | some (.dK _) => true
    | some (.dT _) => true
    | _ => false
  | _ => false
def sPut (fv fo fi : Fe) : Fs := fun sc C => (fv sc C).st sc fun v C1 => (fo sc C1).st sc fun o C2 => (fi sc C2).st sc fun i C3 => optS (setO o i v C3) fun C4 => .nx sc C4
theorem put_d {K : PySem.W.Frag} {ad : List Addr} {H : Hp} {C C' : CH} (hh : HRel K ad H C) {o i v : D} {x y w : V} (rx : Rl K ad H o x) (ry : Rl K ad H i y) (rw' : Rl K ad H v w) (h : setO o i v C = some C') :
    (isDct C o = false ∧ ∀ Q : Hp → Prop, (∀ H', Ext ad H ad H' → HRel K ad H' C' → Q H') → rSetL x y w H Q) ∨ (isDct C o = true ∧ ∃ a H', x = .ref a ∧ DPut H a y w H' ∧ Ext ad H ad H' ∧ HRel K ad H' C') := by
  unfold setO at h
  split at h
  · rename_i n
    cases rx with
    | ref ha =>
      rename_i a
      split at h
      · rename_i xs e1
        obtain ⟨u, h1, ws, rfl, rr⟩ := hh.obj n _ a e1 ha
        split at h
        · rename_i z
          cases ry
          cases e2 : ixN xs.length z with
          | none => rw [e2] at h; cases h
          | some j =>
            rw [e2] at h
            cases h
            have E := ext_set hh e1 ha (u := .lst (ws.set j w))
            refine .inl ⟨by simp only [isDct, e1], fun Q q => ⟨a, ws, z, j, rfl, rfl, h1, by rw [← rr.length]; exact e2, q _ E (hh.set e1 ha ⟨_, rfl, Rls.set (rw'.mono E) j (rr.mono E)⟩)⟩⟩
        · cases h
      · rename_i kvs e1
        obtain ⟨u, h1, ws, rfl, rr⟩ := hh.obj n _ a e1 ha
        split at h
        · rename_i hz
          cases e2 : keyOf i with
          | none => rw [e2] at h; cases h
          | some q =>
            rw [e2] at h
            cases h
            have E := ext_set hh e1 ha (u := .dK (putK ws q w))
            rw [key_rel e2 ry]
            exact .inr ⟨by simp only [isDct, e1], a, _, rfl, DPut.k h1 (by rw [← rr.length]; exact mil2 hz), E, hh.set e1 ha ⟨_, rfl, put_rel q (rw'.mono E) (rr.mono E)⟩⟩
        · cases h
      · rename_i kvs e1
        obtain ⟨u, h1, ws, rfl, rr⟩ := hh.obj n _ a e1 ha
        split at h
        · rename_i hz
          cases e2 : keysOf i with
          | none => rw [e2] at h; cases h
          | some q =>
            rw [e2] at h
            cases h
            unfold keysOf at e2
            split at e2
            · cases ry with
              | tup g2 r2 =>
                rename_i b vs
                have := keys_rel e2 r2
                subst this
                have E := ext_set hh e1 ha (u := .dT (putK ws q w))
                exact .inr ⟨by simp only [isDct, e1], a, _, rfl, DPut.t h1 g2 (by rw [← rr.length]; exact mil2 hz), E, hh.set e1 ha ⟨_, rfl, put_rel q (rw'.mono E) (rr.mono E)⟩⟩
            · cases e2
        · cases h
      · cases h
  · cases h
/-- which of both ways a store goes -/
theorem put_way (fv fo fi : Fe) (sc : Sc) (C : CH) : (∃ b : Bool, ∀ v C1 o C2 i C3 C4, fv sc C = .ok v C1 → fo sc C1 = .ok o C2 → fi sc C2 = .ok i C3 → setO o i v C3 = some C4 → isDct C3 o = b) := by
  cases e1 : fv sc C with
  | ok v C1 =>
    cases e2 : fo sc C1 with
    | ok o C2 =>
      cases e3 : fi sc C2 with
      | ok i C3 =>
        refine ⟨isDct C3 o, fun v' C1' o' C2' i' C3' C4 f1 f2 f3 _ => ?_⟩
        cases f1
        rw [e2] at f2; cases f2
        rw [e3] at f3; cases f3
        rfl
      | ex x C3 => refine ⟨true, fun v' C1' o' C2' i' C3' C4 f1 f2 f3 _ => ?_⟩; cases f1; rw [e2] at f2; cases f2; rw [e3] at f3; cases f3
      | bad => refine ⟨true, fun v' C1' o' C2' i' C3' C4 f1 f2 f3 _ => ?_⟩; cases f1; rw [e2] at f2; cases f2; rw [e3] at f3; cases f3
    | ex x C2 => refine ⟨true, fun v' C1' o' C2' i' C3' C4 f1 f2 f3 _ => ?_⟩; cases f1; rw [e2] at f2; cases f2
    | bad => refine ⟨true, fun v' C1' o' C2' i' C3' C4 f1 f2 f3 _ => ?_⟩; cases f1; rw [e2] at f2; cases f2
  | ex x C1 => exact ⟨true, fun v' C1' o' C2' i' C3' C4 f1 f2 f3 _ => by cases f1⟩
  | bad => exact ⟨true, fun v' C1' o' C2' i' C3' C4 f1 f2 f3 _ => by cases f1⟩
variable {o i : Expr} {fo fi : Fe} {pos' : Pos}
theorem csPut (c : Ctx k X W) (ho : CE X W o fo) (hi : CE X W i fi) (ha : CE X W a fa) (hsw : swapsWith a (some (.Subscript o i pos')) pos.line X.env = pure false := by rfl)
    (has : ∀ v, assign (.Subscript o i pos') X.env v = (do
      let ov ← holding [v] (eval o X.env)
      let iv ← holding [v, ov] (eval i X.env)
      standAt pos'
      holding [v, ov, iv] (setItem ov iv v)
      release [v, ov, iv] []) := by intro _; rfl)
    (hs : swapsWithSole [.Subscript o i pos'] a pos.line X.env = pure false := by rfl) (hw : swappedStores [.Subscript o i pos'] a X.env = pure none := by rfl)
    (h1 : (assignEach [.Subscript o i pos'] X.env).map (·.2) = [assign (.Subscript o i pos') X.env] := by rfl) : CS X W (.Assign [.Subscript o i pos'] a pos) (sPut fa fo fi) := by
  refine PS_imp (PS_or (ps_asg ha (pg_sub ho hi set_list has) hs hw h1) (ps_dput c.un1 ho hi ha hsw)) fun D σ H ⟨ad, sc, C, hs, hh, h⟩ => ?_
  obtain ⟨b, hb⟩ := put_way fa fo fi sc C
  have go : ∀ R : V → V → V → Hp → Prop, (∀ ad1 H1 v o i C3 C4 x y w, Ext ad H ad1 H1 → SRel X.K ad1 H1 sc σ → HRel X.K ad1 H1 C3 → Rl X.K ad1 H1 o x → Rl X.K ad1 H1 i y → Rl X.K ad1 H1 v w → setO o i v C3 = some C4 → isDct C3 o = b →
      (∀ H', Ext ad1 H1 ad1 H' → HRel X.K ad1 H' C4 → D.nx σ H') → R w x y H1) →
      tE X.K W fa σ H fun w H1 => tE X.K W fo σ H1 fun x H2 => tE X.K W fi σ H2 fun y H3 => R w x y H3 := by
    intro R hR
    refine ⟨ad, sc, C, hs, hh, ?_⟩
    have h : SPo X.K W ad H D ((fa sc C).st sc fun v C1 => (fo sc C1).st sc fun o C2 => (fi sc C2).st sc fun i C3 => optS (setO o i v C3) fun C4 => .nx sc C4) := h
    have q := SPo.res hs (.refl _ _) h
    cases f1 : fa sc C with
    | bad => rw [f1] at q; exact q
    | ex x C1 => rw [f1] at q; exact q
    | ok v C1 =>
      rw [f1] at q
      intro w H1 ⟨ad1, E1, hh1, r1⟩
      have hs1 := hs.mono E1
      refine ⟨ad1, sc, C1, hs1, hh1, ?_⟩
      have q2 := SPo.res hs1 E1 q
      cases f2 : fo sc C1 with
      | bad => rw [f2] at q2; exact q2
      | ex x C2 => rw [f2] at q2; exact q2
      | ok o C2 =>
        rw [f2] at q2
        intro x H2 ⟨ad2, E2, hh2, r2⟩
        have hs2 := hs1.mono E2
        refine ⟨ad2, sc, C2, hs2, hh2, ?_⟩
        have q3 := SPo.res hs2 (E1.trans E2) q2
        cases f3 : fi sc C2 with
        | bad => rw [f3] at q3; exact q3
        | ex x C3 => rw [f3] at q3; exact q3
        | ok i C3 =>
          rw [f3] at q3
          intro y H3 ⟨ad3, E3, hh3, r3⟩
          have q3 : SPo X.K W ad H D (optS (setO o i v C3) fun C4 => .nx sc C4) := q3
          cases f4 : setO o i v C3 with
          | none => rw [f4] at q3; exact q3.elim
          | some C4 =>
            rw [f4] at q3
            have EE := E1.trans (E2.trans E3)
            exact hR ad3 H3 v o i C3 C4 x y w EE (hs2.mono E3) hh3 (r2.mono E3) r3 (r1.mono (E2.trans E3)) f4 (hb v C1 o C2 i C3 C4 f1 f2 f3 f4) fun H' E4 h4 => q3 σ H' ⟨ad3, EE.trans E4, h4, (hs2.mono E3).mono E4⟩
  cases b with
  | false =>
    refine .inl (go (fun w x y H1 => rSetL x y w H1 fun H3 => D.nx σ H3) fun ad1 H1 v o i C3 C4 x y w E s1 hh1 rx ry rw' e isd q => ?_)
    rcases put_d hh1 rx ry rw' e with ⟨_, z⟩ | ⟨z, _⟩
    · exact z _ q
    · rw [isd] at z; cases z
  | true =>
    refine .inr (go (fun w x y H1 => ∃ p H4, x = .ref p ∧ DPut H1 p y w H4 ∧ D.nx σ H4) fun ad1 H1 v o i C3 C4 x y w E s1 hh1 rx ry rw' e isd q => ?_)
    rcases put_d hh1 rx ry rw' e with ⟨z, _⟩ | ⟨_, p, H4, e1, d, E4, h4⟩
    · rw [isd] at z; cases z
    · exact ⟨p, H4, e1, d, q H4 E4 h4⟩
end
end Cl
set_option maxHeartbeats 4000000
/-! Cl, part G: loops, comprehensions. -/
namespace Cl
open PySem PySem.Spec L2

/-! ### while -/
def wh (t : Ft) (b : Fs) : Nat → Sc → CH → SOut
  | 0, _, _ => .bad
  | n + 1, sc, C => (t sc C).st sc fun c C1 => if c = true then (match b sc C1 with
      | .nx sc2 C2 => wh t b n sc2 C2
      | .ct sc2 C2 => wh t b n sc2 C2
      | .bk sc2 C2 => .nx sc2 C2
      | .rt d C2 => .rt d C2
      | .ex x sc2 C2 => .ex x sc2 C2
      | .bad => .bad) else .nx sc C1
theorem wh_succ (t : Ft) (b : Fs) (n : Nat) (sc : Sc) (C : CH) : wh t b (n + 1) sc C = (t sc C).st sc fun c C1 => if c = true then (match b sc C1 with
      | .nx sc2 C2 => wh t b n sc2 C2
      | .ct sc2 C2 => wh t b n sc2 C2
      | .bk sc2 C2 => .nx sc2 C2
      | .rt d C2 => .rt d C2
      | .ex x sc2 C2 => .ex x sc2 C2
      | .bad => .bad) else .nx sc C1 := rfl
theorem wh_more {t : Ft} {b : Fs} : ∀ (n : Nat) (sc : Sc) (C : CH), wh t b n sc C ≠ .bad → wh t b (n + 1) sc C = wh t b n sc C
  | 0, _, _, h => absurd rfl h
  | n + 1, sc, C, h => by
    rw [wh_succ t b (n + 1)]
    rw [wh_succ t b n] at h ⊢
    cases e : t sc C with
    | bad => rfl
    | ex x C1 => rfl
    | ok c C1 =>
      rw [e] at h
      simp only [Res.st_ok] at h ⊢
      cases c with
      | false => rfl
      | true =>
        simp only [if_true] at h ⊢
        cases e2 : b sc C1 with
        | nx sc2 C2 => rw [e2] at h; exact wh_more n sc2 C2 h
        | ct sc2 C2 => rw [e2] at h; exact wh_more n sc2 C2 h
        | bk sc2 C2 => rfl
        | rt d C2 => rfl
        | ex x sc2 C2 => rfl
        | bad => rfl
theorem wh_le {t : Ft} {b : Fs} {n m : Nat} {sc : Sc} {C : CH} (h : wh t b n sc C ≠ .bad) (hm : n ≤ m) : wh t b m sc C = wh t b n sc C := by
  induction hm with
  | refl => rfl
  | step hm ih => rw [wh_more _ _ _ (by rw [ih]; exact h), ih]
open Classical in
noncomputable def sWh (t : Ft) (b : Fs) : Fs := fun sc C => if h : ∃ n, wh t b n sc C ≠ .bad then wh t b h.choose sc C else .bad
theorem sWh_eq {t : Ft} {b : Fs} {n : Nat} {sc : Sc} {C : CH} {o : SOut} (h : wh t b n sc C = o) (ho : o ≠ .bad) : sWh t b sc C = o := by
  have e : ∃ n, wh t b n sc C ≠ .bad := ⟨n, by rw [h]; exact ho⟩
  unfold sWh
  rw [dif_pos e]
  rcases Nat.le_total e.choose n with z | z
  · rw [← wh_le e.choose_spec z, h]
  · rw [wh_le (by rw [h]; exact ho) z, h]
theorem sWh_inv {t : Ft} {b : Fs} {sc : Sc} {C : CH} (h : sWh t b sc C ≠ .bad) : ∃ n, wh t b n sc C = sWh t b sc C := by
  unfold sWh at h ⊢
  by_cases e : ∃ n, wh t b n sc C ≠ .bad
  · rw [dif_pos e]; exact ⟨_, rfl⟩
  · rw [dif_neg e] at h; exact absurd rfl h
/-- one turn of a while, then the rest -/
theorem sWh_turn {t : Ft} {b : Fs} {sc sc2 : Sc} {C C1 C2 : CH} (ht : t sc C = .ok true C1) (hb : b sc C1 = .nx sc2 C2 ∨ b sc C1 = .ct sc2 C2) : sWh t b sc C = sWh t b sc2 C2 := by
  have step : ∀ n, wh t b (n + 1) sc C = wh t b n sc2 C2 := fun n => by
    rw [wh_succ, ht]
    rcases hb with hb | hb <;> simp only [Res.st_ok, if_true, hb]
  by_cases h : sWh t b sc2 C2 = .bad
  · rw [h]
    apply Classical.byContradiction
    intro q
    obtain ⟨n, e⟩ := sWh_inv q
    cases n with
    | zero => exact q (e ▸ rfl)
    | succ n =>
      rw [step] at e
      rw [← e] at q
      exact q (by rw [← h]; exact (sWh_eq rfl q).symm)
  · obtain ⟨n, e⟩ := sWh_inv h
    exact sWh_eq (n := n + 1) (by rw [step, e]) h
theorem sWh_stop {t : Ft} {b : Fs} {sc : Sc} {C C1 : CH} (ht : t sc C = .ok false C1) : sWh t b sc C = .nx sc C1 :=
  sWh_eq (n := 1) (by rw [wh_succ, ht]; rfl) (fun h => by cases h)
theorem sWh_out {t : Ft} {b : Fs} {sc : Sc} {C C1 : CH} {o : SOut} (ht : t sc C = .ok true C1) (hb : b sc C1 = o) (h1 : ∃ d C2, o = .rt d C2) : sWh t b sc C = o := by
  obtain ⟨d, C2, rfl⟩ := h1
  exact sWh_eq (n := 1) (by rw [wh_succ, ht]; simp only [Res.st_ok, if_true, hb]) (fun h => by cases h)
theorem sWh_brk {t : Ft} {b : Fs} {sc sc2 : Sc} {C C1 C2 : CH} (ht : t sc C = .ok true C1) (hb : b sc C1 = .bk sc2 C2) : sWh t b sc C = .nx sc2 C2 :=
  sWh_eq (n := 1) (by rw [wh_succ, ht]; simp only [Res.st_ok, if_true, hb]) (fun h => by cases h)
section
variable {k : Nat} {X : Cx} {W : WX} {pos : Pos}
theorem csWh {c : Expr} {body : List Stmt} {t : Ft} {b : Fs} (x : Ctx k X W) (hc : CT X W c t) (hb : CSs X W body b) : CS X W (.While c body [] pos) (sWh t b) := by
  refine PS_imp (ps_while x.ps hc hb) fun D σ H ⟨ad, sc, C, hs, hh, h⟩ => ?_
  have nb : sWh t b sc C ≠ .bad := fun e => by rw [e] at h; exact h
  obtain ⟨n, en⟩ := sWh_inv nb
  refine ⟨fun m σ H => ∃ ad sc C, SRel X.K ad H sc σ ∧ HRel X.K ad H C ∧ SPo X.K W ad H D (wh t b m sc C), ⟨n, ad, sc, C, hs, hh, by rw [en]; exact h⟩, ?_⟩
  rintro m σ H ⟨ad, sc, C, hs, hh, h⟩
  cases m with
  | zero => exact h.elim
  | succ m =>
    rw [wh_succ] at h
    refine sT_bind hs hh (.refl _ _) h fun c C1 ad1 H1 E1 hs1 hh1 h1 => ?_
    cases c with
    | false => exact h1 σ H1 ⟨ad1, E1, hh1, hs1⟩
    | true =>
      refine ⟨fun σ' H' => ∃ ad sc C, SRel X.K ad H' sc σ' ∧ HRel X.K ad H' C ∧ SPo X.K W ad H' D (wh t b m sc C), fun σ' H' z => ⟨m, Nat.lt_succ_self m, z⟩, ad1, sc, C1, hs1, hh1, ?_⟩
      simp only [if_true] at h1
      cases e2 : b sc C1 with
      | nx sc2 C2 =>
        rw [e2] at h1
        intro σ' H' ⟨ad', E, h', s'⟩
        exact ⟨ad', sc2, C2, s', h', h1.later (E1.trans E)⟩
      | ct sc2 C2 =>
        rw [e2] at h1
        intro σ' H' ⟨ad', E, h', s'⟩
        exact ⟨ad', sc2, C2, s', h', h1.later (E1.trans E)⟩
      | bk sc2 C2 => rw [e2] at h1; exact SPo.later E1 (o := .nx sc2 C2) h1
      | rt d C2 => rw [e2] at h1; exact SPo.later E1 h1
      | ex x sc2 C2 => rw [e2] at h1; exact SPo.later E1 h1
      | bad => rw [e2] at h1; exact h1.elim
end

/-! ### what is walked -/
/-- the items; what must stand at each turn -/
structure Src where
  ds : List D
  chk : CH → Prop
abbrev Fi := Sc → CH → Res Src
/-- J walks the items, from the clean state on -/
def Wk (K : PySem.W.Frag) (J : It) (ad : List Addr) (H : Hp) (S : Src) : Prop := ∀ ad2 H2 C2, Ext ad H ad2 H2 → HRel K ad2 H2 C2 → S.chk C2 →
  (∀ i d, S.ds[i]? = some d → J.go i H2 ∧ ∀ x H3, J.yld i H2 x H3 → ∃ ad3, Ext ad2 H2 ad3 H3 ∧ HRel K ad3 H3 C2 ∧ Rl K ad3 H3 d x) ∧ J.stop S.ds.length H2
def tI (K : PySem.W.Frag) (W : WX) (f : Fi) : TI := fun σ H R => ∃ ad sc C, SRel K ad H sc σ ∧ HRel K ad H C ∧ RP K W ad H σ (f sc C) fun S C' => ∀ J H', Aft K ad H C' (fun ad' H' => Wk K J ad' H' S) H' → R J H'
abbrev CI (X : Cx) (W : WX) (tg iter : Expr) (f : Fi) : Prop := PI X tg iter (tI X.K W f)
theorem PI_imp {X : Cx} {tg it : Expr} {t t' : TI} (h : PI X tg it t) (i : ∀ σ H R, t' σ H R → t σ H R) : PI X tg it t' := ⟨fun pins s σ H R I z => h.run pins s σ H R I (i σ H R z)⟩
theorem Wk.list {K : PySem.W.Frag} {ad : List Addr} {H : Hp} {n : Nat} {ds : List D} {a : Addr} (ha : ad[n]? = some a) : Wk K (Itl K a) ad H ⟨ds, fun C => C[n]? = some (.lst ds)⟩ := by
  intro ad2 H2 C2 E hh hc
  obtain ⟨u, h1, vs, rfl, r⟩ := hh.obj n _ a hc (E.pre n a ha)
  refine ⟨fun i d e => ?_, vs, .of h1, by rw [r.length]; exact Nat.le_refl _⟩
  obtain ⟨v, e1, rv⟩ := r.get e
  refine ⟨⟨vs, v, .of h1, e1⟩, fun x H3 ⟨e2, y⟩ => ?_⟩
  subst e2
  have := y vs (.of h1)
  rw [e1] at this; cases this
  exact ⟨ad2, .refl _ _, hh, rv⟩
theorem Wk.fl {K : PySem.W.Frag} {ad : List Addr} {H : Hp} {ds : List D} {a : Addr} {vs : List V} (f : Fz K H a vs) (r : Rls K ad H ds vs) : Wk K (Itl K a) ad H ⟨ds, fun _ => True⟩ := by
  intro ad2 H2 C2 E hh hc
  have h1 := (f.mono E).sq
  have r := r.mono E
  refine ⟨fun i d e => ?_, vs, h1, by rw [r.length]; exact Nat.le_refl _⟩
  obtain ⟨v, e1, rv⟩ := r.get e
  refine ⟨⟨vs, v, h1, e1⟩, fun x H3 ⟨e2, y⟩ => ?_⟩
  subst e2
  have := y vs h1
  rw [e1] at this; cases this
  exact ⟨ad2, .refl _ _, hh, rv⟩
theorem Wk.tup {K : PySem.W.Frag} {ad : List Addr} {H : Hp} {ds : List D} {a : Addr} {vs : List V} (f : H a = some (.tup vs)) (r : Rls K ad H ds vs) : Wk K (Itt K a) ad H ⟨ds, fun _ => True⟩ := by
  intro ad2 H2 C2 E hh hc
  have h1 : SqT K H2 a vs := .of (E.tup _ _ f)
  have r := r.mono E
  refine ⟨fun i d e => ?_, vs, h1, by rw [r.length]; exact Nat.le_refl _⟩
  obtain ⟨v, e1, rv⟩ := r.get e
  refine ⟨⟨vs, v, h1, e1⟩, fun x H3 ⟨e2, y⟩ => ?_⟩
  subst e2
  have := y vs h1
  rw [e1] at this; cases this
  exact ⟨ad2, .refl _ _, hh, rv⟩
def rngD (lo : Int) (n : Nat) : List D := (List.range n).map fun (i : Nat) => .int (lo + i)
theorem Wk.rng {K : PySem.W.Frag} {ad : List Addr} {H : Hp} (lo : Int) (n : Nat) : Wk K (Itr lo n) ad H ⟨rngD lo n, fun _ => True⟩ := by
  intro ad2 H2 C2 E hh hc
  have hl : (rngD lo n).length = n := by simp [rngD]
  refine ⟨fun i d e => ?_, by show n ≤ _; rw [hl]; exact Nat.le_refl _⟩
  have hi : i < n := by rw [← hl]; exact (List.getElem?_eq_some_iff.mp e).1
  have e : (rngD lo n)[i]? = some d := e
  rw [rngD, List.getElem?_map, List.getElem?_range hi] at e
  cases e
  refine ⟨hi, fun x H3 ⟨e1, e2⟩ => ?_⟩
  subst e1 e2
  exact ⟨ad2, .refl _ _, hh, .int _⟩
section
variable {k : Nat} {X : Cx} {W : WX} {pos : Pos} {tg : Expr}
/-- a list, a tuple, the script -/
def srcOf (C : CH) : D → Option Src
  | .tup ds => some ⟨ds, fun _ => True⟩
  | .fl ds => some ⟨ds, fun _ => True⟩
  | .ref n => match C[n]? with
    | some (.lst ds) => some ⟨ds, fun C => C[n]? = some (.lst ds)⟩
    | _ => none
  | _ => none
def iSeq (f : Fe) : Fi := fun sc C => (f sc C).bind fun d C1 => match srcOf C1 d with
  | some S => .ok S C1
  | none => .bad
theorem PI_or {it : Expr} {t t' : TI} (h : PI X tg it t) (h' : PI X tg it t') : PI X tg it (fun σ H R => t σ H R ∨ t' σ H R) := ⟨fun pins s σ H R I z => z.elim (h.run pins s σ H R I) (h'.run pins s σ H R I)⟩
def isTupD : D → Bool
  | .tup _ => true
  | _ => false
theorem ciSeq {l : Expr} {f : Fe} (hl : CE X W l f) : CI X W tg l (iSeq f) := by
  refine PI_imp (PI_or (pi_list hl) (pi_tup hl)) fun σ H R ⟨ad, sc, C, hs, hh, h⟩ => ?_
  have fin : ∀ d C1 ad1 H1 v, Ext ad H ad1 H1 → HRel X.K ad1 H1 C1 → Rl X.K ad1 H1 d v → RP X.K W ad H σ (match srcOf C1 d with | some S => Res.ok S C1 | none => .bad) (fun S C' => ∀ J H', Aft X.K ad H C' (fun ad' H' => Wk X.K J ad' H' S) H' → R J H') →
      (isTupD d = false → ∃ a, v = .ref a ∧ (∃ xs, SqL X.K H1 a xs) ∧ R (Itl X.K a) H1) ∧ (isTupD d = true → ∃ a, v = .ref a ∧ (∃ xs, SqT X.K H1 a xs) ∧ R (Itt X.K a) H1) := by
    intro d C1 ad1 H1 v E1 hh1 r1 q
    cases r1 with
    | tup g1 g2 => exact ⟨fun z => by (cases z), fun _ => ⟨_, rfl, ⟨_, .of g1⟩, q _ H1 ⟨ad1, E1, hh1, .tup g1 g2⟩⟩⟩
    | fl g1 g2 => exact ⟨fun _ => ⟨_, rfl, ⟨_, g1.sq⟩, q _ H1 ⟨ad1, E1, hh1, .fl g1 g2⟩⟩, fun z => by (cases z)⟩
    | ref ha =>
      rename_i n a
      refine ⟨fun _ => ?_, fun z => by (cases z)⟩
      have q : RP X.K W ad H σ (match (match C1[n]? with | some (.lst ds) => some (Src.mk ds fun C => C[n]? = some (.lst ds)) | _ => none) with | some S => Res.ok S C1 | none => .bad) (fun S C' => ∀ J H', Aft X.K ad H C' (fun ad' H' => Wk X.K J ad' H' S) H' → R J H') := q
      cases e : C1[n]? with
      | none => rw [e] at q; exact q.elim
      | some o =>
        rw [e] at q
        cases o with
        | lst ds =>
          obtain ⟨u, h1, vs, rfl, rr⟩ := hh1.obj n _ a e ha
          exact ⟨a, rfl, ⟨vs, .of h1⟩, q _ H1 ⟨ad1, E1, hh1, .list ha⟩⟩
        | dK _ => exact q.elim
        | dT _ => exact q.elim
    | _ => exact q.elim
  by_cases z : ∃ d C1, f sc C = .ok d C1 ∧ isTupD d = true
  · obtain ⟨d, C1, e, z⟩ := z
    refine .inr ⟨ad, sc, C, hs, hh, ?_⟩
    have h : RP X.K W ad H σ ((f sc C).bind fun d C1 => match srcOf C1 d with | some S => Res.ok S C1 | none => .bad) _ := h
    rw [e] at h ⊢
    intro v H1 ⟨ad1, E1, hh1, r1⟩
    exact (fin d C1 ad1 H1 v E1 hh1 r1 h).2 z
  · refine .inl ⟨ad, sc, C, hs, hh, ?_⟩
    have h : RP X.K W ad H σ ((f sc C).bind fun d C1 => match srcOf C1 d with | some S => Res.ok S C1 | none => .bad) _ := h
    cases e : f sc C with
    | bad => rw [e] at h; exact h
    | ex x C1 => rw [e] at h; exact h
    | ok d C1 =>
      rw [e] at h
      intro v H1 ⟨ad1, E1, hh1, r1⟩
      refine (fin d C1 ad1 H1 v E1 hh1 r1 h).1 ?_
      cases q : isTupD d with
      | false => rfl
      | true => exact absurd ⟨d, C1, e, q⟩ z
/-- range(n), range(a, b) -/
noncomputable def bSm (i : Int) : Bool := ck (-(2 ^ 62) ≤ i ∧ i < 2 ^ 62)
theorem bSm_iff {i : Int} : bSm i = true ↔ -(2 ^ 62) ≤ i ∧ i < 2 ^ 62 := ck_iff
noncomputable def rng1 (ds : List D) (C1 : CH) : Res Src := match ds with
  | [.int j] => if bSm j = true then .ok ⟨rngD 0 j.toNat, fun _ => True⟩ C1 else .bad
  | _ => .bad
noncomputable def rng2 (ds : List D) (C1 : CH) : Res Src := match ds with
  | [.int i, .int j] => if bSm i && bSm j then .ok ⟨rngD i (j - i).toNat, fun _ => True⟩ C1 else .bad
  | _ => .bad
theorem rng1_i {j : Int} (h1 : -(2 ^ 62) ≤ j) (h2 : j < 2 ^ 62) (C1 : CH) : rng1 [.int j] C1 = .ok ⟨rngD 0 j.toNat, fun _ => True⟩ C1 := by
  have h : bSm j = true := bSm_iff.mpr ⟨h1, h2⟩
  show (if bSm j = true then _ else _) = _
  exact if_pos h
theorem rng2_i {i j : Int} (h1 : -(2 ^ 62) ≤ i) (h2 : i < 2 ^ 62) (h3 : -(2 ^ 62) ≤ j) (h4 : j < 2 ^ 62) (C1 : CH) : rng2 [.int i, .int j] C1 = .ok ⟨rngD i (j - i).toNat, fun _ => True⟩ C1 := by
  have h : (bSm i && bSm j) = true := by rw [bSm_iff.mpr ⟨h1, h2⟩, bSm_iff.mpr ⟨h3, h4⟩]; rfl
  show (if (bSm i && bSm j) = true then _ else _) = _
  exact if_pos h
noncomputable def iR1 (fs : Fa) : Fi := fun sc C => (fs sc C).bind rng1
noncomputable def iR2 (fs : Fa) : Fi := fun sc C => (fs sc C).bind rng2
variable {a b : Expr} {fs : Fa} {p : Pos}
theorem ciR1 (hg : Gl X "range") (hm : X.mg "range" = none) (ha : CA X W [a] fs) (hs : starEach [a] X.env = [(false, eval a X.env)] := by rfl) : CI X W tg (.Call (.Name "range" p) [a] [] pos) (iR1 fs) := by
  refine PI_imp (pi_range1 hg hm ha hs) fun σ H R ⟨ad, sc, C, hs, hh, h⟩ => ?_
  refine tA_bind hs hh (.refl _ _) h fun ds C1 ad1 H1 vs E1 hs1 hh1 r1 h1 => ?_
  unfold rng1 at h1
  split at h1
  · split at h1
    · rename_i hz
      obtain ⟨z1, z2⟩ := bSm_iff.mp hz
      cases r1 with
      | cons r1 r2 => cases r2; cases r1; exact ⟨_, rfl, z1, z2, h1 _ H1 ⟨ad1, E1, hh1, .rng 0 _⟩⟩
    · exact h1.elim
  · exact h1.elim
theorem ciR2 (hg : Gl X "range") (hm : X.mg "range" = none) (ha : CA X W [a, b] fs) (hs : starEach [a, b] X.env = [(false, eval a X.env), (false, eval b X.env)] := by rfl) (hs2 : starEach [b] X.env = [(false, eval b X.env)] := by rfl) : CI X W tg (.Call (.Name "range" p) [a, b] [] pos) (iR2 fs) := by
  refine PI_imp (pi_range2 hg hm ha hs hs2) fun σ H R ⟨ad, sc, C, hs, hh, h⟩ => ?_
  refine tA_bind hs hh (.refl _ _) h fun ds C1 ad1 H1 vs E1 hs1 hh1 r1 h1 => ?_
  unfold rng2 at h1
  split at h1
  · split at h1
    · rename_i hz
      rw [Bool.and_eq_true] at hz
      obtain ⟨z1, z2⟩ := bSm_iff.mp hz.1
      obtain ⟨z3, z4⟩ := bSm_iff.mp hz.2
      cases r1 with
      | cons r1 r2 =>
        cases r2 with
        | cons r2 r3 => cases r3; cases r1; cases r2; exact ⟨_, _, rfl, ⟨z1, z2, z3, z4⟩, h1 _ H1 ⟨ad1, E1, hh1, .rng _ _⟩⟩
    · exact h1.elim
  · exact h1.elim

/-! ### for -/
open Classical in
noncomputable def fr (chk : CH → Prop) (g : Fg) (b : Fs) : List D → Sc → CH → SOut
  | [], sc, C => if chk C then .nx sc C else .bad
  | d :: ds, sc, C => if chk C then optS (g d sc) fun sc1 => (match b sc1 C with
      | .nx sc2 C2 => fr chk g b ds sc2 C2
      | .ct sc2 C2 => fr chk g b ds sc2 C2
      | .bk sc2 C2 => .nx sc2 C2
      | .rt d C2 => .rt d C2
      | .ex x sc2 C2 => .ex x sc2 C2
      | .bad => .bad) else .bad
noncomputable def sFor (fi : Fi) (g : Fg) (b : Fs) : Fs := fun sc C => (fi sc C).st sc fun S C1 => fr S.chk g b S.ds sc C1
theorem csFor {iter : Expr} {body : List Stmt} {fi : Fi} {g : Fg} {b : Fs} (c : Ctx k X W) (hi : CI X W tg iter fi) {is : List Nat} (hg : CGt X tg is g) (hb : CSs X W body b) (hsx : ∀ x, foldedSetIterable iter X.env x = pure x := by intro _; rfl) : CS X W (.For tg iter body [] pos) (sFor fi g b) := by
  refine PS_imp (ps_for c.ps c.calm hi hg hb hsx) fun D σ H ⟨ad, sc, C, hs, hh, h⟩ => ?_
  refine ⟨ad, sc, C, hs, hh, (SPo.res hs (.refl _ _) h).imp fun S C1 q J H1 ⟨ad1, E1, hh1, wk⟩ => ?_⟩
  obtain ⟨ds, chk⟩ := S
  refine ⟨fun i m σ H2 => ∃ ad2 sc2 C2, Ext ad1 H1 ad2 H2 ∧ SRel X.K ad2 H2 sc2 σ ∧ HRel X.K ad2 H2 C2 ∧ m = ds.length - i ∧ i ≤ ds.length ∧ SPo X.K W ad2 H2 D (fr chk g b (ds.drop i) sc2 C2), ⟨ds.length, ad1, sc, C1, .refl _ _, hs.mono E1, hh1, by simp, Nat.zero_le _, SPo.later E1 (by rw [List.drop_zero]; exact q)⟩, ?_⟩
  rintro i m σ2 H2 ⟨ad2, sc2, C2, E2, hs2, hh2, rfl, hi2, q2⟩
  have hchk : chk C2 := by
    apply Classical.byContradiction
    intro z
    cases e : ds.drop i with
    | nil => rw [e, fr, if_neg z] at q2; exact q2
    | cons d r => rw [e, fr, if_neg z] at q2; exact q2
  obtain ⟨w1, w2⟩ := wk ad2 H2 C2 E2 hh2 hchk
  by_cases hlt : i < ds.length
  · have e : ds.drop i = ds[i] :: ds.drop (i + 1) := (List.drop_eq_getElem_cons hlt)
    rw [e, fr, if_pos hchk] at q2
    obtain ⟨j1, j2⟩ := w1 i ds[i] (List.getElem?_eq_getElem hlt)
    refine .inr ⟨j1, fun σ' H' => ∃ ad2 sc2 C2, Ext ad1 H1 ad2 H' ∧ SRel X.K ad2 H' sc2 σ' ∧ HRel X.K ad2 H' C2 ∧ SPo X.K W ad2 H' D (fr chk g b (ds.drop (i + 1)) sc2 C2),
      fun σ' H' ⟨ad3, sc3, C3, z1, z2, z3, z4⟩ => ⟨ds.length - (i + 1), by omega, ad3, sc3, C3, z1, z2, z3, rfl, hlt, z4⟩, fun x H3 y => ?_⟩
    obtain ⟨ad3, E3, hh3, rd⟩ := j2 x H3 y
    cases eg : g ds[i] sc2 with
    | none => rw [eg] at q2; exact q2.elim
    | some sc3 =>
      rw [eg] at q2
      simp only [optS_some] at q2
      refine ⟨ad3, sc2, C2, ds[i], sc3, hs2.mono E3, hh3, rd, eg, fun σ3 s3 _ => ⟨ad3, sc3, C2, s3, hh3, ?_⟩⟩
      cases eb : b sc3 C2 with
      | nx sc4 C4 =>
        rw [eb] at q2
        intro σ4 H4 ⟨ad4, E4, hh4, s4⟩
        exact ⟨ad4, sc4, C4, E2.trans (E3.trans E4), s4, hh4, q2.later (E3.trans E4)⟩
      | ct sc4 C4 =>
        rw [eb] at q2
        intro σ4 H4 ⟨ad4, E4, hh4, s4⟩
        exact ⟨ad4, sc4, C4, E2.trans (E3.trans E4), s4, hh4, q2.later (E3.trans E4)⟩
      | bk sc4 C4 => rw [eb] at q2; exact SPo.later E3 (o := .nx sc4 C4) q2
      | rt d C4 => rw [eb] at q2; exact SPo.later E3 q2
      | ex x sc4 C4 => rw [eb] at q2; exact SPo.later E3 q2
      | bad => rw [eb] at q2; exact q2.elim
  · have e : i = ds.length := by omega
    subst e
    rw [List.drop_length, fr, if_pos hchk] at q2
    exact .inl ⟨w2, q2 σ2 H2 (.intro hh2 hs2)⟩
end
end Cl
set_option maxHeartbeats 4000000
/-! Cl, part H: comprehensions; defs, their calls, the law's end. -/
namespace Cl
open PySem PySem.Spec L2

/-! ### list comprehensions -/
def Ctx.blk {k : Nat} {X : Cx} {W : WX} (c : Ctx k X W) (s : Shared) (H : Hp) (scope : Scope) (cenv : Env) (fp : List Addr) : Ctx k (X.blk s H scope cenv fp) (fun _ _ _ _ => False) :=
  ⟨takes0, c.calm, c.room, c.gd, c.nd, PassesOwn.never⟩
def wipeD (sc : Sc) : List Nat → Sc
  | [] => sc
  | v :: vs => (wipeD sc vs).set v none
theorem SRel.wipe {K : PySem.W.Frag} {ad : List Addr} {H : Hp} {sc : Sc} {σ : L2.St} (h : SRel K ad H sc σ) : ∀ vs : List Nat, SRel K ad H (wipeD sc vs) (wipe σ vs)
  | [] => h
  | v :: vs => (SRel.wipe h vs).unset v
theorem wipe_at (σ : L2.St) (j : Nat) : ∀ vs : List Nat, (wipe σ vs)[j]? = if j ∈ vs then (σ[j]?).map (fun _ => none) else σ[j]?
  | [] => by simp [wipe]
  | v :: vs => by
    unfold wipe
    by_cases h : j = v
    · subst h
      rw [if_pos (List.mem_cons_self)]
      by_cases hl : j < σ.length
      · rw [List.getElem?_set_self (by rw [wipe_length]; exact hl), List.getElem?_eq_getElem hl]; rfl
      · rw [List.getElem?_eq_none (by rw [List.length_set, wipe_length]; omega), List.getElem?_eq_none (by omega)]; rfl
    · rw [List.getElem?_set_ne (Ne.symm h), wipe_at σ j vs]
      by_cases h2 : j ∈ vs
      · rw [if_pos h2, if_pos (List.mem_cons_of_mem _ h2)]
      · rw [if_neg h2, if_neg (fun z => (List.mem_cons.mp z).elim h h2)]
theorem wipe_same {σ τ : L2.St} {vs : List Nat} (hl : τ.length = σ.length) (h : ∀ j, j ∉ vs → τ[j]? = (wipe σ vs)[j]?) : wipe τ vs = wipe σ vs := by
  apply List.ext_getElem?
  intro j
  by_cases hj : j ∈ vs
  · rw [wipe_at, wipe_at, if_pos hj, if_pos hj]
    by_cases z : j < σ.length
    · rw [List.getElem?_eq_getElem z, List.getElem?_eq_getElem (by omega)]; rfl
    · rw [List.getElem?_eq_none (by omega), List.getElem?_eq_none (by omega)]
  · rw [wipe_at, if_neg hj, h j hj]
def Res.opt {α : Type} : Res α → Option (α × CH)
  | .ok a C => some (a, C)
  | _ => none
@[simp] theorem Res.opt_ok {α : Type} (a : α) (C : CH) : (Res.ok a C).opt = some (a, C) := rfl
theorem opt_inv {α : Type} {r : Res α} {a : α} {C : CH} (h : r.opt = some (a, C)) : r = .ok a C := by
  cases r with
  | ok b C' => cases h; rfl
  | ex x C' => cases h
  | bad => cases h
/-- y put behind the list n -/
def pushD (n : Nat) (y : D) (C : CH) : Option CH := match C[n]? with
  | some (.lst acc) => if acc.length ≤ 1000000 then some (C.set n (.lst (acc ++ [y]))) else none
  | _ => none
open Classical in
noncomputable def lc (chk : CH → Prop) (g : Fg) (t : Ft) (f : Fe) (n : Nat) (sc : Sc) : List D → CH → Option (D × CH)
  | [], C => if chk C then some (.ref n, C) else none
  | d :: ds, C => if chk C then (g d sc).bind fun sc1 => (t sc1 C).opt.bind fun b => if b.1 = true then (f sc1 b.2).opt.bind fun y => (pushD n y.1 y.2).bind fun C3 => lc chk g t f n sc ds C3
      else lc chk g t f n sc ds b.2 else none
noncomputable def dLc (fi : Fi) (g : Fg) (t : Ft) (f : Fe) (vs : List Nat) : Fe := fun sc C => (fi sc C).bind fun S C1 => .lift (lc S.chk g t f C1.length (wipeD sc vs) S.ds (C1 ++ [.lst []]))
def dYes : Ft := fun _ C => .ok true C
abbrev CTs (X : Cx) (W : WX) (ifs : List Expr) (f : Ft) : Prop := PTs X ifs (tT X.K W f)
theorem PTs_imp {X : Cx} {e : List Expr} {t t' : TT} (h : PTs X e t) (i : ∀ σ H Q, t' σ H Q → t σ H Q) : PTs X e t' := ⟨fun pins s σ H Q I z => h.run pins s σ H Q I (i σ H Q z)⟩
theorem bind_inv {α β : Type} {o : Option α} {f : α → Option β} {b : β} (h : o.bind f = some b) : ∃ a, o = some a ∧ f a = some b := by
  cases o with
  | none => cases h
  | some a => exact ⟨a, rfl, h⟩
section
variable {k : Nat} {X : Cx} {W : WX} {pos : Pos}
theorem ctsN : CTs X W [] dYes := PTs_imp pts_nil fun σ H Q ⟨ad, sc, C, hs, hh, h⟩ => h H (.intro hh trivial)
theorem ctsO {c : Expr} {f : Ft} (h : CT X W c f) : CTs X W [c] f := pts_one h
abbrev W0 : WX := fun _ _ _ _ => False
theorem lc_in {K : PySem.W.Frag} {W : WX} {fi : Fi} {g : Fg} {t : Ft} {f : Fe} {is vs : List Nat} {σ : L2.St} {H : Hp} {Q : VK} (hv : ∀ j ∈ is, j ∈ vs) (h : tE K W (dLc fi g t f vs) σ H Q) : tLc (tI K W fi) (tG K is g) (tT K W0 t) (tE K W0 f) vs σ H Q := by
  obtain ⟨ad, sc, C, hs, hh, h⟩ := h
  refine ⟨ad, sc, C, hs, hh, ?_⟩
  have h : RP K W ad H σ ((fi sc C).bind fun S C1 => .lift (lc S.chk g t f C1.length (wipeD sc vs) S.ds (C1 ++ [.lst []]))) _ := h
  refine (h.bind).imp fun S C1 q J H1 ⟨ad1, E1, hh1, wk⟩ Dn hD => ?_
  obtain ⟨ds, chk⟩ := S
  obtain ⟨z, Cz, ez, hQ⟩ := RP.lift q
  refine ⟨fun i m H2 => ∃ ad2 C2, Ext (ad1 ++ [Dn]) (upd H1 Dn (.lst [])) ad2 H2 ∧ HRel K ad2 H2 C2 ∧ m = ds.length - i ∧ i ≤ ds.length ∧ lc chk g t f C1.length (wipeD sc vs) (ds.drop i) C2 = some (z, Cz),
    ⟨ds.length, ad1 ++ [Dn], C1 ++ [.lst []], .refl _ _, hh1.alloc (o := .lst []) hD ⟨[], rfl, .nil⟩, by simp, Nat.zero_le _, by rw [List.drop_zero]; exact ez⟩, ?_⟩
  rintro i m H2 ⟨ad2, C2, E2, hh2, rfl, hi2, q2⟩
  have E0 : Ext ad1 H1 ad2 H2 := (ext_alloc hD).trans E2
  have hchk : chk C2 := by
    apply Classical.byContradiction
    intro z
    cases e : ds.drop i with
    | nil => rw [e, lc, if_neg z] at q2; cases q2
    | cons d r => rw [e, lc, if_neg z] at q2; cases q2
  have hDn : ad2[C1.length]? = some Dn := E2.pre _ _ (alloc_at hh1)
  obtain ⟨w1, w2⟩ := wk ad2 H2 C2 E0 hh2 hchk
  by_cases hlt : i < ds.length
  · have e : ds.drop i = ds[i] :: ds.drop (i + 1) := List.drop_eq_getElem_cons hlt
    rw [e, lc, if_pos hchk] at q2
    obtain ⟨sc3, eg, q2⟩ := bind_inv q2
    obtain ⟨⟨b, C3⟩, et, q2⟩ := bind_inv q2
    have et := opt_inv et
    dsimp only at q2
    obtain ⟨j1, j2⟩ := w1 i ds[i] (List.getElem?_eq_getElem hlt)
    refine .inr ⟨j1, fun H' => ∃ ad2 C2, Ext (ad1 ++ [Dn]) (upd H1 Dn (.lst [])) ad2 H' ∧ HRel K ad2 H' C2 ∧ lc chk g t f C1.length (wipeD sc vs) (ds.drop (i + 1)) C2 = some (z, Cz),
      fun H' ⟨ad3, C3, z1, z2, z4⟩ => ⟨ds.length - (i + 1), by omega, ad3, C3, z1, z2, rfl, hlt, z4⟩, fun x H3 y => ?_⟩
    obtain ⟨ad3, E3, hh3, rd⟩ := j2 x H3 y
    refine ⟨ad3, wipeD sc vs, C2, ds[i], sc3, (hs.mono (E1.trans (E0.trans E3))).wipe vs, hh3, rd, eg, fun σ3 s3 k3 => ⟨wipe_same (by rw [k3.1, wipe_length]) fun j hj => k3.2 j fun z => hj (hv j z), ad3, sc3, C2, s3, hh3, ?_⟩⟩
    rw [et]
    intro H4 ⟨ad4, E4, hh4, _⟩
    cases b with
    | false =>
      rw [if_neg Bool.false_ne_true] at q2 ⊢
      exact ⟨ad4, C3, E2.trans (E3.trans E4), hh4, q2⟩
    | true =>
      rw [if_pos rfl] at q2 ⊢
      obtain ⟨⟨y, C4⟩, ef, q2⟩ := bind_inv q2
      have ef := opt_inv ef
      obtain ⟨C5, ep, q2⟩ := bind_inv q2
      refine ⟨ad4, sc3, C3, s3.mono E4, hh4, ?_⟩
      rw [ef]
      intro v H5 ⟨ad5, E5, hh5, r5⟩
      have EE : Ext (ad1 ++ [Dn]) (upd H1 Dn (.lst [])) ad5 H5 := E2.trans (E3.trans (E4.trans E5))
      have hD5 : ad5[C1.length]? = some Dn := EE.pre _ _ (alloc_at hh1)
      unfold pushD at ep
      split at ep
      · rename_i acc ea
        split at ep
        · rename_i hz
          cases ep
          obtain ⟨u, h1, ws, rfl, rr⟩ := hh5.obj _ _ _ ea hD5
          have E6 := ext_set hh5 ea hD5 (u := .lst (ws ++ [v]))
          exact ⟨ws, h1, by rw [← rr.length]; exact mil2 hz, ad5, _, EE.trans E6, hh5.set (o' := .lst (acc ++ [y])) ea hD5 ⟨_, rfl, (rr.mono E6).append (.one (r5.mono E6))⟩, q2⟩
        · cases ep
      · cases ep
  · have e : i = ds.length := by omega
    subst e
    rw [List.drop_length, lc, if_pos hchk] at q2
    cases q2
    exact .inl ⟨w2, hQ _ H2 ⟨ad2, E1.trans E0, hh2, .ref hDn⟩⟩
variable {elt tg iter : Expr} {ifs : List Expr} {scope : Scope} {fi : Fi} {g : Fg} {t : Ft} {f : Fe} {is : List Nat}
theorem cLc (own : List (Str × Nat)) (c : Ctx k X W) (hi : CI X W tg iter fi) (ok : BlkOk X.N X.env.scope scope own)
    (hg : ∀ (s : Shared) (H : Hp) (C : Addr) (cl : List (Str × Addr)) (fp : List Addr), Ctx k (X.blk s H scope (compEnvC scope cl C X.env) fp) W0 → CGt (X.blk s H scope (compEnvC scope cl C X.env) fp) tg is g)
    (ht : ∀ (s : Shared) (H : Hp) (C : Addr) (cl : List (Str × Addr)) (fp : List Addr), Ctx k (X.blk s H scope (compEnvC scope cl C X.env) fp) W0 → CTs (X.blk s H scope (compEnvC scope cl C X.env) fp) W0 ifs t)
    (he : ∀ (s : Shared) (H : Hp) (C : Addr) (cl : List (Str × Addr)) (fp : List Addr), Ctx k (X.blk s H scope (compEnvC scope cl C X.env) fp) W0 → CE (X.blk s H scope (compEnvC scope cl C X.env) fp) W0 elt f)
    (hv : ∀ j ∈ is, j ∈ own.map (·.2) := by decide) (hs : ∀ x, foldedSetIterable iter X.env x = pure x := by intro _; rfl) : CE X W (.ListComp elt [⟨tg, iter, ifs, 0⟩] scope pos) (dLc fi g t f (own.map (·.2))) :=
  PE_imp (pe_lc (g := tG X.K is g) (tt := tT X.K W0 t) (te := tE X.K W0 f) c.calm c.nd hi ok (fun s H C cl fp => hg s H C cl fp (c.blk s H scope _ fp)) (fun s H C cl fp => ht s H C cl fp (c.blk s H scope _ fp)) (fun s H C cl fp => he s H C cl fp (c.blk s H scope _ fp)) hs) fun _ _ _ h => lc_in hv h
theorem csLc {y : Str} {py' spos : Pos} (i : Nat) (own : List (Str × Nat)) (c : Ctx k X W) (hsw : swapsWith (.ListComp elt [⟨tg, iter, ifs, 0⟩] scope pos) (some (.Name y py')) spos.line X.env = pure true) (hi : CI X W tg iter fi) (ok : BlkOk X.N X.env.scope scope own)
    (hg : ∀ (s : Shared) (H : Hp) (C : Addr) (cl : List (Str × Addr)) (fp : List Addr), Ctx k (X.blk s H scope (compEnvC scope cl C X.env) fp) W0 → CGt (X.blk s H scope (compEnvC scope cl C X.env) fp) tg is g)
    (ht : ∀ (s : Shared) (H : Hp) (C : Addr) (cl : List (Str × Addr)) (fp : List Addr), Ctx k (X.blk s H scope (compEnvC scope cl C X.env) fp) W0 → CTs (X.blk s H scope (compEnvC scope cl C X.env) fp) W0 ifs t)
    (he : ∀ (s : Shared) (H : Hp) (C : Addr) (cl : List (Str × Addr)) (fp : List Addr), Ctx k (X.blk s H scope (compEnvC scope cl C X.env) fp) W0 → CE (X.blk s H scope (compEnvC scope cl C X.env) fp) W0 elt f)
    (hy : X.N[i]? = some y := by rfl) (hyl : X.env.scope.names.lookup y = some .local := by rfl) (hv : ∀ j ∈ is, j ∈ own.map (·.2) := by decide) (hs : ∀ x, foldedSetIterable iter X.env x = pure x := by intro _; rfl) :
    CS X W (.Assign [.Name y py'] (.ListComp elt [⟨tg, iter, ifs, 0⟩] scope pos) spos) (sAsg (gN i) (dLc fi g t f (own.map (·.2)))) := by
  refine PS_imp (ps_setLc (g := tG X.K is g) (tt := tT X.K W0 t) (te := tE X.K W0 f) c.calm c.nd hy hyl hsw hi ok (fun s H C cl fp => hg s H C cl fp (c.blk s H scope _ fp)) (fun s H C cl fp => ht s H C cl fp (c.blk s H scope _ fp)) (fun s H C cl fp => he s H C cl fp (c.blk s H scope _ fp)) hs) fun D σ H ⟨ad, sc, C, hs, hh, h⟩ => ?_
  refine lc_in (W := W) hv (sE_bind hs hh (.refl _ _) h fun d C1 ad1 H1 v E1 hs1 hh1 r1 h1 => ?_)
  exact h1 _ H1 ⟨ad1, E1, hh1, hs1.set i r1⟩
end
end Cl
set_option maxHeartbeats 4000000
/-! Cl, part I: defs, their calls, the law's end. -/
namespace Cl
open PySem PySem.Spec L2

/-- the promise of a def that does what F does -/
def spC (K : PySem.W.Frag) (n : Nat) (F : List D → CH → Res D) : Sp := fun vs H Q E => ∃ ad C ds, HRel K ad H C ∧ Rls K ad H ds vs ∧ vs.length = n ∧
  RP K (fun c d _ H' => E c d H') ad H [] (F ds C) fun d C' => ∀ v H', Aft K ad H C' (fun ad' H' => Rl K ad' H' d v) H' → Q v H'
/-- the def at f does what F does (room k; no repr is running) -/
structure FnG (P : Program) (w : World) (K : PySem.W.Frag) (mg : Str → Option Value) (base : Heap) (k : Nat) (f : Addr) (fd : FuncData) (ps : List Str) (F : List D → CH → Res D) : Prop where
  run : ∀ (A : Around) (outer : List Env) (s : Shared) (H : Hp) (args : Args) (us : List Value) (vs : List V) (Q : VK) (E : XK), Room k A → A.guards = some [] → Env0 P w K mg base A outer s H →
    BindsTo s fd args (ps.zip us) → Vals vs us → spC K ps.length F vs H Q E → codeAny (model P w) A (.call (.ref f) args) (CR (L2.CX P w) outer P w H s Q E) s
section
variable {P : Program} {w : World} {K : PySem.W.Frag} {mg : Str → Option Value} {base : Heap} {f : Addr} {fd : FuncData} {ps : List Str} {F F' : List D → CH → Res D}
theorem FnG.mono {j k : Nat} (x : FnG P w K mg base j f fd ps F) (h : j ≤ k) : FnG P w K mg base k f fd ps F :=
  ⟨fun A outer s H args us vs Q E hr => x.run A outer s H args us vs Q E (hr.mono h)⟩
/-- the value of a body -/
def bodyOut : SOut → Res D
  | .nx _ C => .ok .non C
  | .rt d C => .ok d C
  | .ex x _ C => .ex x C
  | _ => .bad
def startD (n : Nat) (ds : List D) : Sc := ds.map some ++ List.replicate (n - ds.length) none
def fnBody (n : Nat) (g : Fs) : List D → CH → Res D := fun ds C => bodyOut (g (startD n ds) C)
theorem start_rel {ad : List Addr} {H : Hp} {N : List Str} {ds : List D} {vs : List V} (r : Rls K ad H ds vs) : SRel K ad H (startD N.length ds) (L2.start N vs) := by
  unfold startD L2.start
  refine ⟨by simp [r.length], fun i d e => ?_⟩
  rw [List.getElem?_append] at e
  split at e
  · rename_i hi
    rw [List.length_map] at hi
    rw [List.getElem?_map] at e
    cases q : ds[i]? with
    | none => rw [q] at e; cases e
    | some d' =>
      rw [q] at e
      cases e
      obtain ⟨v, e1, rv⟩ := r.get q
      refine ⟨v, ?_, rv⟩
      rw [List.getElem?_append_left (by rw [List.length_map, ← r.length]; exact hi), List.getElem?_map, e1]
      rfl
  · rw [List.getElem?_replicate] at e
    split at e <;> cases e
theorem spC_body {N : List Str} {g : Fs} {vs : List V} {H : Hp} {Q : VK} {E : XK} {n : Nat} (h : spC K n (fnBody N.length g) vs H Q E) :
    tS K (fun c d _ H' => E c d H') g { nx := fun _ H' => Q .non H', rt := Q } (L2.start N vs) H := by
  obtain ⟨ad, C, ds, hh, r, hl, h⟩ := h
  refine ⟨ad, _, C, start_rel r, hh, ?_⟩
  have h : RP K (fun c d _ H' => E c d H') ad H [] (bodyOut (g (startD N.length ds) C)) _ := h
  cases e : g (startD N.length ds) C with
  | nx sc' C' => rw [e] at h; exact fun σ' H' ⟨ad', E', h', _⟩ => h .non H' ⟨ad', E', h', .non⟩
  | rt d C' => rw [e] at h; exact h
  | bk sc' C' => rw [e] at h; exact h.elim
  | ct sc' C' => rw [e] at h; exact h.elim
  | ex x sc' C' =>
    rw [e] at h
    intro c d σ' H' e1 ⟨ad', E', h', xf, _⟩
    exact h c d H' ⟨e1, ad', E', h', xf⟩
  | bad => rw [e] at h; exact h.elim
/-- a def of the text, by its body -/
theorem FnG.of {x qual : Str} {st : Stmt} {N : List Str} {k : Nat} {g : Fs} (Fu : Fun K x qual st f fd) (S : FnScope N ps (defScope st))
    (hb : ∀ (cdv : Value) (A : Around) (outer : List Env) (s : Shared) (H : Hp) (E : XK), Ctx k (cxOf (L2.CX P w) P w K mg base N qual (defScope st) f cdv A outer s H E) (fun c d _ H' => E c d H') →
      CSs (cxOf (L2.CX P w) P w K mg base N qual (defScope st) f cdv A outer s H E) (fun c d _ H' => E c d H') (defBody st) g) : FnG P w K mg base (k + 1) f fd ps (fnBody N.length g) := by
  obtain ⟨oc, od, kV, doc, pm, an, cdv, ct, osl, e0, lk, hcd⟩ := Fu.ex
  subst e0
  constructor
  intro A outer s H args us vs Q E hr hg en hbd rv hsp
  have hlen : vs.length = ps.length := by obtain ⟨_, _, _, _, _, z, _⟩ := hsp; exact z
  have inK : K.In s.heap := en.mod.kin.keeps fun b o e => (en.bs b o e).1
  have inL : s.heap.NoLimit := en.mod.nolimit.keeps fun b o e => (en.bs b o e).1
  have kinds : ∀ y ∈ ps.zip us, (defScope st).names.lookup y.1 = some .local ∨ ((defScope st).names.lookup y.1 = some .cell ∧ ((cellsFrom (s.heap.objs.size + 1) (defScope st).names []).lookup y.1).isSome = true) := by
    intro y hy
    have hm : y.1 ∈ ps := (List.of_mem_zip (a := y.1) (b := y.2) hy).1
    cases S.par y.1 hm with
    | inl q => exact Or.inl q
    | inr q => exact Or.inr (And.intro q (PySem.W.cellsFrom_some _ _ _ (Or.inl q)))
  apply codeAny_call_function hr.depth (inK _ _ lk) rfl S.co S.gen rfl (PySem.W.codeRec_of inK hcd)
  apply hbd
  apply wpAny_newFunctionEnv_cells S.kind kinds
  intro env e1 s1 inc
  subst e1
  constructor
  · exact inL.keeps inc.toInCall.keep
  apply codeAny_func
  have cx : Ctx k (cxOf (L2.CX P w) P w K mg base N qual (defScope st) f cdv A outer s H E) (fun c d _ H' => E c d H') :=
    ⟨takes_of rfl rfl rfl rfl, rfl, hr.deeper _, hg, S.nd, passes_of rfl⟩
  have I : Inv (cxOf (L2.CX P w) P w K mg base N qual (defScope st) f cdv A outer s H E) [] (L2.start N vs) H s1 := inv_start S hr.hd en hlen rv inc
  have body := (hb cdv A outer s H E cx).run [] s1 (L2.start N vs) H { nx := fun _ H' => Q .non H', rt := Q } I (spC_body hsp)
  refine wpAny_mono body ?_ fun _ _ z => z
  intro fl s' hs
  cases fl with
  | ret u => obtain ⟨v, σ', H', J, r', q⟩ := hs; exact ⟨v, H', J.os, J.bare, J.base, J.hok, r', q⟩
  | next => obtain ⟨σ', H', J, q⟩ := hs; exact ⟨.non, H', J.os, J.bare, J.base, J.hok, rfl, q⟩
  | brk => obtain ⟨_, _, _, q⟩ := hs; exact absurd q id
  | cont => obtain ⟨_, _, _, q⟩ := hs; exact absurd q id

/-! ### the objects of a call forgotten behind it -/
mutual
def D.bel (k : Nat) : D → Bool
  | .ref n => decide (n < k)
  | .tup ds => bels k ds
  | .fl ds => bels k ds
  | .xc _ _ _ ds => bels k ds
  | _ => true
def bels (k : Nat) : List D → Bool
  | [] => true
  | d :: ds => d.bel k && bels k ds
end
def belK {κ : Type} (k : Nat) (kvs : List (κ × D)) : Bool := kvs.all fun kv => kv.2.bel k
def O.bel (k : Nat) : O → Bool
  | .lst ds => bels k ds
  | .dK kvs => belK k kvs
  | .dT kvs => belK k kvs
def Wf (C : CH) : Prop := ∀ o ∈ C, o.bel C.length = true
mutual
theorem Rl.bel {ad : List Addr} {H : Hp} : ∀ {d : D} {v : V}, Rl K ad H d v → d.bel ad.length = true
  | _, _, .non => by simp only [D.bel]
  | _, _, .bl b => by simp only [D.bel]
  | _, _, .int i => by simp only [D.bel]
  | _, _, .str x => by simp only [D.bel]
  | _, _, .tup h r => by rw [D.bel]; exact Rls.bel r
  | _, _, .fl h r => by rw [D.bel]; exact Rls.bel r
  | _, _, .ref h => by rw [D.bel]; exact decide_eq_true (List.getElem?_eq_some_iff.mp h).1
  | _, _, .v x => by simp only [D.bel]
  | _, _, .xc h e r => by rw [D.bel]; exact Rls.bel r
theorem Rls.bel {ad : List Addr} {H : Hp} : ∀ {ds : List D} {vs : List V}, Rls K ad H ds vs → bels ad.length ds = true
  | _, _, .nil => by simp only [bels]
  | _, _, .cons r t => by rw [bels, Rl.bel r, Rls.bel t]; rfl
end
mutual
theorem Rl.cut {ad : List Addr} {H : Hp} {k : Nat} : ∀ {d : D} {v : V}, Rl K ad H d v → d.bel k = true → Rl K (ad.take k) H d v
  | _, _, .non, _ => .non
  | _, _, .bl b, _ => .bl b
  | _, _, .int i, _ => .int i
  | _, _, .str x, _ => .str x
  | _, _, .tup h r, b => .tup h (Rls.cut r (by rw [D.bel] at b; exact b))
  | _, _, .fl h r, b => .fl h (Rls.cut r (by rw [D.bel] at b; exact b))
  | _, _, .ref h, b => .ref (by rw [D.bel] at b; rw [List.getElem?_take, if_pos (of_decide_eq_true b)]; exact h)
  | _, _, .v x, _ => .v x
  | _, _, .xc h e r, b => .xc h e (Rls.cut r (by rw [D.bel] at b; exact b))
theorem Rls.cut {ad : List Addr} {H : Hp} {k : Nat} : ∀ {ds : List D} {vs : List V}, Rls K ad H ds vs → bels k ds = true → Rls K (ad.take k) H ds vs
  | _, _, .nil, _ => .nil
  | _, _, .cons r t, b => by
    rw [bels, Bool.and_eq_true] at b
    exact .cons (Rl.cut r b.1) (Rls.cut t b.2)
end
theorem KR.bel {κ : Type} {ad : List Addr} {H : Hp} {xs : List (κ × D)} {ys : List (κ × V)} (h : KR K ad H xs ys) : belK ad.length xs = true := by
  unfold belK
  induction h with
  | nil => rfl
  | cons r t ih => rw [List.all_cons, r.2.bel, ih]; rfl
theorem KR.cut {κ : Type} {ad : List Addr} {H : Hp} {k : Nat} {xs : List (κ × D)} {ys : List (κ × V)} (h : KR K ad H xs ys) (b : belK k xs = true) : KR K (ad.take k) H xs ys := by
  unfold belK at b
  induction h with
  | nil => exact .nil
  | cons r t ih =>
    rw [List.all_cons, Bool.and_eq_true] at b
    exact .cons ⟨r.1, r.2.cut b.1⟩ (ih b.2)
theorem OR.bel {ad : List Addr} {H : Hp} {o : O} {u : HO} (h : OR K ad H o u) : o.bel ad.length = true := by
  cases o with
  | lst ds => obtain ⟨vs, _, r⟩ := h; exact r.bel
  | dK ds => obtain ⟨vs, _, r⟩ := h; exact KR.bel r
  | dT ds => obtain ⟨vs, _, r⟩ := h; exact KR.bel r
theorem OR.cut {ad : List Addr} {H : Hp} {k : Nat} {o : O} {u : HO} (h : OR K ad H o u) (b : o.bel k = true) : OR K (ad.take k) H o u := by
  cases o with
  | lst ds => obtain ⟨vs, e, r⟩ := h; exact ⟨vs, e, r.cut b⟩
  | dK ds => obtain ⟨vs, e, r⟩ := h; exact ⟨vs, e, KR.cut r b⟩
  | dT ds => obtain ⟨vs, e, r⟩ := h; exact ⟨vs, e, KR.cut r b⟩
theorem HRel.wf {ad : List Addr} {H : Hp} {C : CH} (h : HRel K ad H C) : Wf C := fun o ho => by
  obtain ⟨n, hn, e⟩ := List.mem_iff_getElem.mp ho
  obtain ⟨a, u, e1, e2, r⟩ := h.at (n := n) (o := o) (by rw [← e]; exact List.getElem?_eq_getElem hn)
  rw [← h.len]
  exact r.bel
/-- r' is r, or r with the newest objects forgotten that nothing leads to -/
def Cuts (C : CH) (r r' : Res D) : Prop := r' = .bad ∨ r = r' ∨ ∃ d C2 k, r = .ok d C2 ∧ r' = .ok d (C2.take k) ∧ C.length ≤ k ∧ d.bel k = true ∧ ∀ o ∈ C2.take k, o.bel k = true
theorem FnG.spec {k : Nat} (x : FnG P w K mg base k f fd ps F) (h : ∀ ds C, Wf C → bels C.length ds = true → ds.length = ps.length → Cuts C (F ds C) (F' ds C)) : FnG P w K mg base k f fd ps F' := by
  refine ⟨fun A outer s H args us vs Q E hr hg en hb rv sp => x.run A outer s H args us vs Q E hr hg en hb rv ?_⟩
  obtain ⟨ad, C, ds, hh, r, hl, q⟩ := sp
  refine ⟨ad, C, ds, hh, r, hl, ?_⟩
  rcases h ds C hh.wf (by rw [← hh.len]; exact r.bel) (by rw [r.length]; exact hl) with e | e | ⟨d, C2, k, e1, e2, hk, b1, b2⟩
  · rw [e] at q; exact q.elim
  · rw [e]; exact q
  · rw [e2] at q
    rw [e1]
    intro v H' ⟨ad', E', h', r'⟩
    refine q v H' ⟨ad'.take k, ⟨fun n a z => ?_, E'.tup, E'.frz, E'.xd⟩, h'.cut k fun n o u hn e z => z.cut (b2 o ?_), r'.cut b1⟩
    · have hn : n < k := Nat.lt_of_lt_of_le (by rw [← hh.len]; exact (List.getElem?_eq_some_iff.mp z).1) hk
      rw [List.getElem?_take, if_pos hn]
      exact E'.pre n a z
    · refine List.mem_iff_getElem?.mpr ⟨n, ?_⟩
      rw [List.getElem?_take, if_pos hn]
      exact e
end

/-! ### calls -/
def dCall (n : Nat) (F : List D → CH → Res D) (fs : Fa) : Fe := fun sc C => (fs sc C).bind fun ds C1 => if ds.length = n then F ds C1 else .bad
section
variable {k j : Nat} {X : Cx} {W : WX} {f : Addr} {fd : FuncData} {ps : List Str} {F : List D → CH → Res D} {x : Str} {p pos : Pos} {e : Expr} {es : List Expr} {fs : Fa}
theorem call_in {pins : List (Addr × Obj)} {σ : L2.St} {H : Hp} {s : Shared} {Q : VK} {us : List Value} {vs : List V} (G : FnG X.prog X.w X.K X.mg X.base j f fd ps F) (c : Ctx k X W) (hj : j ≤ k) (hb : Binds X.K fd ps []) (I : Inv X pins σ H s) (rv : Vals vs us)
    (h : spC X.K ps.length F vs H Q (fun cl d H' => W cl d σ H')) : wpAny (model X.prog X.w) X.A (call (.ref f) us) (EP X pins σ Q) X.xe s := by
  have hl : us.length = ps.length := by
    obtain ⟨_, _, _, _, _, z, _⟩ := h
    rw [← rv.length]; exact z
  have b0 := hb s us I.kIn (by rw [List.append_nil]; exact hl)
  rw [List.append_nil] at b0
  have run := G.run X.A X.stack s H ⟨us, []⟩ us vs Q (fun cl d H' => W cl d σ H') (c.room.mono hj) c.gd I.env0 b0 rv h
  refine wpAny_call (codeAny_mono run ?_)
  intro r s' hq
  cases r with
  | error er => exact c.tk er s' (XE.of_call I (fun _ _ _ z => z) hq)
  | ok fl =>
    cases fl with
    | ret u => exact Inv.after I hq
    | next => exact absurd hq id
    | brk => exact absurd hq id
    | cont => exact absurd hq id
/-- f(e, ..) -/
theorem cCall (c : Ctx k X W) (G : FnG X.prog X.w X.K X.mg X.base j f fd ps F) (hj : j ≤ k) (hm : X.mg x = some (.ref f)) (hk : PySem.W.keepIn X.K (.ref f) = true) (hb : Binds X.K fd ps []) (ha : CA X W (e :: es) fs) (n : Nat) (hn : ps.length = n := by rfl)
    (hg : Gl X x := by rfl) (hdb : (x == ("__debug__" : Str)) = false := by decide) (he : starEach (e :: es) X.env = (false, eval e X.env) :: starEach es X.env := by rfl) (hpl : (backTo pos (starEach es X.env)).any (·.1) = false := by rfl) :
    CE X W (.Call (.Name x p) (e :: es) [] pos) (dCall n F fs) := by
  constructor
  intro pins s σ H Q I h
  refine wpAny_Call_Name_kw (ld_glob I hg hm ?_ hdb)
  refine PySem.W.callWith_K (h₀ := X.base) I.ok.mod.kin hk ?_ he hpl
  obtain ⟨ad, sc, C, hs, hh, h⟩ := h
  have key : tA X.K W fs σ H fun vs H1 => spC X.K ps.length F vs H1 Q (fun cl d H' => W cl d σ H') := by
    refine tA_bind hs hh (.refl _ _) h fun ds C1 ad1 H1 vs E1 hs1 hh1 r1 h1 => ?_
    by_cases hl : ds.length = n
    · rw [if_pos hl] at h1
      refine ⟨ad1, C1, ds, hh1, r1, by rw [← r1.length, hn]; exact hl, ?_⟩
      cases e5 : F ds C1 with
      | ok d C2 => rw [e5] at h1; exact fun v H' a => h1 v H' (a.trans E1)
      | ex y C2 => rw [e5] at h1; exact fun c d H' ⟨z, a⟩ => h1 c d H' ⟨z, a.trans E1⟩
      | bad => rw [e5] at h1; exact h1
    · rw [if_neg hl] at h1
      exact h1.elim
  refine thn (ha.run pos pins s σ H _ I key) ?_
  intro us s1 hq
  obtain ⟨vs, H1, I1, rv, q⟩ := hq
  exact ⟨I1.kIn, call_in G c hj hb I1 rv q⟩
end
end Cl
set_option maxHeartbeats 4000000
/-! Cl, part J: the law's end. -/
namespace Cl
open PySem PySem.Spec L2
open PyProof.Rows (AllBare IntsAre)

def intsD (ns : List Int) : List D := ns.map D.int
theorem intsD_rel {K : PySem.W.Frag} {ad : List Addr} {H : Hp} : ∀ ns : List Int, Rls K ad H (intsD ns) (ns.map V.int)
  | [] => .nil
  | n :: ns => .cons (.int n) (intsD_rel ns)
theorem hrel_nil {K : PySem.W.Frag} {H : Hp} : HRel K [] H [] := ⟨rfl, fun n o a e => by simp at e, fun n m a e => by simp at e⟩
section
variable {P : Program} {w : World} {K : PySem.W.Frag} {mg mb : Str → Option Value} {k : Nat} {fa a : Addr} {fd : FuncData} {x : Str} {F : List D → CH → Res D} {s1 : Shared} {vs : List Value} {ns : List Int}
/-- from an abstract heap that tracks at most the script, as a known one -/
theorem law_from {H : Hp} (inK : K.In s1.heap) (hns : s1.heap.Ns mainGlobals mg) (hb : s1.heap.Ns builtinsNs mb) (hbb : ∀ x : Str, x ≠ "__name__" → mb x = bootBuiltins x) (hlim : s1.heap.NoLimit) (hg : s1.gens = #[])
    (ha : s1.heap.get? a = some { cls := .type "list", data := .seq vs.toArray }) (hr : Room k callerA) (G : ∀ base : Heap, K.In base → base.Ns mainGlobals mg → FnG P w K mg base k fa fd [x] F)
    (hbind : ∀ (s : Shared) (u : Value), BindsTo s fd ⟨[u], []⟩ [(x, u)]) (ok : ∃ C, F [.fl (intsD ns)] [] = .ok (.bl true) C)
    (hH : ∀ b u, H b = some u → b = a ∧ K.lookup a = none ∧ u = .frz { cls := .type "list", data := .seq vs.toArray } (.lst (ns.map V.int))) (hk : HOk P w H s1.heap) (hz : Fz K H a (ns.map V.int)) :
    codeAny (model P w) callerA (.call (.ref fa) ⟨[.ref a], []⟩) (fun r s' => r = .ok (.ret (.bool true)) ∧ OldK s1.heap s'.heap ∧ s'.os = s1.os ∧ AllBare s'.gens) s1 := by
  have nodict : ∀ {b : Addr} {o : Obj} {es : Array DictEntry} {ep : Nat}, s1.heap.get? b = some o → o.data = .dict es ep → H b = none := by
    intro b o es ep e d
    cases q : H b with
    | none => rfl
    | some u =>
      obtain ⟨rfl, _, _⟩ := hH b u q
      rw [ha] at e
      cases e
      exact nomatch (show Data.seq vs.toArray _ = Data.dict es ep from d)
  have ns' : ∀ {b : Addr} {m : Str → Option Value}, s1.heap.Ns b m → (hidT s1.heap H).Ns b m := by
    intro b m h
    obtain ⟨o, es, ep, e, d, r⟩ := h
    exact ⟨o, es, ep, hidT_get e (nodict e d), d, r⟩
  have kin : K.In (hidT s1.heap H) := by
    intro b o e
    refine hidT_get (inK b o e) ?_
    cases q : H b with
    | none => rfl
    | some u =>
      obtain ⟨rfl, z, _⟩ := hH b u q
      rw [z] at e
      cases e
  have md : Mod K mg (hidT s1.heap H) := by
    obtain ⟨mc, c1, c2⟩ := hlim
    exact ⟨kin, ns' hns, ⟨mb, ns' hb, hbb⟩, ⟨mc, ns' c1, c2⟩⟩
  have en : Env0 P w K mg (hidT s1.heap H) callerA [] s1 H := by
    refine ⟨rfl, md, fun b o e => of_hidT e, Nat.le_of_eq (hidT_size _ _), trivial, ?_, hk, .of_eq hg⟩
    intro b hb'
    cases hb'
  obtain ⟨C0, eF⟩ := ok
  have sp : spC K [x].length F [.ref a] H (fun v _ => v = .bl true) (fun _ _ _ => False) := by
    refine ⟨[], [], [.fl (intsD ns)], hrel_nil, .cons (.fl hz (intsD_rel ns)) .nil, rfl, ?_⟩
    rw [eF]
    intro v H' ⟨ad', _, _, r⟩
    cases r
    rfl
  have run := (G _ kin (ns' hns)).run callerA [] s1 H ⟨[.ref a], []⟩ [.ref a] [.ref a] (fun v _ => v = .bl true) (fun _ _ _ => False) hr rfl en (hbind s1 (.ref a)) (.cons rfl .nil) sp
  refine codeAny_mono run ?_
  intro r s' h
  cases r with
  | error e =>
    obtain ⟨_, _, _, _, _, _, _, _, _, _, _, _, z⟩ := h
    exact z.elim
  | ok fl =>
    cases fl with
    | next => exact absurd h id
    | brk => exact absurd h id
    | cont => exact absurd h id
    | ret u =>
      obtain ⟨v, H', os, bare, un, hok', rv, q⟩ := h
      have q : v = .bl true := q
      subst q
      cases (show u = Value.bool true from rv)
      refine ⟨rfl, OldK.of_keep ?_, os, bare⟩
      intro b o e
      cases q : H b with
      | none =>
        refine un.keep b o e q ?_ ?_
        · intro z; cases z
        · intro z; cases z
      | some u =>
        obtain ⟨rfl, _, rfl⟩ := hH b u q
        rw [ha] at e
        cases e
        exact (hok' b _ (un.frzs b _ _ q)).1
theorem law_end (inK : K.In s1.heap) (hns : s1.heap.Ns mainGlobals mg) (hb : s1.heap.Ns builtinsNs mb) (hbb : ∀ x : Str, x ≠ "__name__" → mb x = bootBuiltins x) (hlim : s1.heap.NoLimit) (hg : s1.gens = #[])
    (ha : s1.heap.get? a = some { cls := .type "list", data := .seq vs.toArray }) (hi : IntsAre vs ns) (hl : ns.length ≤ sizeLine) (hr : Room k callerA) (G : ∀ base : Heap, K.In base → base.Ns mainGlobals mg → FnG P w K mg base k fa fd [x] F)
    (hbind : ∀ (s : Shared) (u : Value), BindsTo s fd ⟨[u], []⟩ [(x, u)]) (ok : ∃ C, F [.fl (intsD ns)] [] = .ok (.bl true) C) :
    codeAny (model P w) callerA (.call (.ref fa) ⟨[.ref a], []⟩) (fun r s' => r = .ok (.ret (.bool true)) ∧ OldK s1.heap s'.heap ∧ s'.os = s1.os ∧ AllBare s'.gens) s1 := by
  have rv : Vals (ns.map V.int) vs := L2.vals_ints hi
  have ll : (ns.map V.int).length ≤ sizeLine := by rw [List.length_map]; exact hl
  cases e : K.lookup a with
  | some o =>
    have z := inK a o e
    rw [ha] at z
    cases z
    refine law_from (H := fun _ => none) (ns := ns) inK hns hb hbb hlim hg ha hr G hbind ok (fun b u z => nomatch z) (fun b u z => nomatch z) (.inr ⟨_, vs.toArray, _, e, rfl, rfl, rfl, ?_, by simpa using rv⟩)
    rw [List.size_toArray, ← rv.length]
    exact ll
  | none =>
    refine law_from (H := fun b => if b = a then some (.frz { cls := .type "list", data := .seq vs.toArray } (.lst (ns.map V.int))) else none) (ns := ns) inK hns hb hbb hlim hg ha hr G hbind ok ?_ ?_ (.inl ⟨_, if_pos rfl⟩)
    · intro b u z
      replace z := z; try dsimp only at z
      by_cases q : b = a
      · rw [if_pos q] at z
        cases z
        exact ⟨q, e, rfl⟩
      · rw [if_neg q] at z
        cases z
    · intro b u z
      replace z := z; try dsimp only at z
      by_cases q : b = a
      · rw [if_pos q] at z
        cases z
        subst q
        exact ⟨ha, ll, vs, _, rv, ha⟩
      · rw [if_neg q] at z
        cases z
end
/-- the law's walk -/
theorem walkG {l : PySem.W.OpenLaw} {n k : Nat} {q : Program} {loose : List Str} {XP : (Str → Option Value) → Heap → Prop} {YP : World → Heap → Prop} {d : DefRec} {K : Params → PySem.W.Frag} {x : Str} {F : List D → CH → Res D}
    (hn : l.most = some n) (hn2 : n ≤ sizeLine) (hdf : d.params.defaults = []) (hr : Room k callerA) (hY : ∀ (w : World) (h : Heap), YP w h → (K w.params).In h)
    (hF : ∀ (w : World) (mg : Str → Option Value) (fa : Addr) (h : Heap), (K w.params).In h → h.Ns mainGlobals mg → mg d.name = some (.ref fa) →
      ∃ fd : FuncData, (∀ (s : Shared) (u : Value), BindsTo s fd ⟨[u], []⟩ [(x, u)]) ∧ ∀ base : Heap, (K w.params).In base → base.Ns mainGlobals mg → FnG l.prog w (K w.params) mg base k fa fd [x] F)
    (ok : ∀ ns : List Int, ns.length ≤ n → (∀ z ∈ ns, Builtin.Int.intBits z ≤ 1048576) → ∃ C, F [.fl (intsD ns)] [] = .ok (.bl true) C) :
    PySem.W.WalkO q loose XP YP l.row.toRowW d [] (fun f vs => PySem.call f vs) := by
  refine Att.attach_callB hn hdf ?_
  intro w s0 s1 mg mb fa o pm cd doc a vs ns G Y ho hd hcd hmg hobj hints hlen hbits hg
  obtain ⟨fd, hb, hG⟩ := hF w mg fa _ (hY w _ Y) G.T.g hmg
  exact law_end (hY w _ Y) G.T.g G.T.b G.T.builtins G.T.nolimit hg hobj hints (Nat.le_trans hlen hn2) hr hG hb (ok ns hlen hbits)
end Cl
set_option maxHeartbeats 4000000
/-! Cl, part K: dict displays, repr, [::-1]. -/
namespace Cl
open PySem PySem.Spec L2

/-! ### dict displays -/
def dPairs : List (Fe × Fe) → Sc → CH → Res (List (D × D))
  | [], _, C => .ok [] C
  | p :: r, sc, C => (p.1 sc C).bind fun x C1 => (p.2 sc C1).bind fun y C2 => (dPairs r sc C2).bind fun ps C3 => .ok ((x, y) :: ps) C3
def keyed : List (D × D) → Option (List (Key × D))
  | [] => some []
  | p :: r => (keyOf p.1).bind fun k => (keyed r).bind fun kvs => some ((k, p.2) :: kvs)
def mergeD (kvs more : List (Key × D)) : List (Key × D) := more.foldl (fun acc kv => putD acc kv.1 kv.2) kvs
def dDct (ps : List (Fe × Fe)) : Fe := fun sc C => (dPairs ps sc (C ++ [.dK []])).bind fun ds C1 => match C1[C.length]? with
  | some (.dK []) => (match keyed ds with
    | some kvs => if kvs.length ≤ 15 then .ok (.ref C.length) (C1.set C.length (.dK (mergeD [] kvs))) else .bad
    | none => .bad)
  | _ => .bad
section
variable {K : PySem.W.Frag}
theorem merge_rel {ad : List Addr} {H : Hp} {more : List (Key × D)} {ws : List (Key × V)} (h : KR K ad H more ws) : ∀ {kvs : List (Key × D)} {vs : List (Key × V)}, KR K ad H kvs vs → KR K ad H (mergeD kvs more) (mergeK vs ws) := by
  unfold mergeD mergeK
  induction h with
  | nil => intro kvs vs h; exact h
  | cons r t ih =>
    intro kvs vs h
    rw [List.foldl_cons, List.foldl_cons, ← r.1]
    exact ih (put_rel _ r.2 h)
def Prs (K : PySem.W.Frag) (ad : List Addr) (H : Hp) : List (D × D) → List (V × V) → Prop := Paired fun p q => Rl K ad H p.1 q.1 ∧ Rl K ad H p.2 q.2
theorem keyed_rel {ad : List Addr} {H : Hp} : ∀ {ds : List (D × D)} {ps : List (V × V)} {kvs : List (Key × D)}, Prs K ad H ds ps → keyed ds = some kvs → ∃ ws : List (Key × V), ps = ws.map (fun kv => (kV kv.1, kv.2)) ∧ KR K ad H kvs ws
  | _, _, _, .nil, h => by cases h; exact ⟨[], rfl, .nil⟩
  | _, _, _, .cons (a := p) (b := q) r t, h => by
    obtain ⟨k, e1, h⟩ := bind_inv (show (keyOf p.1).bind _ = some _ from h)
    obtain ⟨kvs, e2, h⟩ := bind_inv h
    cases h
    obtain ⟨ws, rfl, r2⟩ := keyed_rel t e2
    refine ⟨(k, q.2) :: ws, ?_, .cons ⟨rfl, r.2⟩ r2⟩
    rw [List.map_cons, ← key_rel e1 r.1]
theorem pairs_in {W : WX} : ∀ (fs : List (Fe × Fe)) {σ : L2.St} {ad0 ad : List Addr} {H0 H : Hp} {sc : Sc} {C : CH} {β : Type} {k : List (D × D) → CH → Res β} {P : β → CH → Prop} {R : List (V × V) → Hp → Prop}, SRel K ad H sc σ → HRel K ad H C → Ext ad0 H0 ad H →
    RP K W ad0 H0 σ ((dPairs fs sc C).bind k) P →
    (∀ ds C1 ad1 H1 ps, Ext ad H ad1 H1 → SRel K ad1 H1 sc σ → HRel K ad1 H1 C1 → Prs K ad1 H1 ds ps → RP K W ad0 H0 σ (k ds C1) P → R ps H1) → tPairs (fs.map fun p => (tE K W p.1, tE K W p.2)) σ H R
  | [], σ, ad0, ad, H0, H, sc, C, β, k, P, R, hs, hh, E, h, n => n [] C ad H [] (.refl _ _) hs hh .nil h
  | p :: fs, σ, ad0, ad, H0, H, sc, C, β, k, P, R, hs, hh, E, h, n => by
    have h : RP K W ad0 H0 σ ((p.1 sc C).bind fun x C1 => (p.2 sc C1).bind fun y C2 => (dPairs fs sc C2).bind fun ps C3 => k ((x, y) :: ps) C3) P := by
      have e : (dPairs (p :: fs) sc C).bind k = (p.1 sc C).bind fun x C1 => (p.2 sc C1).bind fun y C2 => (dPairs fs sc C2).bind fun ps C3 => k ((x, y) :: ps) C3 := by
        rw [dPairs]
        cases p.1 sc C with
        | bad => rfl
        | ex x C1 => rfl
        | ok x C1 =>
          simp only [Res.bind_ok]
          cases p.2 sc C1 with
          | bad => rfl
          | ex y C2 => rfl
          | ok y C2 =>
            simp only [Res.bind_ok]
            cases dPairs fs sc C2 <;> rfl
      rw [← e]; exact h
    refine tE_bind hs hh E h fun x C1 ad1 H1 v E1 hs1 hh1 r1 h1 => ?_
    refine tE_bind hs1 hh1 (E.trans E1) h1 fun y C2 ad2 H2 w E2 hs2 hh2 r2 h2 => ?_
    refine pairs_in fs hs2 hh2 (E.trans (E1.trans E2)) h2 fun ds C3 ad3 H3 ps E3 hs3 hh3 r3 h3 => ?_
    exact n _ C3 ad3 H3 _ (E1.trans (E2.trans E3)) hs3 hh3 (Paired.cons (a := (x, y)) (b := (v, w)) ⟨r1.mono (E2.trans E3), r2.mono E3⟩ r3) h3
end
section
variable {k : Nat} {X : Cx} {W : WX} {pos : Pos}
abbrev CPs (X : Cx) (W : WX) (pos : Pos) (ks : List (Option Expr)) (vs : List Expr) (fs : List (Fe × Fe)) : Prop := PPs X pos ks vs (fs.map fun p => (tE X.K W p.1, tE X.K W p.2))
theorem cpsN : CPs X W pos [] [] [] := pps_nil
theorem cpsC {kx vx : Expr} {ks : List (Option Expr)} {vs : List Expr} {fk fv : Fe} {fs : List (Fe × Fe)} (hk : CE X W kx fk) (hv : CE X W vx fv) (hr : CPs X W pos ks vs fs) : CPs X W pos (some kx :: ks) (vx :: vs) ((fk, fv) :: fs) := pps_cons hk hv hr
theorem cDct {ks : List (Option Expr)} {vs : List Expr} {fs : List (Fe × Fe)} (h : CPs X W pos ks vs fs) (hall : ks.all (·.isSome) = true := by rfl) (hl : ks.length = vs.length := by rfl) (h0 : ks ≠ [] := by (intro z; cases z)) (hf : ks.length ≤ 15 := by decide) : CE X W (.Dict ks vs pos) (dDct fs) := by
  refine PE_imp (pe_disp h hall hl h0 hf) fun σ H Q ⟨ad, sc, C, hs, hh, q⟩ p hp => ?_
  have E0 : Ext ad H (ad ++ [p]) (upd H p (.dK [])) := ext_alloc hp
  have q : RP X.K W ad H σ ((dPairs fs sc (C ++ [.dK []])).bind fun ds C1 => match C1[C.length]? with
      | some (.dK []) => (match keyed ds with
        | some kvs => if kvs.length ≤ 15 then Res.ok (D.ref C.length) (C1.set C.length (.dK (mergeD [] kvs))) else .bad
        | none => .bad)
      | _ => .bad) _ := q
  refine pairs_in fs (hs.mono E0) (hh.alloc (o := .dK []) hp ⟨[], rfl, .nil⟩) E0 q fun ds C1 ad1 H1 ps E1 hs1 hh1 r1 h1 => ?_
  have hD : ad1[C.length]? = some p := E1.pre _ _ (alloc_at hh)
  split at h1
  · rename_i e
    obtain ⟨u, g1, ws, rfl, g2⟩ := hh1.obj _ _ _ e hD
    cases g2
    split at h1
    · rename_i kvs ek
      split at h1
      · rename_i hz
        obtain ⟨ws, rfl, rr⟩ := keyed_rel r1 ek
        have E2 := ext_set hh1 e hD (u := .dK (mergeK [] ws))
        exact ⟨g1, ws, rfl, by rw [← rr.length]; exact hz, h1 _ _ ⟨ad1, E0.trans (E1.trans E2), hh1.set (o' := .dK (mergeD [] kvs)) e hD ⟨_, rfl, merge_rel (rr.mono E2) .nil⟩, .ref hD⟩⟩
      · exact h1.elim
    · exact h1.elim
  · exact h1.elim
def dNewK : Fe := fun _ C => .ok (.ref C.length) (C ++ [.dK []])
def dNewT : Fe := fun _ C => .ok (.ref C.length) (C ++ [.dT []])
theorem cNewK : CE X W (.Dict [] [] pos) dNewK := PE_imp pe_dnewK fun σ H Q ⟨ad, sc, C, hs, hh, q⟩ p hp => q _ _ ⟨ad ++ [p], ext_alloc hp, hh.alloc (o := .dK []) hp ⟨[], rfl, .nil⟩, .ref (alloc_at hh)⟩
theorem cNewT : CE X W (.Dict [] [] pos) dNewT := PE_imp pe_dnewT fun σ H Q ⟨ad, sc, C, hs, hh, q⟩ p hp => q _ _ ⟨ad ++ [p], ext_alloc hp, hh.alloc (o := .dT []) hp ⟨[], rfl, .nil⟩, .ref (alloc_at hh)⟩
end

/-! ### repr -/
mutual
def szP : PyData → Nat
  | .none => 4
  | .bool _ => 5
  | .int _ => 1921
  | .str x => 10 * x.length + 2
  | .list xs => szPs xs + 2
  | .tuple xs => szPs xs + 3
  | .dict _ => 0
def szPs : List PyData → Nat
  | [] => 0
  | x :: xs => szP x + 2 + szPs xs
end
theorem reprText_le {x : Str} (h : PyData.strOk x = true) : (reprText x).length ≤ 10 * x.length + 2 := by
  refine PySem.StrLaws.reprText_len x fun c hc => ?_
  unfold PyData.strOk at h
  rw [Array.all_eq_true'] at h
  have := of_decide_eq_true (h c (Array.mem_toList_iff.mp hc))
  omega
theorem listText_le : ∀ ts : List Str, (listText ts).length ≤ piled ts + 2
  | [] => by decide
  | t :: r => by
    have e1 : listText (t :: r) = textFrom 1 (("[" : Str) ++ ((if 0 > 0 then ", " else "" : String) : Str) ++ t) r ++ ("]" : Str) := rfl
    have z0 : ((if 0 > 0 then ", " else "" : String) : Str).length = 0 := rfl
    have z1 : ("[" : Str).length = 1 := rfl
    have z2 : ("]" : Str).length = 1 := rfl
    rw [e1, Str.length_append, textFrom_length_pos _ _ _ (Nat.succ_pos 0), Str.length_append, Str.length_append, piled_cons, z0, z1, z2]
    omega
theorem tupleText_le (ts : List Str) : (tupleText ts).length ≤ piled ts + 3 := by
  have z1 : ("(" : Str).length = 1 := rfl
  have z2 : (",)" : Str).length = 2 := rfl
  have z3 : (")" : Str).length = 1 := rfl
  have hj : (Str.join ", " ts).length ≤ piled ts := by
    cases ts with
    | nil => exact Nat.le_refl 0
    | cons t r => have := join_length_add (t :: r) (by simp); omega
  unfold tupleText
  rw [Str.length_append, Str.length_append, z1]
  split
  · rw [z2]; omega
  · rw [z3]; omega
mutual
theorem shown_le : ∀ p : PyData, p.canLay0 = true → p.showable = true → p.shown.length ≤ szP p
  | .none, _, _ => by decide
  | .bool true, _, _ => by decide
  | .bool false, _, _ => by decide
  | .int i, _, h => by
    rw [PyData.showable] at h
    rw [PyData.shown, szP]
    exact PyProof.Rows.int_text_len_1921 (of_decide_eq_true h)
  | .str x, h, _ => by
    rw [PyData.canLay0] at h
    rw [PyData.shown, szP]
    exact reprText_le h
  | .list xs, h, h2 => by
    rw [PyData.canLay0] at h
    rw [PyData.showable] at h2
    rw [PyData.shown, szP]
    have := listText_le (PyData.shownAll xs)
    have := shownAll_le xs h h2
    omega
  | .tuple xs, h, h2 => by
    rw [PyData.canLay0] at h
    rw [PyData.showable] at h2
    rw [PyData.shown, szP]
    have := tupleText_le (PyData.shownAll xs)
    have := shownAll_le xs h h2
    omega
  | .dict _, h, _ => by rw [PyData.canLay0] at h; cases h
theorem shownAll_le : ∀ xs : List PyData, PyData.canLayAll0 xs = true → PyData.showableAll xs = true → piled (PyData.shownAll xs) ≤ szPs xs
  | [], _, _ => by rw [PyData.shownAll, szPs]; exact Nat.le_refl _
  | x :: xs, h, h2 => by
    rw [PyData.canLayAll0, Bool.and_eq_true] at h
    rw [PyData.showableAll, Bool.and_eq_true] at h2
    rw [PyData.shownAll, piled_cons, szPs]
    have := shown_le x h.1 h2.1
    have := shownAll_le xs h.2 h2.2
    omega
end
/-- what repr tells of data -/
def rpr (p : PyData) : Option Str := if SeqAt.shaped p && p.showable && decide (szP p ≤ 16000000) then some p.shown else none
theorem rpr_inv {p : PyData} {z : Str} (h : rpr p = some z) : SeqAt.shaped p = true ∧ p.showable = true ∧ szP p ≤ 16000000 ∧ z = p.shown := by
  unfold rpr at h
  split at h
  · rename_i hb
    rw [Bool.and_eq_true, Bool.and_eq_true] at hb
    cases h
    exact ⟨hb.1.1, hb.1.2, of_decide_eq_true hb.2, rfl⟩
  · cases h
def rRpr (K : PySem.W.Frag) : List V → Hp → VK → Prop := fun xs H Q => ∃ x p z, xs = [x] ∧ Dp K H x p ∧ rpr p = some z ∧ Q (.str z) H
theorem call_repr {X : Cx} (hu : X.A.units + 66 < cLine) (hg : X.A.guards = some []) : CallR X (.builtin "repr") (rRpr X.K) := by
  intro pins s σ H xs us Q I r h
  obtain ⟨x, p, z, rfl, hd, e, q⟩ := h
  obtain ⟨sh, sw, sz, rfl⟩ := rpr_inv e
  obtain ⟨u, rfl, ru⟩ := vals1 r
  have hz : p.shown.length ≤ sizeLine := Nat.le_trans (shown_le p (SeqAt.canLay_of_shaped sh) sw) (Nat.le_trans sz (by decide))
  cases hd with
  | non => cases ru; exact PySem.P.repr_of_none ⟨.str _, H, I.tok _, ⟨_, rfl⟩, q⟩
  | bl b => cases ru; exact PySem.P.repr_of_bool ⟨.str _, H, I.tok _, ⟨_, rfl⟩, by cases b <;> exact q⟩
  | int i =>
    obtain ⟨t, rfl⟩ := ru
    rw [PyData.showable] at sw
    exact PySem.P.repr_of_int (of_decide_eq_true sw) ⟨.str _, H, I.tok _, ⟨_, rfl⟩, q⟩
  | str y =>
    obtain ⟨t, rfl⟩ := ru
    exact PySem.P.repr_of_str ⟨.str _, H, I.tok _, ⟨_, rfl⟩, q⟩ hz
  | lst a b =>
    obtain ⟨as, rd⟩ := Dp.reads I _ _ u (.lst a b) ru
    cases ru
    exact repr_of_reads' rd sw (PyData.noDict_hsm (PyData.hasDict_of_canLay _ (SeqAt.canLay_of_shaped sh))) hg (by have := SeqAt.depth_of_shaped sh; omega) (fun _ _ e => e) (fun h' t tk hk => ⟨.str _, H, I.kept hk, ⟨_, rfl⟩, q⟩) hz
  | tup a b =>
    obtain ⟨as, rd⟩ := Dp.reads I _ _ u (.tup a b) ru
    cases ru
    exact repr_of_reads' rd sw (PyData.noDict_hsm (PyData.hasDict_of_canLay _ (SeqAt.canLay_of_shaped sh))) hg (by have := SeqAt.depth_of_shaped sh; omega) (fun _ _ e => e) (fun h' t tk hk => ⟨.str _, H, I.kept hk, ⟨_, rfl⟩, q⟩) hz
def gRpr : Og1 := fun ds C => match ds with
  | [d] => (py C 66 d).bind fun p => (rpr p).map fun z => (.str z, C)
  | _ => none
theorem cgRpr {K : PySem.W.Frag} : CG K (rRpr K) gRpr := by
  intro ad H C ds vs z C' hh rs e Q q
  unfold gRpr at e
  split at e
  · obtain ⟨p, e1, e⟩ := bind_inv e
    cases e2 : rpr p with
    | none => rw [e2] at e; cases e
    | some y =>
      rw [e2] at e
      cases e
      cases rs with
      | cons r1 r2 =>
        cases r2
        exact ⟨_, p, y, rfl, py_dp hh _ _ _ _ e1 r1, e2, q _ _ (.intro hh (.str _))⟩
  · cases e
section
variable {k : Nat} {X : Cx} {W : WX} {p pos : Pos} {e : Expr} {fs : Fa}
theorem cRpr (c : Ctx (k + 1) X W) (hg : Gl X "repr") (hm : X.mg "repr" = none) (ha : CA X W [e] fs) (he : starEach [e] X.env = (false, eval e X.env) :: starEach [] X.env := by rfl) : CE X W (.Call (.Name "repr" p) [e] [] pos) (dCB gRpr fs) :=
  cCB (call_repr (by have := c.room.un; omega) c.gd) cgRpr hg hm (by decide +kernel) ha (by decide) (by decide) he
end
end Cl
set_option maxHeartbeats 4000000
/-! Cl, part L: xs[::-1] of lists and of tuples. -/
namespace Cl
open PySem PySem.Spec PyProof.Rows L2
theorem fm_congr {α β : Type} {f g : α → Option β} : ∀ l : List α, (∀ x ∈ l, f x = g x) → l.filterMap f = l.filterMap g
  | [], _ => rfl
  | x :: l, h => by rw [List.filterMap_cons, List.filterMap_cons, h x List.mem_cons_self, fm_congr l fun y hy => h y (List.mem_cons_of_mem _ hy)]
section
variable {prog : Program} {w : World} {A : Around} {E : Value → Shared → Prop} {s : Shared}
theorem applied_rev {sl : Addr} {vs : Value} {n : Nat} {Q : Int × Int × Nat → Shared → Prop} (hs : s.heap.IsSliceOf sl .none .none vs) (pv : IsPart vs (some (-1))) (h : Q ((n : Int) - 1, -1, n) s) :
    wpAny (model prog w) A (Builtin.Slice.sliceApplied (.ref sl) (pure (n : Int))) Q E s := by
  obtain ⟨os, hos, _, hds⟩ := id hs
  unfold Builtin.Slice.sliceApplied Builtin.Slice.sliceFields
  apply wpAny_bind
  apply wpAny_bind
  apply wpAny_field hos hds (x := .none) rfl
  apply wpAny_bind
  apply wpAny_field hos hds (x := .none) rfl
  apply wpAny_bind
  apply wpAny_field hos hds (x := vs) rfl
  apply wpAny_pure
  apply wpAny_bind
  apply HT.slicePart_ pv
  show wpAny _ _ (if ((-1 : Int) == 0) = true then _ else _) _ _ s
  rw [if_neg (by decide)]
  apply wpAny_bind
  apply HT.slicePart_ .none
  apply wpAny_bind
  apply HT.slicePart_ .none
  apply wpAny_bind
  apply wpAny_pure
  show wpAny _ _ (pure ((n : Int) - 1, (-1 : Int), Builtin.Slice.slicePlaces ((n : Int) - 1) (-1) (-1))) _ _ s
  have e : Builtin.Slice.slicePlaces ((n : Int) - 1) (-1) (-1) = n := by
    unfold Builtin.Slice.slicePlaces
    rw [if_neg (by decide)]
    split
    · rw [show (- -1 : Int) = 1 by decide, Int.ediv_one]; omega
    · omega
  rw [e]
  exact wpAny_pure h
theorem pick_rev (xs : Array Value) : ((List.range xs.size).filterMap fun (m : Nat) => xs[((xs.size : Int) - 1 + (m : Int) * (-1)).toNat]?).toArray = xs.toList.reverse.toArray := by
  have e : ∀ m ∈ List.range xs.size, xs[((xs.size : Int) - 1 + (m : Int) * (-1)).toNat]? = xs[xs.size - 1 - m]? := by
    intro m hm
    have := List.mem_range.mp hm
    have : ((xs.size : Int) - 1 + (m : Int) * (-1)).toNat = xs.size - 1 - m := by omega
    rw [this]
  rw [fm_congr _ e]
  have e2 : (fun m => xs[xs.size - 1 - m]?) = (fun x => xs[x]?) ∘ fun k => xs.size - 1 - k := rfl
  rw [e2, ← List.filterMap_map, PySem.W.krv_range, List.filterMap_reverse, PySem.W.krv_all]
theorem getItem_rev {t sl : Addr} {its : Array Value} {vs : Value} {Q : Value → Shared → Prop} (ht : IsTup s.heap t its) (hs : s.heap.IsSliceOf sl .none .none vs) (pv : IsPart vs (some (-1))) (hz : its.size ≤ sizeLine)
    (h : Q (.ref s.heap.objs.size) { s with heap := s.heap.push { cls := .type "tuple", data := .seq its.toList.reverse.toArray } }) : wpAny (model prog w) A (getItem (.ref t) (.ref sl)) Q E s := by
  have so : sizeOk (.seq its.toList.reverse.toArray) := by
    show its.toList.reverse.toArray.size ≤ sizeLine
    rw [List.size_toArray, List.length_reverse, Array.length_toList]
    exact hz
  obtain ⟨os, hos, hcs, hds⟩ := id hs
  unfold getItem
  try with_reducible refine wpAny_holding ?_
  first | refine wpAny_bind (wpAny_pure ?_) | skip
  apply wpAny_bind
  refine wpAny_sequenceKey ht.typeIs (by decide) ?_
  apply wpAny_bind
  refine wpAny_callSpecial?_slot (name := Str.ofString "__getitem__") ht.typeIs PyProof.Rows.slot_tuple_getitem ?_
  refine wpAny_call_entry PyProof.Rows.slot_tuple_getitem ht.typeIs PyProof.Rows.entry_tuple_getitem ?_ (PyProof.Rows.args_tuple_getitem _ _)
  show wpAny _ _ (Builtin.Tuple.tupleItemsOf (.ref t) >>= _) _ _ s
  apply wpAny_bind
  apply PyProof.Rows.tupleItemsOf_ ht
  apply wpAny_bind
  have hT : s.TypeIs (.ref sl) "slice" := ⟨os, hos, hcs⟩
  apply wpAny_typeOf hT
  rw [if_pos (by decide)]
  apply wpAny_bind
  apply applied_rev hs pv
  have no : ¬ ((((its.size : Int) - 1) == 0 && (-1 : Int) == 1 && its.size == its.size) = true) := by
    intro q
    rw [Bool.and_eq_true, Bool.and_eq_true] at q
    exact absurd q.1.2 (by decide)
  show wpAny _ _ (if (((its.size : Int) - 1) == 0 && (-1 : Int) == 1 && its.size == its.size) = true then _ else _) _ _ s
  rw [if_neg no, pick_rev]
  first
    | exact wpAny_bind (m := Builtin.Tuple.tupleExact _) (wpAny_newObj_type (wpAny_pure ⟨_, rfl, wpAny_pure h⟩) so)
    | exact wpAny_bind (m := Builtin.Tuple.tupleExact _) (wpAny_newObj_type (wpAny_bind (wpAny_pure (wpAny_pure ⟨_, rfl, wpAny_pure h⟩))) so)
    | exact wpAny_bind (wpAny_bind (m := Builtin.Tuple.tupleExact _) (wpAny_newObj_type (wpAny_pure (wpAny_pure ⟨_, rfl, wpAny_pure h⟩)) so))
    | exact wpAny_bind (wpAny_bind (m := Builtin.Tuple.tupleExact _) (wpAny_newObj_type (wpAny_pure ⟨_, rfl, wpAny_pure h⟩) so))
end
section
variable {k : Nat} {X : Cx} {W : WX} {e : Expr} {kk : Nat} {p1 p2 p3 pos : Pos} {fe : Fe}
def tRevT (K : PySem.W.Frag) (te : TE) : TE := fun σ H Q => te σ H fun x H1 => ∃ a xs, x = .ref a ∧ SqT K H1 a xs ∧ ∀ p, H1 p = none → Q (.ref p) (upd H1 p (.tup xs.reverse))
theorem pe_revT {te : TE} (he : PE X e te) : PE X (.Subscript e (.Slice none none (some (.UnaryOp .USub (.Constant (.int 1) kk p1) p2)) p3) pos) (tRevT X.K te) := by
  constructor
  intro pins s σ H Q I h
  apply Subscript_
  refine thn (he.run pins s σ H _ I h) ?_
  intro v s1 ⟨x, H1, I1, r1, a, xs, ex, hx, q⟩
  subst ex
  cases r1
  have part : PO X (some (.UnaryOp .USub (.Constant (.int 1) kk p1) p2)) (tPart (tUn (rU fun i => .int (-i)) (tC (.int 1)))) := po_some (pe_un un_neg pe_int)
  apply wpAny_Slice
  rw [evalPart_none]
  apply wpAny_pure
  apply wpAny_pure
  refine thn (part.run pins s1 σ H1 (fun o H4 => o = some (-1) ∧ H4 = H1) I1 ⟨1, rfl, -1, rfl, rfl, rfl⟩) ?_
  intro vs s4 ⟨o, H4, I4, ps, eo, e4⟩
  subst eo
  subst e4
  have I5 : Inv X pins σ H4 { s4 with heap := s4.heap.push { cls := .type "slice", data := .fields #[.none, .none, vs] } } := I4.kept (t' := s4.toks) fun b ob z => Heap.get?_push_of_some _ z
  obtain ⟨its, r, ht, hz⟩ := I5.tuple hx
  have hl := r.length
  show wpAny (model X.prog X.w) X.A (subscriptTail e (.Slice none none (some (.UnaryOp .USub (.Constant (.int 1) kk p1) p2)) p3) (.ref a) (.ref s4.heap.objs.size)) (EP X pins σ Q) X.xe _
  refine tail_any (ops := [.ref a, .ref s4.heap.objs.size]) ht.typeIs PyProof.Rows.slot_tuple_getitem.lookup ?_ (by with_unfolding_all rfl)
  refine getItem_rev ht (Heap.IsSliceOf.new _ .none .none vs) ps (by rw [List.size_toArray]; omega) ?_
  refine ⟨.ref _, _, I5.laid (t' := s4.toks) (o := .tup xs.reverse) (fun b ob z => Heap.get?_push_of_some _ z) (Nat.le_refl _) ?_, rfl, q _ (I5.hok.fresh (Nat.le_refl _))⟩
  refine ⟨by rw [List.length_reverse]; exact hz, _, r.reverse, ?_⟩
  exact IsTup.new _ _
def revO (d : D) (C1 : CH) : Res D := match d with
  | .tup ds => .ok (.tup ds.reverse) C1
  | _ => match itemsOf C1 d with
    | some ds => .ok (.ref C1.length) (C1 ++ [.lst ds.reverse])
    | none => .bad
def dRev (f : Fe) : Fe := fun sc C => (f sc C).bind revO
theorem cRev (he : CE X W e fe) : CE X W (.Subscript e (.Slice none none (some (.UnaryOp .USub (.Constant (.int 1) kk p1) p2)) p3) pos) (dRev fe) := by
  refine PE_imp (PE_or (pe_revL he) (pe_revT he)) fun σ H Q ⟨ad, sc, C, hs, hh, h⟩ => ?_
  have h : RP X.K W ad H σ ((fe sc C).bind revO) _ := h
  cases e1 : fe sc C with
  | bad => rw [e1] at h; exact h.elim
  | ex x C1 => rw [e1] at h; exact .inl ⟨ad, sc, C, hs, hh, by rw [e1]; exact h⟩
  | ok d C1 =>
    rw [e1] at h
    simp only [Res.bind_ok] at h
    unfold revO at h
    by_cases z : isTupD d = true
    · refine .inr ⟨ad, sc, C, hs, hh, ?_⟩
      rw [e1]
      intro v H1 ⟨ad1, E1, hh1, r1⟩
      cases r1 with
      | tup g1 g2 => exact ⟨_, _, rfl, .of g1, fun p hp => h _ _ ⟨ad1, E1.trans (ext_new hp), hh1.new hp, .tup upd_same (g2.reverse.mono (ext_new hp))⟩⟩
      | _ => cases z
    · refine .inl ⟨ad, sc, C, hs, hh, ?_⟩
      rw [e1]
      intro v H1 ⟨ad1, E1, hh1, r1⟩
      split at h
      · exact absurd rfl z
      · split at h
        · rename_i ds e2
          obtain ⟨p, vs, rfl, hq, rr⟩ := items_sq hh1 r1 e2
          rcases hq with hq | hq
          · exact ⟨p, vs, rfl, hq, fun p hp => h _ _ ⟨ad1 ++ [p], E1.trans (ext_alloc hp), hh1.alloc (o := .lst ds.reverse) hp ⟨_, rfl, rr.reverse.mono (ext_alloc hp)⟩, .ref (alloc_at hh1)⟩⟩
          · cases r1 with
            | tup g1 g2 => exact absurd rfl z
            | fl g1 g2 => cases e2; exact ⟨_, _, rfl, g1.sq, fun p hp => h _ _ ⟨ad1 ++ [p], E1.trans (ext_alloc hp), hh1.alloc (o := .lst ds.reverse) hp ⟨_, rfl, g2.reverse.mono (ext_alloc hp)⟩, .ref (alloc_at hh1)⟩⟩
            | ref ha =>
              simp only [itemsOf] at e2
              split at e2
              · rename_i e5
                cases e2
                obtain ⟨w, g1, ws, rfl, g2⟩ := hh1.obj _ _ p e5 ha
                exact ⟨_, _, rfl, .of g1, fun p hp => h _ _ ⟨ad1 ++ [p], E1.trans (ext_alloc hp), hh1.alloc (o := .lst ds.reverse) hp ⟨_, rfl, g2.reverse.mono (ext_alloc hp)⟩, .ref (alloc_at hh1)⟩⟩
              · cases e2
            | _ => cases e2
        · exact h.elim
end
end Cl
set_option maxHeartbeats 4000000
/-! Cl, part M: enumerate of tuples. -/
namespace Cl
open PySem PySem.Spec PyProof.Rows L2
open Sem (wp)
theorem meets_enum1 {v : Value} {o : Obj} {G : Heap → Prop} (B : Begins v o G) :
    Meets (Builtin.«enumerate.__new__» ⟨[.type "enumerate", v], []⟩) (fun _ R s => G s.heap ∧
      R (.ok (.ret (.ref (s.heap.push o).objs.size))) { s with heap := (s.heap.push o).push { cls := .type "enumerate", data := .fields #[.none, .bool false, .ref s.heap.objs.size, rawInt 0, .none, .none] } }) :=
  .of_wp fun prog w A R s h => by
    obtain ⟨hp, g, d, tk, os⟩ := s; obtain ⟨h1, h⟩ := h
    have hsub := sub_enumerate
    have q1 : ∀ {A' : Around} {E : Value → Shared → Prop} {Q : Value → Shared → Prop}, Q (.ref hp.objs.size) ⟨hp.push o, g, d, tk, os⟩ → wpAny (model prog w) A' (pyIter v) Q E ⟨hp, g, d, tk, os⟩ :=
      fun q => B.iter prog w _ _ ⟨hp, g, d, tk, os⟩ _ h1 q
    wp_walk using q1
    refine wpAny_stack_any fun st => wpAny_pure ?_
    split
    · rename_i c _ _ _ _ _
      cases (c == Value.type "enumerate")
      · wp_walk using q1
        exact ⟨_, rfl, h⟩
      · wp_walk using q1
        exact ⟨_, rfl, h⟩
    · wp_walk using q1
      exact ⟨_, rfl, h⟩
section
variable {prog : Program} {w : World} {A : Around} {E : Value → Shared → Prop} {s : Shared}
theorem enum1_begins {v : Value} {o : Obj} {G : Heap → Prop} {Q : Value → Shared → Prop} (B : Begins v o G) (h1 : G s.heap)
    (h : ∀ h', IsEnum h' (s.heap.objs.size + 1) s.heap.objs.size 0 .none → h'.get? s.heap.objs.size = some o → h'.objs.size = s.heap.objs.size + 2 →
      (∀ b o, s.heap.get? b = some o → h'.get? b = some o) → Q (.ref (s.heap.objs.size + 1)) { s with heap := h' }) :
    wpAny (model prog w) A (call (.type "enumerate") [v]) Q E s := by
  refine callType_new F.called_enumerate (by decide) (F.typeCall_enumerate_1 _) (F.newCall_enumerate_1 _) (fun obj => F.args_object_init_2 obj _) F.entry_enumerate_new
    (meets_enum1 B) ⟨h1, ?_⟩
  have hz : (s.heap.push o).objs.size = s.heap.objs.size + 1 := Heap.size_push ..
  show _ ∧ _
  rw [hz]
  have he : IsEnum ((s.heap.push o).push { cls := .type "enumerate", data := .fields #[.none, .bool false, .ref s.heap.objs.size, rawInt 0, .none, .none] }) (s.heap.objs.size + 1) s.heap.objs.size 0 .none := by
    have := Heap.get?_push_size (s.heap.push o) (o := { cls := .type "enumerate", data := .fields #[.none, .bool false, .ref s.heap.objs.size, rawInt 0, .none, .none] }) rfl
    rw [hz] at this; exact this
  refine ⟨⟨_, he, rfl⟩, h _ he (Heap.get?_push_of_some _ (Heap.get?_push_size _ B.free)) (by rw [Heap.size_push, hz]) fun b o x => Heap.get?_push_of_some _ (Heap.get?_push_of_some _ x)⟩
end
/-- the tuple at a, each item in a new pair -/
def Itu (K : PySem.W.Frag) (a : Addr) : It :=
  ⟨fun i H => ∃ (xs : List V) (x : V), SqT K H a xs ∧ xs[i]? = some x, fun i H v H' => ∃ T x, v = .ref T ∧ H T = none ∧ H' = upd H T (.tup [.int (i : Nat), x]) ∧ ∀ xs, SqT K H a xs → xs[i]? = some x, fun i H => ∃ xs : List V, SqT K H a xs ∧ xs.length ≤ i⟩
theorem turn_enumT {P : Program} {w : World} {K : PySem.W.Frag} {elts : List Expr} {kk : Nat} {tpos : Pos} (a e it : Addr) :
    Turn P w K (.Tuple elts kk tpos) (Itu K a) [e, it] e (fun i h => (∃ old, IsEnum h e it ((i : Nat) : Int) old) ∧ h.IsTupleIter it a i ∧ e ≠ it) where
  mem := by simp
  obj := fun i h st b hb => by
    obtain ⟨⟨old, he⟩, ⟨o, ho, hc, hd⟩, _⟩ := st
    have e' : b = e ∨ b = it := by simpa using hb
    rcases e' with z | z
    · rw [z]; exact ⟨_, he, fun v q => nomatch q⟩
    · rw [z]; exact ⟨o, ho, fun v q => by rw [hd] at q; cases q⟩
  keep := fun i h h' st k => let ⟨⟨old, he⟩, hi, hne⟩ := st; ⟨⟨old, k e (by simp) _ he⟩, hi.at fun o q => k it (by simp) o q, hne⟩
  item := by
    intro X hP hw hK hc i pins s σ H E I hf st hg
    subst hP hw hK
    obtain ⟨⟨old, he⟩, hit, hne⟩ := st
    obtain ⟨xs, x, hq, hx⟩ := hg
    obtain ⟨its, rv, p, hz⟩ := I.tuple hq
    obtain ⟨u, hu, ru⟩ := rv.get hx
    have hel : e < s.heap.objs.size := Heap.lt_size he
    have hil : it < s.heap.objs.size := by obtain ⟨_, q, _⟩ := hit; exact Heap.lt_size q
    have hT : s.heap.IsTuple a its.toArray := p
    have hae : a ≠ e := by
      intro z; subst z
      obtain ⟨o, ho, hc', _⟩ := hT
      rw [he] at ho; cases ho
      exact absurd (Value.type.inj hc') (by decide)
    have hai : a ≠ it := by
      intro z; subst z
      obtain ⟨o, ho, hc', _⟩ := hT
      obtain ⟨o2, ho2, hc2, _⟩ := hit
      rw [ho] at ho2; cases ho2
      exact absurd (Value.type.inj (hc'.symm.trans hc2)) (by decide)
    refine wpAny_pyNext_enum_itemD (Draws.tuple (prog := X.prog) (w := X.w) (show X.A.in1.handled = none from I.ok.hd hc) it a hai its.toArray) he ⟨hit, hT⟩ (by rw [List.size_toArray]; exact (List.getElem?_eq_some_iff.mp hu).1) hne (by simp [hne, Ne.symm hae]) fun x' h' tk hP ho hs' hTT hsz hk => ?_
    have hx' : x' = u := by
      have : its.toArray[i]? = some x' := hP
      rw [List.getElem?_toArray, hu] at this
      exact (Option.some.inj this).symm
    subst hx'
    refine ⟨_, rfl, wpAny_letOwnedTupleGo_enum (s := { s with heap := h', toks := tk + 1 }) ho fun h'' he' sb => ?_⟩
    have hT2 : h''.get? s.heap.objs.size = some { cls := .type "tuple", data := .seq #[.int i tk, x'] } := (sb.2 _ (Nat.ne_of_gt hel)).trans hTT
    have new : ObjOk X.prog X.w (upd H s.heap.objs.size (.tup [.int (i : Nat), x])) h'' s.heap.objs.size (.tup [.int (i : Nat), x]) :=
      ⟨by show 2 ≤ sizeLine; decide, [.int i tk, x'], .cons ⟨_, rfl⟩ (.cons ru .nil), ⟨_, hT2, rfl, _, rfl⟩⟩
    have I1 : Inv X pins σ (upd H s.heap.objs.size (.tup [.int (i : Nat), x])) { s with heap := h'', toks := tk + 1 } :=
      I.turnedNew (ch := [e, it]) (fun b ob hb q => (sb.2 b (fun z => hb (by simp [z]))).trans (hk b ob (fun z => hb (by simp [z])) (fun z => hb (by simp [z])) q)) hf (Nat.le_refl _) new
    refine ⟨.ref s.heap.objs.size, _, I1, rfl, ⟨_, x, rfl, I.hok.fresh (Nat.le_refl _), rfl, fun ys hy => by rw [I.tuple_inj hy hq]; exact hx⟩, ⟨⟨x', ?_⟩, hs'.1.at fun o q => (sb.2 it (Ne.symm hne)).trans q, hne⟩, fun b hb => ?_⟩
    · have e1 : ((i + 1 : Nat) : Int) = (i : Int) + 1 := by omega
      rw [e1]; exact he'
    · have hb' : b < s.heap.objs.size := by
        have e' : b = e ∨ b = it := by simpa using hb
        rcases e' with z | z
        · rw [z]; exact hel
        · rw [z]; exact hil
      rw [upd_ne (Nat.ne_of_lt hb')]
      exact (hf b hb).1
  done := by
    intro X hP hw hK hc i pins s σ H E I hf st hg
    subst hP hw hK
    obtain ⟨⟨old, he⟩, hit, hne⟩ := st
    obtain ⟨xs, hq, hx⟩ := hg
    obtain ⟨its, rv, p, hz⟩ := I.tuple hq
    obtain ⟨f0, f1, f2, f3, f4, f5⟩ := hf it (by simp)
    have hl := rv.length
    have hT : s.heap.IsTuple a its.toArray := p
    have hT' : s.TypeIs (.ref e) "enumerate" := ⟨_, he, rfl⟩
    unfold pyNext
    refine wpAny_bind (wpAny_attempt (wpAny_callSpecial?_slot (name := Str.ofString "__next__") hT' F.slot_enumerate_next
      (wpAny_call_entry F.slot_enumerate_next hT' F.entry_enumerate_next ?_ (F.args_enumerate_next_1 _))))
    show wpAny _ _ (field (.ref e) 2 >>= _) _ _ _
    refine wpAny_bind (wpAny_field he rfl (x := .ref it) rfl ?_)
    refine wpAny_bind (wpAny_nextOf_tuple_end (show X.A.in1.handled = none from I.ok.hd hc) hit hT (by simp; omega) fun h' x he' hx' => ?_)
    obtain ⟨o, ho, hc⟩ := hx'
    refine wpAny_bind (wpAny_isInstance (T := "StopIteration") (b := true) ⟨o, ho, hc⟩ isSubtype_stop ?_)
    exact wpAny_pure ⟨rfl, I.turned (t' := s.toks) (fun b o hb q => he' b o hb q) f0 f1 f3 f4 f5⟩
  self := fun A i s Q E st h => let ⟨⟨_, he⟩, _⟩ := st; wpAny_pyIter_enum he h
end Cl
set_option maxHeartbeats 4000000
/-! Cl, part N: enumerate, is None, isinstance, d.get, repetition, list(range), pop, extend, a, b, c = .. -/
namespace Cl
open PySem PySem.Spec L2

/-! ### enumerate -/
def enumD : Nat → List D → List D
  | _, [] => []
  | n, d :: ds => .tup [.int (n : Int), d] :: enumD (n + 1) ds
theorem enumD_get : ∀ (ds : List D) (n i : Nat), (enumD n ds)[i]? = (ds[i]?).map fun d => .tup [.int ((n + i : Nat) : Int), d]
  | [], n, i => by simp [enumD]
  | d :: ds, n, 0 => by simp [enumD]
  | d :: ds, n, i + 1 => by
    have e := enumD_get ds (n + 1) i
    rw [enumD, List.getElem?_cons_succ, List.getElem?_cons_succ, e, show n + 1 + i = n + (i + 1) by omega]
theorem enumD_length : ∀ (ds : List D) (n : Nat), (enumD n ds).length = ds.length
  | [], n => rfl
  | d :: ds, n => by simp [enumD, enumD_length ds]
section
variable {K : PySem.W.Frag} {ad : List Addr} {H : Hp}
theorem enu_step {ad2 : List Addr} {H2 H3 : Hp} {C2 : CH} {d : D} {i : Nat} {v x : V} {T : Addr} (hh : HRel K ad2 H2 C2) (rd : Rl K ad2 H2 d v) (hT : H2 T = none) (e : H3 = upd H2 T (.tup [.int (i : Nat), v])) (ex : x = .ref T) :
    ∃ ad3, Ext ad2 H2 ad3 H3 ∧ HRel K ad3 H3 C2 ∧ Rl K ad3 H3 (.tup [.int ((0 + i : Nat) : Int), d]) x := by
  subst e ex
  rw [Nat.zero_add]
  exact ⟨ad2, ext_new hT, hh.new hT, .tup upd_same (.cons (.int _) (.cons (rd.mono (ext_new hT)) .nil))⟩
theorem Wk.enumL {a : Addr} {ds : List D} {chk : CH → Prop} (hq : ∀ ad2 H2 C2, Ext ad H ad2 H2 → HRel K ad2 H2 C2 → chk C2 → ∃ vs, SqL K H2 a vs ∧ Rls K ad2 H2 ds vs) : Wk K (Ite K a) ad H ⟨enumD 0 ds, chk⟩ := by
  intro ad2 H2 C2 E hh hc
  obtain ⟨vs, h1, r⟩ := hq ad2 H2 C2 E hh hc
  refine ⟨fun i d e => ?_, vs, h1, by rw [enumD_length, r.length]; exact Nat.le_refl _⟩
  have e : (enumD 0 ds)[i]? = some d := e
  rw [enumD_get] at e
  cases e5 : ds[i]? with
  | none => rw [e5] at e; cases e
  | some d' =>
    rw [e5] at e
    cases e
    obtain ⟨v, e1, rv⟩ := r.get e5
    refine ⟨⟨vs, v, h1, e1⟩, fun x H3 ⟨T, y, ex, hT, e3, hy⟩ => ?_⟩
    have := hy vs h1
    rw [e1] at this; cases this
    exact enu_step hh rv hT e3 ex
theorem Wk.enumT {a : Addr} {ds : List D} {chk : CH → Prop} (hq : ∀ ad2 H2 C2, Ext ad H ad2 H2 → HRel K ad2 H2 C2 → chk C2 → ∃ vs, SqT K H2 a vs ∧ Rls K ad2 H2 ds vs) : Wk K (Itu K a) ad H ⟨enumD 0 ds, chk⟩ := by
  intro ad2 H2 C2 E hh hc
  obtain ⟨vs, h1, r⟩ := hq ad2 H2 C2 E hh hc
  refine ⟨fun i d e => ?_, vs, h1, by rw [enumD_length, r.length]; exact Nat.le_refl _⟩
  have e : (enumD 0 ds)[i]? = some d := e
  rw [enumD_get] at e
  cases e5 : ds[i]? with
  | none => rw [e5] at e; cases e
  | some d' =>
    rw [e5] at e
    cases e
    obtain ⟨v, e1, rv⟩ := r.get e5
    refine ⟨⟨vs, v, h1, e1⟩, fun x H3 ⟨T, y, ex, hT, e3, hy⟩ => ?_⟩
    have := hy vs h1
    rw [e1] at this; cases this
    exact enu_step hh rv hT e3 ex
end
section
variable {k : Nat} {X : Cx} {W : WX} {pos : Pos}
def iEnumT (K : PySem.W.Frag) (ta : TA) : TI := fun σ H R => ta σ H fun vs H1 => ∃ a xs, vs = [.ref a] ∧ SqT K H1 a xs ∧ R (Itu K a) H1
theorem pi_enumT {e : Expr} {ta : TA} {p tpos : Pos} {elts : List Expr} {kk : Nat} (hg : Gl X "enumerate") (hm : X.mg "enumerate" = none) (ha : PA X [e] ta) (hs : starEach [e] X.env = [(false, eval e X.env)] := by rfl) :
    PI X (.Tuple elts kk tpos) (.Call (.Name "enumerate" p) [e] [] pos) (iEnumT X.K ta) := by
  refine ⟨fun pins s σ H R I h => ?_⟩
  refine PyProof.Rows.Call_ (ld_blt I hg hm PyProof.Rows.boot_enumerate (PyProof.Rows.callWith_type1 (thn (ha.run pos pins s σ H _ I h) fun us s1 ⟨vs, H1, I1, r1, q1⟩ => ?_) hs rfl))
  obtain ⟨a, xs, ex, hq, q⟩ := q1
  subst ex
  cases r1 with
  | cons r rr =>
    cases rr
    cases r
    obtain ⟨its, rv, p', hz⟩ := I1.tuple hq
    refine enum1_begins (begins_tuple a its.toArray) (show s1.heap.IsTuple a its.toArray from p') fun h' he hit hsz hk => wpAny_pyIter_enum he ?_
    have I2 : Inv X pins σ H1 { s1 with heap := h' } := I1.kept (t' := s1.toks) hk
    refine ⟨s1.heap.objs.size + 1, [s1.heap.objs.size + 1, s1.heap.objs.size], _, _, H1, rfl, I2, turn_enumT a (s1.heap.objs.size + 1) s1.heap.objs.size, ⟨⟨.none, he⟩, ⟨_, hit, rfl, rfl⟩, Nat.succ_ne_self _⟩, fun b hb => ?_, q⟩
    have e' : b = s1.heap.objs.size + 1 ∨ b = s1.heap.objs.size := by simpa using hb
    have hle : s1.heap.objs.size ≤ b := by
      rcases e' with z | z
      · rw [z]; exact Nat.le_add_right _ _
      · rw [z]; exact Nat.le_refl _
    exact I1.fpOk hle (I1.hok.fresh hle)
def enuO (ds : List D) (C1 : CH) : Res Src := match ds with
  | [d] => match srcOf C1 d with
    | some S => .ok ⟨enumD 0 S.ds, S.chk⟩ C1
    | none => .bad
  | _ => .bad
def iEnu (f : Fa) : Fi := fun sc C => (f sc C).bind enuO
theorem ciEnu {l : Expr} {f : Fa} {p tpos : Pos} {elts : List Expr} {kk : Nat} (hg : Gl X "enumerate") (hm : X.mg "enumerate" = none) (hl : CA X W [l] f) (hs : starEach [l] X.env = [(false, eval l X.env)] := by rfl) : CI X W (.Tuple elts kk tpos) (.Call (.Name "enumerate" p) [l] [] pos) (iEnu f) := by
  refine PI_imp (PI_or (pi_enum hg hm hl hs) (pi_enumT hg hm hl hs)) fun σ H R ⟨ad, sc, C, hs, hh, h⟩ => ?_
  have fin : ∀ ds C1 ad1 H1 vs, Ext ad H ad1 H1 → HRel X.K ad1 H1 C1 → Rls X.K ad1 H1 ds vs → RP X.K W ad H σ (enuO ds C1) (fun S C' => ∀ J H', Aft X.K ad H C' (fun ad' H' => Wk X.K J ad' H' S) H' → R J H') →
      ((∀ d, ds = [d] → isTupD d = false) → ∃ a xs, vs = [.ref a] ∧ SqL X.K H1 a xs ∧ R (Ite X.K a) H1) ∧ ((∃ d, ds = [d] ∧ isTupD d = true) → ∃ a xs, vs = [.ref a] ∧ SqT X.K H1 a xs ∧ R (Itu X.K a) H1) := by
    intro ds C1 ad1 H1 vs E1 hh1 r1 q
    cases r1 with
    | nil => exact q.elim
    | cons r1 rr =>
      cases rr with
      | cons _ _ => exact q.elim
      | nil =>
        cases r1 with
        | tup g1 g2 => exact ⟨fun z => by (have := z _ rfl; cases this), fun _ => ⟨_, _, rfl, .of g1, q _ H1 ⟨ad1, E1, hh1, .enumT fun ad2 H2 C2 E _ _ => ⟨_, .of (E.tup _ _ g1), g2.mono E⟩⟩⟩⟩
        | fl g1 g2 => exact ⟨fun _ => ⟨_, _, rfl, g1.sq, q _ H1 ⟨ad1, E1, hh1, .enumL fun ad2 H2 C2 E _ _ => ⟨_, (g1.mono E).sq, g2.mono E⟩⟩⟩, fun ⟨d, e, z⟩ => by cases e; cases z⟩
        | ref ha =>
          rename_i n a
          refine ⟨fun _ => ?_, fun ⟨d, e, z⟩ => by cases e; cases z⟩
          cases e : C1[n]? with
          | none => simp only [enuO, srcOf, e] at q; exact q.elim
          | some o =>
            cases o with
            | lst ds =>
              simp only [enuO, srcOf, e] at q
              obtain ⟨u, h1, vs, rfl, rr⟩ := hh1.obj n _ a e ha
              refine ⟨a, vs, rfl, .of h1, q _ H1 ⟨ad1, E1, hh1, .enumL fun ad2 H2 C2 E hh2 hc => ?_⟩⟩
              obtain ⟨u, h1, ws, rfl, rr⟩ := hh2.obj n _ a hc (E.pre n a ha)
              exact ⟨ws, .of h1, rr⟩
            | dK _ => simp only [enuO, srcOf, e] at q; exact q.elim
            | dT _ => simp only [enuO, srcOf, e] at q; exact q.elim
        | _ => exact q.elim
  have h : RP X.K W ad H σ ((f sc C).bind enuO) _ := h
  by_cases z : ∃ d C1, f sc C = .ok [d] C1 ∧ isTupD d = true
  · obtain ⟨d, C1, e, z⟩ := z
    refine .inr ⟨ad, sc, C, hs, hh, ?_⟩
    rw [e] at h ⊢
    intro vs H1 ⟨ad1, E1, hh1, r1⟩
    exact (fin [d] C1 ad1 H1 vs E1 hh1 r1 h).2 ⟨d, rfl, z⟩
  · refine .inl ⟨ad, sc, C, hs, hh, ?_⟩
    cases e : f sc C with
    | bad => rw [e] at h; exact h
    | ex x C1 => rw [e] at h; exact h
    | ok ds C1 =>
      rw [e] at h
      intro vs H1 ⟨ad1, E1, hh1, r1⟩
      refine (fin ds C1 ad1 H1 vs E1 hh1 r1 h).1 fun d ed => ?_
      subst ed
      cases q : isTupD d with
      | false => rfl
      | true => exact absurd ⟨d, C1, e, q⟩ z

/-! ### is None -/
def isNonD : D → Bool
  | .non => true
  | _ => false
def oIs (neg : Bool) : Og := fun d e C => match e with
  | .non => match d with
    | .v _ => none
    | _ => some (.bl (if neg then !isNonD d else isNonD d), C)
  | _ => none
theorem isNon_rel {K : PySem.W.Frag} {ad : List Addr} {H : Hp} {d : D} {v : V} (hv : ∀ x, d ≠ .v x) (r : Rl K ad H d v) : decide (v = V.non) = isNonD d := by
  cases r with
  | v y => exact absurd rfl (hv _)
  | non => rfl
  | _ => exact decide_eq_false (fun z => by cases z)
theorem oIs_inv {neg : Bool} {d e z : D} {C C' : CH} (h : oIs neg d e C = some (z, C')) : e = .non ∧ (∀ x, d ≠ .v x) ∧ C' = C ∧ z = .bl (if neg then !isNonD d else isNonD d) := by
  unfold oIs at h
  split at h
  · split at h
    · cases h
    · rename_i n
      cases h
      exact ⟨rfl, fun x e => n x e, rfl, rfl⟩
  · cases h
theorem rgIs {K : PySem.W.Frag} : RG K (fun x y H Q => y = .non ∧ Q (.bl (decide (x = .non))) H) (oIs false) := by
  intro ad H C x y d e z C' hh rx ry h Q q
  obtain ⟨rfl, hv, rfl, rfl⟩ := oIs_inv h
  cases ry
  refine ⟨rfl, ?_⟩
  rw [isNon_rel hv rx]
  exact q _ H (.intro hh (.bl _))
theorem rgIsNot {K : PySem.W.Frag} : RG K (fun x y H Q => y = .non ∧ Q (.bl (!decide (x = .non))) H) (oIs true) := by
  intro ad H C x y d e z C' hh rx ry h Q q
  obtain ⟨rfl, hv, rfl, rfl⟩ := oIs_inv h
  cases ry
  refine ⟨rfl, ?_⟩
  rw [isNon_rel hv rx]
  exact q _ H (.intro hh (.bl _))
variable {a b : Expr} {fa fb : Fe}
theorem cIs (ha : CE X W a fa) (hb : CE X W b fb) : CE X W (.Compare a [.Is] [b] pos) (dBin (oIs false) fa fb) := cCmp op_isN rgIs ha hb (nomark _)
theorem cIsNot (ha : CE X W a fa) (hb : CE X W b fb) : CE X W (.Compare a [.IsNot] [b] pos) (dBin (oIs true) fa fb) := cCmp op_notN rgIsNot ha hb (nomark _)
theorem tIs (ha : CE X W a fa) (hb : CE X W b fb) : CT X W (.Compare a [.Is] [b] pos) (dTest (dBin (oIs false) fa fb)) := ctCmp op_isN rgIs ha hb (nomark _)
theorem tIsNot (ha : CE X W a fa) (hb : CE X W b fb) : CT X W (.Compare a [.IsNot] [b] pos) (dTest (dBin (oIs true) fa fb)) := ctCmp op_notN rgIsNot ha hb (nomark _)

/-! ### isinstance -/
theorem cTy {x : Str} {T : String} (hg : Gl X x) (hm : X.mg x = none) (hv : bootBuiltins x = some (.type T)) (hn : x ≠ "__name__" := by decide) (hd : (x == ("__debug__" : Str)) = false := by decide) : CE X W (.Name x pos) (dC (.v (.ty T))) :=
  cC (pe_bltn (v := .ty T) hg hm hv rfl hn hd) fun _ _ => .v _
def tyD (C : CH) : D → Option String
  | .non => some "NoneType"
  | .bl _ => some "bool"
  | .int _ => some "int"
  | .str _ => some "str"
  | .tup _ => some "tuple"
  | .fl _ => some "list"
  | .ref n => match C[n]? with
    | some (.lst _) => some "list"
    | some (.dK _) => some "dict"
    | some (.dT _) => some "dict"
    | none => none
  | .v _ => none
  | .xc _ _ _ _ => none
def tyNames : List String := ["NoneType", "bool", "int", "str", "tuple", "list", "dict"]
/-- which built-in class stands below which -/
def subT (t T : String) : Bool := decide (t = T) || (decide (t = "bool") && decide (T = "int"))
theorem tyD_mem {C : CH} {d : D} {t : String} (h : tyD C d = some t) : t ∈ tyNames := by
  unfold tyD at h
  split at h
  case h_7 =>
    split at h <;> cases h <;> decide
  all_goals (first | cases h; decide | cases h)
theorem tyD_rel {K : PySem.W.Frag} {ad : List Addr} {H : Hp} {C : CH} (hh : HRel K ad H C) {d : D} {v : V} {t : String} (r : Rl K ad H d v) (h : tyD C d = some t) : TyX K H v (.type t) := by
  cases r with
  | non => cases h; exact .base .non
  | bl b => cases h; exact .base (.bl _)
  | int i => cases h; exact .base (.int _)
  | str x => cases h; exact .base (.str _)
  | tup h1 r1 => cases h; exact .base (.tup h1)
  | fl h1 r1 =>
    cases h
    rcases h1 with ⟨o, z⟩ | ⟨o, its, n, z1, z2, _⟩
    · exact .base (.frz z)
    · exact .kList z1 z2
  | ref ha =>
    rename_i n a
    have h : (match C[n]? with | some (.lst _) => some "list" | some (.dK _) => some "dict" | some (.dT _) => some "dict" | none => none) = some t := h
    split at h
    · rename_i e
      cases h
      obtain ⟨u, h1, vs, rfl, r1⟩ := hh.obj n _ a e ha
      exact .base (.lst h1)
    · rename_i e
      cases h
      obtain ⟨u, h1, vs, rfl, r1⟩ := hh.obj n _ a e ha
      exact .base (.dK h1)
    · rename_i e
      cases h
      obtain ⟨u, h1, vs, rfl, r1⟩ := hh.obj n _ a e ha
      exact .base (.dT h1)
    · cases h
  | v x => cases h
  | xc _ _ _ => cases h
theorem kit_tab (K : PySem.W.Frag) : ∀ t ∈ tyNames, ∀ T ∈ ["bool", "int", "str", "tuple", "list", "dict"], PySem.W.kitOne K (.type t) (.type T) = some (subT t T) := by
  intro t ht T hT
  simp only [tyNames, List.mem_cons, List.not_mem_nil, or_false] at ht hT
  rcases ht with rfl | rfl | rfl | rfl | rfl | rfl | rfl <;> rcases hT with rfl | rfl | rfl | rfl | rfl | rfl <;> rfl
def gIsi : Og1 := fun ds C => match ds with
  | [d, .v (.ty T)] => (tyD C d).bind fun t => if T ∈ ["bool", "int", "str", "tuple", "list", "dict"] then some (.bl (subT t T), C) else none
  | _ => none
theorem cgIsi {K : PySem.W.Frag} : CG K (rIsi K) gIsi := by
  intro ad H C ds vs z C' hh rs e Q q
  unfold gIsi at e
  split at e
  · obtain ⟨t, e1, e⟩ := bind_inv e
    split at e
    · rename_i hT
      cases e
      cases rs with
      | cons r1 r2 =>
        cases r2 with
        | cons r2 r3 =>
          cases r3
          cases r2
          exact ⟨_, _, _, _, _, rfl, .ty _, tyD_rel hh r1 e1, kit_tab K t (tyD_mem e1) _ hT, q _ _ (.intro hh (.bl _))⟩
    · cases e
  · cases e
variable {x : Str} {p : Pos} {e : Expr} {es : List Expr} {fs : Fa}
theorem boot_isi : bootBuiltins "isinstance" = some (.builtin "isinstance") := by decide +kernel
theorem cIsi {e2 : Expr} (hg : Gl X "isinstance") (hm : X.mg "isinstance" = none) (ha : CA X W [e, e2] fs) (he : starEach [e, e2] X.env = (false, eval e X.env) :: starEach [e2] X.env := by rfl) (hpl : (backTo pos (starEach [e2] X.env)).any (·.1) = false := by rfl) : CE X W (.Call (.Name "isinstance" p) [e, e2] [] pos) (dCB gIsi fs) :=
  cCB call_isi cgIsi hg hm boot_isi ha (by decide) (by decide) he hpl

/-! ### d.get(k, x) -/
def isDD (C : CH) : D → Bool
  | .ref n => match C[n]? with
    | some (.dK _) => true
    | some (.dT _) => true
    | _ => false
  | _ => false
def get2O (o k x : D) (C3 : CH) : Res D := match dGetO C3 o k with
  | some (some z) => .ok z C3
  | some none => .ok x C3
  | none => .bad
def dGet2 (fo fk fx : Fe) : Fe := fun sc C => (fo sc C).bind fun o C1 => if isDD C1 o = true then (fk sc C1).bind fun k C2 => (fx sc C2).bind fun x C3 => get2O o k x C3 else .bad
theorem isDD_is {K : PySem.W.Frag} {ad : List Addr} {H : Hp} {C : CH} (hh : HRel K ad H C) {d : D} {v : V} (r : Rl K ad H d v) (h : isDD C d = true) : ∃ a, v = .ref a ∧ IsD H a := by
  cases r with
  | ref ha =>
    rename_i n a
    refine ⟨a, rfl, ?_⟩
    simp only [isDD] at h
    split at h
    · rename_i e
      obtain ⟨u, h1, vs, rfl, r1⟩ := hh.obj n _ a e ha
      exact .inl ⟨_, .of h1⟩
    · rename_i e
      obtain ⟨u, h1, vs, rfl, r1⟩ := hh.obj n _ a e ha
      exact .inr ⟨_, .of h1⟩
    · cases h
  | _ => cases h
variable {o f : Expr} {fo fk fx : Fe} {apos cpos : Pos}
theorem cGet2 (c : Ctx k X W) (ho : CE X W o fo) (he : CE X W e fk) (hf : CE X W f fx) (m : M2 X o "get" apos e f cpos := by exact ⟨rfl, rfl, rfl, rfl⟩) : CE X W (.Call (.Attribute o "get" apos) [e, f] [] cpos) (dGet2 fo fk fx) := by
  refine PE_imp (pe_dget2 c.un1 ho he hf m) fun σ H Q ⟨ad, sc, C, hs, hh, h⟩ => ?_
  refine tE_bind hs hh (.refl _ _) h fun d C1 ad1 H1 v E1 hs1 hh1 r1 h1 => ?_
  by_cases z : isDD C1 d = true
  · rw [if_pos z] at h1
    obtain ⟨a, rfl, hd⟩ := isDD_is hh1 r1 z
    refine ⟨a, rfl, hd, ?_⟩
    refine tE_bind hs1 hh1 E1 h1 fun kd C2 ad2 H2 kv E2 hs2 hh2 r2 h2 => ?_
    refine tE_bind hs2 hh2 (E1.trans E2) h2 fun xd C3 ad3 H3 xv E3 hs3 hh3 r3 h3 => ?_
    have EE := E1.trans (E2.trans E3)
    unfold get2O at h3
    cases e0 : dGetO C3 d kd with
    | none => rw [e0] at h3; exact h3.elim
    | some w =>
      rw [e0] at h3
      obtain ⟨a', w', e1, g, cs⟩ := dGet_rel hh3 (r1.mono (E2.trans E3)) (r2.mono E3) e0
      cases e1
      refine ⟨w', g, ?_⟩
      rcases cs with ⟨rfl, rfl⟩ | ⟨d', v', rfl, rfl, r'⟩
      · exact h3 _ H3 ⟨ad3, EE, hh3, r3⟩
      · exact h3 _ H3 ⟨ad3, EE, hh3, r'⟩
  · rw [if_neg z] at h1
    exact h1.elim

/-! ### xs * n -/
noncomputable def oRep : Og := fun d e C => match d, e with
  | .ref n, .int i => match C[n]? with
    | some (.lst xs) => if ck (-(2 ^ 62) ≤ i ∧ i < 2 ^ 62 ∧ xs.length * i.toNat ≤ 1000000) = true then some (.ref C.length, C ++ [.lst (List.replicate i.toNat xs).flatten]) else none
    | _ => none
  | _, _ => none
theorem Rls.flat {K : PySem.W.Frag} {ad : List Addr} {H : Hp} {ds : List D} {vs : List V} (r : Rls K ad H ds vs) : ∀ n : Nat, Rls K ad H (List.replicate n ds).flatten (List.replicate n vs).flatten
  | 0 => .nil
  | n + 1 => by
    rw [List.replicate_succ, List.replicate_succ, List.flatten_cons, List.flatten_cons]
    exact r.append (Rls.flat r n)
theorem rgRep {K : PySem.W.Frag} : RG K rRep oRep := by
  intro ad H C x y d e z C' hh rx ry h Q q
  unfold oRep at h
  split at h
  · rename_i n i
    split at h
    · rename_i xs e1
      split at h
      · rename_i hz
        obtain ⟨z1, z2, z3⟩ := ck_iff.mp hz
        cases h
        cases rx with
        | ref ha =>
          cases ry
          obtain ⟨u, h1, vs, rfl, rr⟩ := hh.obj n _ _ e1 ha
          refine ⟨_, i, vs, rfl, rfl, h1, Int.le_trans (by decide) z1, Int.lt_trans z2 (by decide), by rw [← rr.length]; exact mil z3, fun p hp => ?_⟩
          exact q _ _ ⟨ad ++ [p], ext_alloc hp, hh.alloc hp ⟨_, rfl, (rr.mono (ext_alloc hp)).flat _⟩, .ref (alloc_at hh)⟩
      · cases h
    · cases h
  · cases h
noncomputable def oMul2 : Og := orO oMul oRep
theorem cMul2 (ha : CE X W a fa) (hb : CE X W b fb) : CE X W (.BinOp a .Mult b pos) (dBin oMul2 fa fb) := cBin (op_mul.or op_rep) ((rgI bMul_ok fun _ _ _ _ => .int _).orO rgRep) ha hb

/-! ### list(range(..)), tuple(range(..)) -/
abbrev Fr := Sc → CH → Res (Int × Int)
def tR (K : PySem.W.Frag) (W : WX) (f : Fr) : L2.St → Hp → (Int → Int → Hp → Prop) → Prop := fun σ H Q => ∃ ad sc C, SRel K ad H sc σ ∧ HRel K ad H C ∧ RP K W ad H σ (f sc C) fun p C' => ∀ H', Aft K ad H C' (fun _ _ => True) H' → Q p.1 p.2 H'
abbrev CRg (X : Cx) (W : WX) (e : Expr) (f : Fr) : Prop := PRg X e (tR X.K W f)
def r1O : D → CH → Res (Int × Int)
  | .int n, C => .ok (0, n) C
  | _, _ => .bad
def r2O : D → D → CH → Res (Int × Int)
  | .int i, .int j, C => .ok (i, j) C
  | _, _, _ => .bad
def dR1 (f : Fe) : Fr := fun sc C => (f sc C).bind r1O
def dR2 (f g : Fe) : Fr := fun sc C => (f sc C).bind fun d C1 => (g sc C1).bind fun e C2 => r2O d e C2
theorem PRg_imp {e : Expr} {t t' : L2.St → Hp → (Int → Int → Hp → Prop) → Prop} (h : PRg X e t) (i : ∀ σ H Q, t' σ H Q → t σ H Q) : PRg X e t' := fun pins s σ H Q I z => h pins s σ H Q I (i σ H Q z)
theorem crg1 (hg : Gl X "range") (hm : X.mg "range" = none) (ha : CE X W a fa) (na : starEach [a] X.env = (false, eval a X.env) :: starEach [] X.env := by rfl) : CRg X W (.Call (.Name "range" p) [a] [] pos) (dR1 fa) := by
  refine PRg_imp (prg_1 hg hm ha na) fun σ H Q ⟨ad, sc, C, hs, hh, h⟩ => ?_
  refine tE_bind hs hh (.refl _ _) h fun d C1 ad1 H1 v E1 hs1 hh1 r1 h1 => ?_
  cases r1 with
  | int i => exact ⟨i, rfl, h1 H1 ⟨ad1, E1, hh1, trivial⟩⟩
  | _ => exact h1.elim
theorem crg2 (hg : Gl X "range") (hm : X.mg "range" = none) (ha : CE X W a fa) (hb : CE X W b fb) (na : starEach [a, b] X.env = (false, eval a X.env) :: starEach [b] X.env := by rfl) (nb : starEach [b] X.env = (false, eval b X.env) :: starEach [] X.env := by rfl) (hp : (backTo pos (starEach [b] X.env)).any (·.1) = false := by rfl) : CRg X W (.Call (.Name "range" p) [a, b] [] pos) (dR2 fa fb) := by
  refine PRg_imp (prg_2 hg hm ha hb na nb hp) fun σ H Q ⟨ad, sc, C, hs, hh, h⟩ => ?_
  refine tE_bind hs hh (.refl _ _) h fun d C1 ad1 H1 v E1 hs1 hh1 r1 h1 => ?_
  refine tE_bind hs1 hh1 E1 h1 fun e C2 ad2 H2 w E2 hs2 hh2 r2 h2 => ?_
  cases r1 with
  | int i =>
    cases r2 with
    | int j => exact ⟨i, j, rfl, rfl, h2 H2 ⟨ad2, E1.trans E2, hh2, trivial⟩⟩
    | _ => exact h2.elim
  | _ => exact h2.elim
theorem rg_rel {K : PySem.W.Frag} {ad : List Addr} {H : Hp} (a b : Int) : Rls K ad H (rngD a (b - a).toNat) (rgV a b) := by
  unfold rngD rgV
  have : ∀ l : List Nat, Rls K ad H (l.map fun (i : Nat) => D.int (a + i)) (l.map fun i => V.int (a + (i : Nat))) := by
    intro l
    induction l with
    | nil => exact .nil
    | cons x l ih => exact .cons (.int _) ih
  exact this _
noncomputable def okRg (p : Int × Int) : Bool := ck (RgOk p.1 p.2)
noncomputable def lrO (p : Int × Int) (C1 : CH) : Res D := if okRg p = true then .ok (.ref C1.length) (C1 ++ [.lst (rngD p.1 (p.2 - p.1).toNat)]) else .bad
noncomputable def trO (p : Int × Int) (C1 : CH) : Res D := if okRg p = true then .ok (.tup (rngD p.1 (p.2 - p.1).toNat)) C1 else .bad
noncomputable def dLstR (f : Fr) : Fe := fun sc C => (f sc C).bind lrO
noncomputable def dTupR (f : Fr) : Fe := fun sc C => (f sc C).bind trO
theorem tR_bind {K : PySem.W.Frag} {ad0 ad : List Addr} {H0 H : Hp} {sc : Sc} {C : CH} {σ : L2.St} {β : Type} {fa : Fr} {k : Int × Int → CH → Res β} {P : β → CH → Prop} {R : Int → Int → Hp → Prop} (hs : SRel K ad H sc σ) (hh : HRel K ad H C) (E : Ext ad0 H0 ad H)
    (h : RP K W ad0 H0 σ ((fa sc C).bind k) P)
    (n : ∀ d C1 ad1 H1, Ext ad H ad1 H1 → SRel K ad1 H1 sc σ → HRel K ad1 H1 C1 → RP K W ad0 H0 σ (k d C1) P → R d.1 d.2 H1) : tR K W fa σ H R := by
  refine ⟨ad, sc, C, hs, hh, ?_⟩
  refine (h.bind).later E fun d C1 q H1 a => ?_
  obtain ⟨ad1, E1, h1, _⟩ := a
  exact n d C1 ad1 H1 E1 (hs.mono E1) h1 q
variable {fr : Fr}
theorem cLstR (c : Ctx k X W) (hg : Gl X "list") (hm : X.mg "list" = none) (he : CRg X W e fr) (na : starEach [e] X.env = (false, eval e X.env) :: starEach [] X.env := by rfl) : CE X W (.Call (.Name "list" p) [e] [] pos) (dLstR fr) := by
  refine PE_imp (pe_listRg c.calm hg hm he na) fun σ H Q ⟨ad, sc, C, hs, hh, h⟩ => ?_
  refine tR_bind hs hh (.refl _ _) h fun d C1 ad1 H1 E1 hs1 hh1 h1 => ?_
  unfold lrO at h1
  split at h1
  · rename_i z
    exact ⟨ck_iff.mp z, fun p hp => h1 _ _ ⟨ad1 ++ [p], E1.trans (ext_alloc hp), hh1.alloc hp ⟨_, rfl, rg_rel _ _⟩, .ref (alloc_at hh1)⟩⟩
  · exact h1.elim
theorem cTupR (c : Ctx k X W) (hg : Gl X "tuple") (hm : X.mg "tuple" = none) (he : CRg X W e fr) (na : starEach [e] X.env = (false, eval e X.env) :: starEach [] X.env := by rfl) : CE X W (.Call (.Name "tuple" p) [e] [] pos) (dTupR fr) := by
  refine PE_imp (pe_tupRg c.calm hg hm he na) fun σ H Q ⟨ad, sc, C, hs, hh, h⟩ => ?_
  refine tR_bind hs hh (.refl _ _) h fun d C1 ad1 H1 E1 hs1 hh1 h1 => ?_
  unfold trO at h1
  split at h1
  · rename_i z
    exact ⟨ck_iff.mp z, fun p hp => h1 _ _ ⟨ad1, E1.trans (ext_new hp), hh1.new hp, .tup upd_same (rg_rel _ _)⟩⟩
  · exact h1.elim
end
end Cl
set_option maxHeartbeats 4000000
/-! Cl, part O: pop, extend, three targets. -/
namespace Cl
open PySem PySem.Spec L2

theorem Rls.eraseIdx {K : PySem.W.Frag} {ad : List Addr} {H : Hp} : ∀ {ds : List D} {vs : List V} (i : Nat), Rls K ad H ds vs → Rls K ad H (ds.eraseIdx i) (vs.eraseIdx i)
  | _, _, _, .nil => by simpa using Rls.nil
  | _, _, 0, .cons r t => by simpa using t
  | _, _, i + 1, .cons r t => by simpa using Rls.cons r (Rls.eraseIdx i t)
section
variable {k : Nat} {X : Cx} {W : WX} {pos apos cpos : Pos} {o e : Expr} {fo : Fe} {fs : Fa}
/-- a method without arguments -/
def dBM0 (chk : CH → D → Bool) (g : Ogm) (fo : Fe) : Fe := fun sc C => (fo sc C).bind fun d C1 => if chk C1 d = true then .lift (g d [] C1) else .bad
theorem bm0 {K : PySem.W.Frag} {r : V → List V → Hp → VK → Prop} {chk : CH → D → Bool} {g : Ogm} {T : String} (ty : ∀ {ad H C d v}, HRel K ad H C → Rl K ad H d v → chk C d = true → tyV K T v H) (mg : MG K r g) {fo : Fe} {σ : L2.St} {H : Hp} {Q : VK}
    (h : tE K W (dBM0 chk g fo) σ H Q) : tBM0 K T r (tE K W fo) σ H Q := by
  obtain ⟨ad, sc, C, hs, hh, h⟩ := h
  refine tE_bind hs hh (.refl _ _) h fun d C1 ad1 H1 v E1 hs1 hh1 r1 h1 => ?_
  by_cases hc : chk C1 d = true
  · rw [if_pos hc] at h1
    obtain ⟨z, C3, e, q⟩ := RP.lift h1
    exact ⟨ty hh1 r1 hc, mg ad1 H1 C1 d [] v [] z C3 hh1 r1 .nil e Q fun v H' a => q v H' (a.trans E1)⟩
  · rw [if_neg hc] at h1
    exact h1.elim
def gPop : Ogm := fun d ds C => match d, ds with
  | .ref n, [] => match C[n]? with
    | some (.lst xs) => (xs[xs.length - 1]?).map fun y => (y, C.set n (.lst xs.dropLast))
    | _ => none
  | _, _ => none
theorem mgPop {K : PySem.W.Frag} : MG K rPop gPop := by
  intro ad H C d ds v vs z C' hh r rs e Q q
  unfold gPop at e
  split at e
  · rename_i n
    split at e
    · rename_i xs e1
      cases e2 : xs[xs.length - 1]? with
      | none => rw [e2] at e; cases e
      | some y =>
        rw [e2] at e
        cases e
        cases r with
        | ref ha =>
          rename_i a
          cases rs
          obtain ⟨u, h1, ws, rfl, rr⟩ := hh.obj n _ a e1 ha
          obtain ⟨w, e3, rw'⟩ := rr.get e2
          have E := ext_set hh e1 ha (u := .lst ws.dropLast)
          exact ⟨a, ws, w, rfl, rfl, h1, by rw [← rr.length]; exact e3, q _ _ ⟨ad, E, hh.set e1 ha ⟨_, rfl, (rr.mono E).dropLast⟩, rw'.mono E⟩⟩
    · cases e
  · cases e
theorem cPop (ho : CE X W o fo) (hbase : attributeBase o "pop" X.env (eval o X.env) = eval o X.env := by rfl) (hline : (apos.endLine == cpos.line) = true := by rfl) : CE X W (.Call (.Attribute o "pop" apos) [] [] cpos) (dBM0 isLst gPop fo) :=
  PE_imp (pe_bm0 PySem.F.plainAttrs_list PySem.F.slot_list_pop PySem.F.type_list_pop mt_pop ho hbase hline) fun _ _ _ h => bm0 (fun h r c => isLst_ty h r c) mgPop h
noncomputable def gPopAt : Ogm := fun d ds C => match d, ds with
  | .ref n, [.int i] => match C[n]? with
    | some (.lst xs) => if ck (-(2 ^ 63) ≤ i ∧ i < 2 ^ 63) = true then (ixN xs.length i).bind fun j => (xs[j]?).map fun y => (y, C.set n (.lst (xs.eraseIdx j))) else none
    | _ => none
  | _, _ => none
theorem mgPopAt {K : PySem.W.Frag} : MG K rPopAt gPopAt := by
  intro ad H C d ds v vs z C' hh r rs e Q q
  unfold gPopAt at e
  split at e
  · rename_i n i
    split at e
    · rename_i xs e1
      split at e
      · rename_i hz
        obtain ⟨z1, z2⟩ := ck_iff.mp hz
        obtain ⟨j, e2, e⟩ := bind_inv e
        cases e3 : xs[j]? with
        | none => rw [e3] at e; cases e
        | some y =>
          rw [e3] at e
          cases e
          cases r with
          | ref ha =>
            rename_i a
            cases rs with
            | cons r1 r2 =>
              cases r2
              cases r1
              obtain ⟨u, h1, ws, rfl, rr⟩ := hh.obj n _ a e1 ha
              obtain ⟨w, e4, rw'⟩ := rr.get e3
              have E := ext_set hh e1 ha (u := .lst (ws.eraseIdx j))
              exact ⟨a, ws, i, j, w, rfl, rfl, h1, z1, z2, by rw [← rr.length]; exact (ixN_seq e2).1, e4, q _ _ ⟨ad, E, hh.set e1 ha ⟨_, rfl, (rr.mono E).eraseIdx j⟩, rw'.mono E⟩⟩
      · cases e
    · cases e
  · cases e
theorem cPopAt (ho : CE X W o fo) (ha : CA X W [e] fs) (hbase : attributeBase o "pop" X.env (eval o X.env) = eval o X.env := by rfl)
    (hfew : ((backTo pos (starEach [e] X.env)).all (fun x => !x.1) && (backToKw pos (keywordEach [] X.env)).all (fun x => x.1.isSome)
      && decide ([e].length + ([] : List Keyword).length + (if ([] : List Keyword).isEmpty then 0 else 1) < 30)) = true := by rfl)
    (hline : (apos.endLine == pos.line) = true := by rfl) (hs : starEach [e] X.env = (false, eval e X.env) :: starEach [] X.env := by rfl) :
    CE X W (.Call (.Attribute o "pop" apos) [e] [] pos) (dBM isLst gPopAt fo fs) :=
  PE_imp (pe_bm PySem.F.plainAttrs_list PySem.F.slot_list_pop PySem.F.type_list_pop mt_popAt ho ha hbase hfew hline hs) fun _ _ _ h => bm (fun h r c => isLst_ty h r c) mgPopAt h
def gExt : Ogm := fun d ds C => match d, ds with
  | .ref n, [.ref m] => match C[n]?, C[m]? with
    | some (.lst xs), some (.lst ys) => if xs.length + ys.length ≤ 1000000 then some (.non, C.set n (.lst (xs ++ ys))) else none
    | _, _ => none
  | _, _ => none
theorem mgExt {K : PySem.W.Frag} : MG K rExtend gExt := by
  intro ad H C d ds v vs z C' hh r rs e Q q
  unfold gExt at e
  split at e
  · rename_i n m
    split at e
    · rename_i xs ys e1 e2
      split at e
      · rename_i hz
        cases e
        cases r with
        | ref ha =>
          rename_i a
          cases rs with
          | cons r1 r2 =>
            cases r2
            cases r1 with
            | ref hb =>
              rename_i b
              obtain ⟨u, h1, ws, rfl, rr⟩ := hh.obj n _ a e1 ha
              obtain ⟨u, h2, us, rfl, ru⟩ := hh.obj m _ b e2 hb
              have E := ext_set hh e1 ha (u := .lst (ws ++ us))
              exact ⟨a, b, ws, us, rfl, rfl, h1, h2, by rw [← rr.length, ← ru.length]; exact mil hz, q _ _ ⟨ad, E, hh.set e1 ha ⟨_, rfl, (rr.append ru).mono E⟩, .non⟩⟩
      · cases e
    · cases e
  · cases e
theorem cExt (ho : CE X W o fo) (ha : CA X W [e] fs) (hbase : attributeBase o "extend" X.env (eval o X.env) = eval o X.env := by rfl)
    (hfew : ((backTo pos (starEach [e] X.env)).all (fun x => !x.1) && (backToKw pos (keywordEach [] X.env)).all (fun x => x.1.isSome)
      && decide ([e].length + ([] : List Keyword).length + (if ([] : List Keyword).isEmpty then 0 else 1) < 30)) = true := by rfl)
    (hline : (apos.endLine == pos.line) = true := by rfl) (hs : starEach [e] X.env = (false, eval e X.env) :: starEach [] X.env := by rfl) :
    CE X W (.Call (.Attribute o "extend" apos) [e] [] pos) (dBM isLst gExt fo fs) :=
  PE_imp (pe_bm PySem.F.plainAttrs_list PySem.F.slot_list_extend PySem.F.type_list_extend mt_extend ho ha hbase hfew hline hs) fun _ _ _ h => bm (fun h r c => isLst_ty h r c) mgExt h
/-- a, b, c = x, y, z -/
def sPar3 (i j l : Nat) (fs : Fa) : Fs := fun sc C => (fs sc C).st sc fun ds C1 => match ds with
  | [d, e, f] => .nx (((sc.set i (some d)).set j (some e)).set l (some f)) C1
  | _ => .bad
theorem csPar3 {i j l : Nat} {x y z : Str} {a b c' : Expr} {px py' pz pt pos : Pos} {kt k2 pt2} (c : Ctx k X W) (ha : CA X W [a, b, c'] fs) (hi : X.N[i]? = some x := by rfl) (hj : X.N[j]? = some y := by rfl) (hl : X.N[l]? = some z := by rfl)
    (hij : i ≠ j := by decide) (hil : i ≠ l := by decide) (hjl : j ≠ l := by decide)
    (hx : X.env.scope.names.lookup x = some .local := by rfl) (hy : X.env.scope.names.lookup y = some .local := by rfl) (hz : X.env.scope.names.lookup z = some .local := by rfl)
    (hw : swappedStores [.Tuple [.Name x px, .Name y py', .Name z pz] kt pt] (.Tuple [a, b, c'] k2 pt2) X.env = pure (some [x, y, z]) := by rfl)
    (hs : swapsWithSole [.Tuple [.Name x px, .Name y py', .Name z pz] kt pt] (.Tuple [a, b, c'] k2 pt2) pos.line X.env = pure false := by rfl) :
    CS X W (.Assign [.Tuple [.Name x px, .Name y py', .Name z pz] kt pt] (.Tuple [a, b, c'] k2 pt2) pos) (sPar3 i j l fs) := by
  refine PS_imp (ps_par3 c.calm c.nd hi hj hl hij hil hjl hx hy hz ha hw hs) fun D σ H ⟨ad, sc, C, hs, hh, h⟩ => ?_
  refine sA_bind hs hh (.refl _ _) h fun ds C1 ad1 H1 vs E1 hs1 hh1 r1 h1 => ?_
  split at h1
  · cases r1 with
    | cons r1 r2 =>
      cases r2 with
      | cons r2 r3 =>
        cases r3 with
        | cons r3 r4 =>
          cases r4
          exact ⟨_, _, _, rfl, h1 _ H1 ⟨ad1, E1, hh1, ((hs1.set i r1).set j r2).set l r3⟩⟩
  · exact h1.elim
end
end Cl
set_option maxHeartbeats 4000000
/-! Cl, part P: own exceptions: made, raised, caught, read. -/
namespace Cl
open PySem PySem.Spec L2

/-! ### the making -/
def spI1 (K : PySem.W.Frag) (fl : Str) : Sp := fun vs H Q _ => ∃ (a C : Addr) (v : V), vs = [.ref a, v] ∧ OexC K C ∧ PySem.W.findIn K (.ref C) fl = some none ∧ H a = some (exo a C none) ∧
  ∀ dx, H dx = none → dx ≠ a → Q .non (upd (upd H dx (exd dx [(fl, v)])) a (exo a C (some dx)))
def spI2 (K : PySem.W.Frag) (f1 f2 : Str) : Sp := fun vs H Q _ => ∃ (a C : Addr) (v w : V), vs = [.ref a, v, w] ∧ OexC K C ∧ PySem.W.findIn K (.ref C) f1 = some none ∧ PySem.W.findIn K (.ref C) f2 = some none ∧ H a = some (exo a C none) ∧
  ∀ dx, H dx = none → dx ≠ a → Q .non (upd (upd (upd H dx (exd dx [(f1, v)])) a (exo a C (some dx))) dx (exd dx [(f2, w), (f1, v)]))
section
variable {P : Program} {w : World} {K : PySem.W.Frag} {mg : Str → Option Value} {base : Heap} {qual x y f1 f2 : Str} {st : Stmt} {f : Addr} {fd : FuncData}
theorem init1 (Fu : Fun K "__init__" qual st f fd) (S : FnScope ["self", x] ["self", x] (defScope st))
    (hb : ∀ (cdv : Value) (A : Around) (outer : List Env) (s : Shared) (H : Hp) (E : XK), PSs (cxOf CX0 P w K mg base ["self", x] qual (defScope st) f cdv A outer s H E).nox (defBody st) (tOst K f1 (tVar 0) (tVar 1))) :
    FnOk P w K mg base CX0 1 f fd ["self", x] (spI1 K f1) := by
  refine Fu.ok S (fun vs H Q E ⟨a, C, v, e, _⟩ => by rw [e]; rfl) fun cdv A outer s H vs Q E hr sp => ⟨_, hb cdv A outer s H E, ?_⟩
  obtain ⟨a, C, v, rfl, T, hn, ha, q⟩ := sp
  exact ⟨v, rfl, V.ref a, rfl, a, C, rfl, T, hn, .inl ⟨ha, q⟩⟩
theorem init2 (Fu : Fun K "__init__" qual st f fd) (S : FnScope ["self", x, y] ["self", x, y] (defScope st))
    (hb : ∀ (cdv : Value) (A : Around) (outer : List Env) (s : Shared) (H : Hp) (E : XK), PSs (cxOf CX0 P w K mg base ["self", x, y] qual (defScope st) f cdv A outer s H E).nox (defBody st) (tSeq (tOst K f1 (tVar 0) (tVar 1)) (tOst K f2 (tVar 0) (tVar 2)))) :
    FnOk P w K mg base CX0 1 f fd ["self", x, y] (spI2 K f1 f2) := by
  refine Fu.ok S (fun vs H Q E ⟨a, C, v, _, e, _⟩ => by rw [e]; rfl) fun cdv A outer s H vs Q E hr sp => ⟨_, hb cdv A outer s H E, ?_⟩
  obtain ⟨a, C, v, w', rfl, T, hn, hn2, ha, q⟩ := sp
  refine ⟨v, rfl, V.ref a, rfl, a, C, rfl, T, hn, .inl ⟨ha, fun dx hx hne => ?_⟩⟩
  exact ⟨w', rfl, V.ref a, rfl, a, C, rfl, T, hn2, .inr ⟨dx, [(f1, v)], upd_same, by rw [upd_ne hne]; exact upd_same, (by show 1 ≤ 900; decide), q dx hx hne⟩⟩
end
/-- C(e, ..): its fields -/
def tMkX (C : Addr) (ns : List Str) (ta : TA) : L2.St → Hp → XK → Prop := fun σ H Q => ta σ H fun vs H1 => vs.length = ns.length ∧ ∀ d H', (∀ b u, H1 b = some u → H' b = some u) → H' d = some (.xd (ns.zip vs).reverse) → Q (.ref C) (some d) H'
/-- what the written part says of an own exception class with fields ns -/
structure ExcT (P : Program) (w : World) (K : PySem.W.Frag) (mg : Str → Option Value) (base : Heap) (x : Str) (C : Addr) (ns : List Str) : Prop where
  o : OexC K C
  xf : XfC K C
  no : ∀ n ∈ ns, PySem.W.findIn K (.ref C) n = some none
  gC : mg x = some (.ref C)
  em : PySem.W.exmOne K (.ref C) (.ref C) = some true
  ini : ∃ (fI : Addr) (fd : FuncData) (ps : List Str), PySem.W.findIn K (.ref C) "__init__" = some (some (.ref fI)) ∧ PySem.W.typeIn K (.ref fI) = some (.type "function") ∧ Binds K fd ps [] ∧
    ((∃ n, ns = [n] ∧ FnOk P w K mg base CX0 1 fI fd ps (spI1 K n)) ∨ ∃ n m, ns = [n, m] ∧ FnOk P w K mg base CX0 1 fI fd ps (spI2 K n m))
theorem tA_mono {K : PySem.W.Frag} {W : WX} {fs : Fa} {σ : L2.St} {H : Hp} {Q Q' : List V → Hp → Prop} (h : tA K W fs σ H Q) (i : ∀ vs H', Q vs H' → Q' vs H') : tA K W fs σ H Q' := by
  obtain ⟨ad, sc, C, hs, hh, q⟩ := h
  exact ⟨ad, sc, C, hs, hh, q.imp fun ds C' z vs H' a => i vs H' (z vs H' a)⟩
section
variable {X : Cx} {W : WX} {x : Str} {C : Addr} {ns : List Str} {e : Expr} {es : List Expr} {fs : Fa} {p pos : Pos}
theorem pmkX (T : ExcT X.prog X.w X.K X.mg X.base x C ns) (hr : Room 2 X.A) (hg : Gl X x) (ha : CA X W (e :: es) fs)
    (hdb : (x == ("__debug__" : Str)) = false := by decide) (he : starEach (e :: es) X.env = (false, eval e X.env) :: starEach es X.env := by rfl) (hpl : (backTo pos (starEach es X.env)).any (·.1) = false := by rfl) :
    PMk X (.Call (.Name x p) (e :: es) [] pos) (tMkX C ns (tA X.K W fs)) := by
  obtain ⟨fI, fd, ps, iC, tI, hb, ho⟩ := T.ini
  rcases ho with ⟨n, rfl, F1⟩ | ⟨n, m, rfl, F1⟩
  · intro pins s σ H Q I h
    refine pmk_oex (k := 1) (dvs := []) T.o iC tI F1 hr hb .nil L2.pass0 hg T.gC ha hdb he hpl pins s σ H Q I (tA_mono h fun vs H1 ⟨hl, q⟩ => ?_)
    match vs, hl with
    | [v], _ =>
      refine ⟨(by show 1 ≤ 1000; decide), fun a na => ⟨a, C, v, rfl, T.o, T.no _ (by simp), upd_same, fun dx hx hne => ⟨rfl, dx, [(n, v)], upd_same, by rw [upd_ne hne]; exact upd_same, by rw [upd_ne hne] at hx; exact hx, q dx _ (fun b u z => ?_) (by rw [upd_same]; rfl)⟩⟩⟩
      have h1 : b ≠ a := fun e => by rw [e, na] at z; cases z
      have h2 : b ≠ dx := fun e => by rw [upd_ne hne] at hx; rw [e, hx] at z; cases z
      rw [upd_ne h2]
      unfold del
      rw [if_neg h1, upd_ne h1, upd_ne h2, upd_ne h1]
      exact z
  · intro pins s σ H Q I h
    refine pmk_oex (k := 1) (dvs := []) T.o iC tI F1 hr hb .nil L2.pass0 hg T.gC ha hdb he hpl pins s σ H Q I (tA_mono h fun vs H1 ⟨hl, q⟩ => ?_)
    match vs, hl with
    | [v, v2], _ =>
      refine ⟨(by show 2 ≤ 1000; decide), fun a na => ⟨a, C, v, v2, rfl, T.o, T.no _ (by simp), T.no _ (by simp), upd_same, fun dx hx hne => ⟨rfl, dx, [(m, v2), (n, v)], by rw [upd_ne (Ne.symm hne)]; exact upd_same, upd_same, by rw [upd_ne hne] at hx; exact hx, q dx _ (fun b u z => ?_) (by rw [upd_same]; rfl)⟩⟩⟩
      have h1 : b ≠ a := fun e => by rw [e, na] at z; cases z
      have h2 : b ≠ dx := fun e => by rw [upd_ne hne] at hx; rw [e, hx] at z; cases z
      rw [upd_ne h2]
      unfold del
      rw [if_neg h1, upd_ne h2, upd_ne h1, upd_ne h2, upd_ne h1]
      exact z
end

/-! ### raise -/
theorem ext_grow {ad : List Addr} {H H' : Hp} (g : ∀ b u, H b = some u → H' b = some u) : Ext ad H ad H' := ⟨fun _ _ h => h, fun a vs h => g a _ h, fun a o u h => g a _ h, fun a vs h => g a _ h⟩
theorem HRel.grow {K : PySem.W.Frag} {ad : List Addr} {H H' : Hp} {C : CH} (h : HRel K ad H C) (g : ∀ b u, H b = some u → H' b = some u) : HRel K ad H' C :=
  ⟨h.len, fun n o a e1 e2 => by
    obtain ⟨u, z1, z2⟩ := h.obj n o a e1 e2
    exact ⟨u, g a u z1, z2.mono (ext_grow g)⟩, h.inj⟩
def rsO (C : Addr) (ns : List Str) (sc : Sc) (ds : List D) (C1 : CH) : SOut := if ds.length = ns.length ∧ ns ≠ [] then .ex ⟨C, (ns.zip ds).reverse⟩ sc C1 else .bad
def sRaise (C : Addr) (ns : List Str) (fs : Fa) : Fs := fun sc C0 => (fs sc C0).st sc (rsO C ns sc)
theorem kr_zip {K : PySem.W.Frag} {ad : List Addr} {H : Hp} : ∀ {ns : List Str} {ds : List D} {vs : List V}, Rls K ad H ds vs → KR K ad H (ns.zip ds) (ns.zip vs)
  | [], _, _, _ => .nil
  | _ :: _, _, _, .nil => .nil
  | _ :: _, _, _, .cons r t => .cons ⟨rfl, r⟩ (kr_zip t)
theorem kr_app {K : PySem.W.Frag} {ad : List Addr} {H : Hp} {xs xs2 : List (Str × D)} {ys ys2 : List (Str × V)} (h : KR K ad H xs ys) (h2 : KR K ad H xs2 ys2) : KR K ad H (xs ++ xs2) (ys ++ ys2) := by
  induction h with
  | nil => exact h2
  | cons r t ih => exact .cons r ih
theorem kr_rev {K : PySem.W.Frag} {ad : List Addr} {H : Hp} {xs : List (Str × D)} {ys : List (Str × V)} (h : KR K ad H xs ys) : KR K ad H xs.reverse ys.reverse := by
  induction h with
  | nil => exact .nil
  | cons r t ih =>
    rw [List.reverse_cons, List.reverse_cons]
    exact kr_app ih (.cons r .nil)
theorem kr_split {K : PySem.W.Frag} {ad : List Addr} {H : Hp} {xs : List (Str × D)} {ys : List (Str × V)} (h : KR K ad H xs ys) : xs.map (·.1) = ys.map (·.1) ∧ Rls K ad H (xs.map (·.2)) (ys.map (·.2)) := by
  induction h with
  | nil => exact ⟨rfl, .nil⟩
  | cons r t ih => exact ⟨by rw [List.map_cons, List.map_cons, r.1, ih.1], .cons r.2 ih.2⟩
section
variable {k : Nat} {X : Cx} {W : WX} {x : Str} {C : Addr} {ns : List Str} {e : Expr} {es : List Expr} {fs : Fa} {p pos pos' : Pos}
theorem csRaise (c : Ctx (k + 2) X W) (T : ExcT X.prog X.w X.K X.mg X.base x C ns) (ha : CA X W (e :: es) fs) (hg : Gl X x := by rfl)
    (hdb : (x == ("__debug__" : Str)) = false := by decide) (he : starEach (e :: es) X.env = (false, eval e X.env) :: starEach es X.env := by rfl) (hpl : (backTo pos (starEach es X.env)).any (·.1) = false := by rfl) :
    CS X W (.Raise (some (.Call (.Name x p) (e :: es) [] pos)) none pos') (sRaise C ns fs) := by
  refine PS_imp (ps_raise c.calm c.tk (pmkX T (c.room.mono (by omega)) hg ha hdb he hpl)) fun D σ H ⟨ad, sc, C0, hs, hh, h⟩ => ?_
  refine sA_bind hs hh (.refl _ _) h fun ds C1 ad1 H1 vs E1 hs1 hh1 r1 h1 => ?_
  unfold rsO at h1
  split at h1
  · rename_i hl
    refine ⟨by rw [← r1.length]; exact hl.1, fun d H' g ed => ?_⟩
    have E2 := ext_grow (ad := ad1) g
    refine h1 (.ref C) (some d) σ H' rfl ⟨ad1, E1.trans E2, hh1.grow g, ?_, hs1.mono E2⟩
    have kr := kr_rev (kr_zip (ns := ns) (r1.mono E2))
    cases q : (ns.zip ds).reverse with
    | nil =>
      exfalso
      have := congrArg List.length q
      rw [List.length_reverse, List.length_zip, hl.1, Nat.min_self, List.length_nil] at this
      exact hl.2 (List.eq_nil_of_length_eq_zero this)
    | cons p r => rw [q] at kr; exact ⟨d, _, rfl, ed, kr⟩
  · exact h1.elim

/-! ### try .. except X as n -/
open Classical in
noncomputable def allA (f : Addr → Addr → SOut) : SOut := if ∀ a b, f a b = f 0 0 then f 0 0 else .bad
theorem allA_c (o : SOut) : allA (fun _ _ => o) = o := by unfold allA; rw [if_pos fun _ _ => rfl]
theorem allA_at {f : Addr → Addr → SOut} (h : allA f ≠ .bad) (a b : Addr) : f a b = allA f := by
  unfold allA at h ⊢
  by_cases z : ∀ a b, f a b = f 0 0
  · rw [if_pos z]; exact z a b
  · rw [if_neg z] at h; exact absurd rfl h
def postX (i : Nat) : SOut → SOut
  | .nx sc C => .nx (sc.set i none) C
  | .bk sc C => .bk (sc.set i none) C
  | .ct sc C => .ct (sc.set i none) C
  | .rt d C => .rt d C
  | _ => .bad
def slotX (a dd : Addr) (fs : List (Str × D)) : Option D := some (.xc a dd (fs.map (·.1)) (fs.map (·.2)))
/-- the class C is caught; of the classes in no it is known that they aren't -/
noncomputable def sTryAs (C : Addr) (no : List Addr) (i : Nat) (gb : Fs) (gs : Addr → Addr → Fs) : Fs := fun sc C0 => match gb sc C0 with
  | .ex x sc' C' => if x.cls = C then (if x.fs = [] then .bad else allA fun a dd => postX i (gs a dd (sc'.set i (slotX a dd x.fs)) C')) else if x.cls ∈ no then .ex x sc' C' else .bad
  | o => o
theorem PSs_pre {X : Cx} {sts : List Stmt} {p : Prop} {t : TS} (h : p → PSs X sts t) : PSs X sts (fun D σ H => p ∧ t D σ H) := ⟨fun pins s σ H D I z => (h z.1).run pins s σ H D I z.2⟩
theorem csTryAs {n : Str} {np pos2 : Pos} {body suite : List Stmt} {b₀ : Stmt} {no : List Addr} {gb : Fs} {gs : Addr → Addr → Fs} (i : Nat) (c : Ctx k X W) (T : ExcT X.prog X.w X.K X.mg X.base x C ns) (hno : ∀ A ∈ no, PySem.W.exmOne X.K (.ref A) (.ref C) = some false)
    (hb : ∀ (W' : WX) (pn : List (Addr × Obj)) (xe : Value → Shared → Prop), Ctx k (X.tr pn xe) W' → CSs (X.tr pn xe) W' body gb)
    (hsu : ∀ (a dd : Addr) (oe : Obj) (pn : List (Addr × Obj)), Zc (.ref C) (some dd) oe → (∃ vs, oe.data = .fields vs) → CSs (X.suite a ((a, oe) :: pn)) (fun _ _ _ _ => False) (b₀ :: suite) (gs a dd))
    (hs : X.stack = X.env :: X.outer := by rfl) (hf : X.env.frame = some X.env.locals := by rfl) (hi : X.N[i]? = some n := by rfl) (hln : X.env.kindOf n = some .local := by rfl) (hg : Gl X x := by rfl) (hdb : (x == ("__debug__" : Str)) = false := by decide) :
    CS X W (.Try body [.ExceptHandler (some (.Name x np)) (some n) (b₀ :: suite) pos2] [] [] pos) (sTryAs C no i gb gs) := by
  refine PS_imp (ps_try_as (tb := fun W' => tS X.K W' gb) (ts := fun a cls d => fun D σ H => (cls = .ref C ∧ d = some (d.getD 0)) ∧ tS X.K (fun _ _ _ _ => False) (gs a (d.getD 0)) D σ H) hs hf c.nd hi hln (⟨hg, hdb, .inl T.gC⟩ : Names X x (.ref C)) c.tk
    (fun W' pn xe tk ps => hb W' pn xe ⟨tk, c.calm, c.room, c.gd, c.nd, ps⟩)
    (fun a oe cls d pn hz hd => PSs_pre fun ⟨e1, e2⟩ => hsu a (d.getD 0) oe pn (by rw [← e1, ← e2]; exact hz) hd)) fun D σ H ⟨ad, sc, C0, hs, hh, h⟩ => ?_
  refine ⟨ad, sc, C0, hs, hh, ?_⟩
  unfold sTryAs at h
  cases e : gb sc C0 with
  | nx sc' C' => rw [e] at h; exact h
  | rt d C' => rw [e] at h; exact h
  | bk sc' C' => rw [e] at h; exact h
  | ct sc' C' => rw [e] at h; exact h
  | bad => rw [e] at h; exact h
  | ex y sc' C' =>
    rw [e] at h
    simp only at h
    intro cv d σ' H' ecv ⟨ad', E', hh', xf, hs'⟩
    subst ecv
    by_cases z : y.cls = C
    · rw [if_pos z] at h
      refine ⟨true, by rw [z]; exact T.em, fun _ a na => ?_, (fun q => nomatch q)⟩
      by_cases zf : y.fs = []
      · rw [if_pos zf] at h; exact h.elim
      · rw [if_neg zf] at h
        cases ef : y.fs with
        | nil => exact absurd ef zf
        | cons p r =>
          rw [ef] at xf
          obtain ⟨dd, vs, rfl, hd, kr⟩ := xf
          obtain ⟨k1, k2⟩ := kr_split kr
          refine ⟨⟨by rw [z], rfl⟩, ad', sc'.set i (slotX a dd y.fs), C', ?_, hh', ?_⟩
          · refine hs'.set i ?_
            rw [ef]
            exact .xc hd k1 k2
          · have nb : allA (fun a dd => postX i (gs a dd (sc'.set i (slotX a dd y.fs)) C')) ≠ .bad := fun q => by rw [q] at h; exact h
            rw [← allA_at nb a dd] at h
            show SPo X.K _ ad' H' _ (gs a dd (sc'.set i (slotX a dd y.fs)) C')
            cases eo : gs a dd (sc'.set i (slotX a dd y.fs)) C' with
            | nx sc2 C2 => rw [eo] at h; exact fun σ2 H2 ⟨ad2, E2, hh2, s2⟩ => h _ H2 ⟨ad2, E'.trans E2, hh2, s2.unset i⟩
            | rt d2 C2 => rw [eo] at h; exact fun v H2 ⟨ad2, E2, hh2, r2⟩ => h v H2 ⟨ad2, E'.trans E2, hh2, r2⟩
            | bk sc2 C2 => rw [eo] at h; exact fun σ2 H2 ⟨ad2, E2, hh2, s2⟩ => h _ H2 ⟨ad2, E'.trans E2, hh2, s2.unset i⟩
            | ct sc2 C2 => rw [eo] at h; exact fun σ2 H2 ⟨ad2, E2, hh2, s2⟩ => h _ H2 ⟨ad2, E'.trans E2, hh2, s2.unset i⟩
            | ex x2 sc2 C2 => rw [eo] at h; exact h.elim
            | bad => rw [eo] at h; exact h.elim
    · rw [if_neg z] at h
      by_cases z2 : y.cls ∈ no
      · rw [if_pos z2] at h
        exact ⟨false, hno _ z2, (fun q => nomatch q), fun _ => h _ d σ' H' rfl ⟨ad', E', hh', xf, hs'⟩⟩
      · rw [if_neg z2] at h
        exact h.elim
/-- err.f in the suite -/
def xfO (a dd : Addr) (f : Str) (d : D) (C1 : CH) : Res D := match d with
  | .xc a' dd' ns ds => if a' = a ∧ dd' = dd then (match (ns.zip ds).lookup f with
    | some z => .ok z C1
    | none => .bad) else .bad
  | _ => .bad
def dXf (a dd : Addr) (f : Str) (fe : Fe) : Fe := fun sc C => (fe sc C).bind (xfO a dd f)
theorem look_rel {K : PySem.W.Frag} {ad : List Addr} {H : Hp} {f : Str} {z : D} : ∀ {ds : List D} {ws : List (Str × V)}, Rls K ad H ds (ws.map (·.2)) → ((ws.map (·.1)).zip ds).lookup f = some z → ∃ v, ws.lookup f = some v ∧ Rl K ad H z v
  | _, [], .nil, h => by cases h
  | _, (n, v) :: ws, .cons r t, h => by
    rw [List.map_cons, List.zip_cons_cons, List.lookup_cons] at h
    rw [List.lookup_cons]
    cases q : f == n with
    | true => rw [q] at h; cases h; exact ⟨v, rfl, r⟩
    | false => rw [q] at h; exact look_rel t h
theorem cXf {a dd : Addr} {oe : Obj} {pn : List (Addr × Obj)} {f : Str} {fe : Fe} {W' : WX} (T : ExcT X.prog X.w X.K X.mg X.base x C ns) (hf : f ∈ ns) (hz : Zc (.ref C) (some dd) oe) (hd : ∃ vs, oe.data = .fields vs) (he : CE (X.suite a ((a, oe) :: pn)) W' e fe)
    (hb : attributeBase e f X.env (eval e X.env) = eval e X.env := by rfl) : CE (X.suite a ((a, oe) :: pn)) W' (.Attribute e f pos) (dXf a dd f fe) := by
  refine PE_imp (pe_xf T.xf (T.no f hf) hz hd he hb) fun σ H Q ⟨ad, sc, C0, hs, hh, h⟩ => ?_
  refine tE_bind hs hh (.refl _ _) h fun d C1 ad1 H1 v E1 hs1 hh1 r1 h1 => ?_
  cases r1 with
  | xc g1 g2 g3 =>
    unfold xfO at h1
    dsimp only at h1
    split at h1
    · rename_i ea
      split at h1
      · rename_i z ez
        obtain ⟨rfl, rfl⟩ := ea
        subst g2
        obtain ⟨v, l, rv⟩ := look_rel g3 ez
        exact ⟨rfl, rfl, _, _, v, rfl, g1, l, h1 v H1 ⟨ad1, E1, hh1, rv⟩⟩
      · exact h1.elim
    · exact h1.elim
  | _ => exact h1.elim
/-- within a suite -/
theorem csSetN {y : Str} {pos3 : Pos} {a : Expr} {fa : Fe} (i : Nat) (nd : X.N.Nodup) (ha : CE X W a fa) (hi : X.N[i]? = some y := by rfl) (hx : Loc X.env.scope y := by first | exact Or.inl rfl | exact Or.inr rfl) (hsw : swapsWith a (some (.Name y pos3)) pos.line X.env = pure false := by rfl)
    (hf : X.fn y = true ∨ X.env.scope.names.lookup y = some .local := by first | exact .inl rfl | exact .inr rfl | assumption) : CS X W (.Assign [.Name y pos3] a pos) (sAsg (gN i) fa) := by
  refine PS_imp (ps_set nd hi hx ha hsw hf) fun D σ H ⟨ad, sc, C, hs, hh, h⟩ => ?_
  exact sE_bind hs hh (.refl _ _) h fun d C1 ad1 H1 v E1 hs1 hh1 r1 h1 => h1 _ H1 ⟨ad1, E1, hh1, hs1.set i r1⟩
end
end Cl
set_option maxHeartbeats 4000000
/-! Cl, part X: what denotations do: lemmas for going through them. -/
namespace Cl
open PySem L2

theorem atI_n {α : Type} (xs : List α) (n : Nat) : atI xs (n : Int) = xs[n]? := by
  unfold atI ixN
  rw [if_pos (Int.natCast_nonneg n)]
  by_cases h : (n : Int) < xs.length
  · rw [if_pos h]; simp
  · rw [if_neg h, List.getElem?_eq_none (by omega)]; rfl
theorem atI_0 {α : Type} (xs : List α) : atI xs 0 = xs[0]? := atI_n xs 0
theorem atI_1 {α : Type} (xs : List α) : atI xs 1 = xs[1]? := atI_n xs 1
theorem atI_2 {α : Type} (xs : List α) : atI xs 2 = xs[2]? := atI_n xs 2
theorem atI_3 {α : Type} (xs : List α) : atI xs 3 = xs[3]? := atI_n xs 3
theorem atI_4 {α : Type} (xs : List α) : atI xs 4 = xs[4]? := atI_n xs 4
theorem atI_5 {α : Type} (xs : List α) : atI xs 5 = xs[5]? := atI_n xs 5
theorem atI_m1 {α : Type} (xs : List α) (x : α) : atI (xs ++ [x]) (-1) = some x := atI_last xs x
theorem oSub2_tup (ds : List D) (i : Int) (C : CH) : oSub2 (.tup ds) (.int i) C = (atI ds i).map fun w => (w, C) := by
  unfold oSub2 orO oIx
  simp only [itemsOf, Option.bind_some]
  cases atI ds i <;> rfl
theorem oSub2_fl (ds : List D) (i : Int) (C : CH) : oSub2 (.fl ds) (.int i) C = (atI ds i).map fun w => (w, C) := by
  unfold oSub2 orO oIx
  simp only [itemsOf, Option.bind_some]
  cases atI ds i <;> rfl
theorem oSub2_lst {C : CH} {n : Nat} {ds : List D} (h : C[n]? = some (.lst ds)) (i : Int) : oSub2 (.ref n) (.int i) C = (atI ds i).map fun w => (w, C) := by
  unfold oSub2 orO oIx oDGet dGetO
  simp only [itemsOf, h, Option.bind_some]
  cases atI ds i <;> rfl
theorem oSub2_dK {C : CH} {n : Nat} {kvs : List (Key × D)} (h : C[n]? = some (.dK kvs)) {d : D} {k : Key} (hk : keyOf d = some k) : oSub2 (.ref n) d C = (valD kvs k).map fun w => (w, C) := by
  have e : oIx (.ref n) d C = none := by
    unfold oIx
    split
    · simp only [itemsOf, h]; rfl
    · rfl
  unfold oSub2 orO
  rw [e]
  unfold oDGet dGetO
  simp only [h, hk, Option.map_some, Option.orElse_none]
  cases valD kvs k <;> rfl
theorem oAdd_i (i j : Int) (C : CH) : oAdd (.int i) (.int j) C = some (.int (i + j), C) := rfl
theorem oSub_i (i j : Int) (C : CH) : oSub (.int i) (.int j) C = some (.int (i - j), C) := rfl
theorem oMul_i {i j : Int} (C : CH) (h : bMul i j = true) : oMul (.int i) (.int j) C = some (.int (i * j), C) := by
  simp only [oMul, pureO, iI, h, if_true, Option.map_some]
theorem oDiv_i {i j : Int} (C : CH) (h : bDiv i j = true) : oDiv (.int i) (.int j) C = some (.int (i / j), C) := by
  simp only [oDiv, pureO, iI, h, if_true, Option.map_some]
theorem oMod_i {i j : Int} (C : CH) (h : 0 < j) : oMod (.int i) (.int j) C = some (.int (i % j), C) := by
  simp only [oMod, pureO, iI, decide_eq_true h, if_true, Option.map_some]
theorem oPow_i {i j : Int} (C : CH) (h : CPow i j) : oPow (.int i) (.int j) C = some (.int (i ^ j.toNat), C) := by
  simp only [oPow, pureO, iI, show bPow i j = true from ck_of h, if_true, Option.map_some]
theorem bM (i j : Int) (h : -(2 ^ 64) < i) (h2 : i < 2 ^ 64) : bMul i j = true := ck_of (.inl ⟨h, h2⟩)
theorem bM2 (i j : Int) (h : -(2 ^ 64) < j) (h2 : j < 2 ^ 64) : bMul i j = true := ck_of (.inr ⟨h, h2⟩)
theorem bD (i j : Int) (h : 0 < j) (h2 : j < 1073741824) : bDiv i j = true := ck_of ⟨h, h2⟩
theorem oLt_i (i j : Int) (C : CH) : oLt (.int i) (.int j) C = some (.bl (decide (i < j)), C) := rfl
theorem oLe_i (i j : Int) (C : CH) : oLe (.int i) (.int j) C = some (.bl (decide (i ≤ j)), C) := rfl
theorem oGt_i (i j : Int) (C : CH) : oGt (.int i) (.int j) C = some (.bl (decide (j < i)), C) := rfl
theorem oGe_i (i j : Int) (C : CH) : oGe (.int i) (.int j) C = some (.bl (decide (j ≤ i)), C) := rfl
theorem oEq_i (i j : Int) (C : CH) : oEq (.int i) (.int j) C = some (.bl (decide (i = j)), C) := rfl
theorem oNe_i (i j : Int) (C : CH) : oNe (.int i) (.int j) C = some (.bl (!decide (i = j)), C) := rfl
theorem oEq_s (i j : Str) (C : CH) : oEq (.str i) (.str j) C = some (.bl (decide (i = j)), C) := rfl
theorem oNe_s (i j : Str) (C : CH) : oNe (.str i) (.str j) C = some (.bl (!decide (i = j)), C) := rfl

/-- a for, by an invariant; every turn goes on -/
theorem fr_inv {chk : CH → Prop} {g : Fg} {b : Fs} : ∀ (ds : List D) (P : Nat → Sc → CH → Prop) (sc : Sc) (C : CH), P 0 sc C → (∀ i sc C, P i sc C → chk C) →
    (∀ i d sc C, ds[i]? = some d → P i sc C → ∃ sc1, g d sc = some sc1 ∧ ∃ sc2 C2, (b sc1 C = .nx sc2 C2 ∨ b sc1 C = .ct sc2 C2) ∧ P (i + 1) sc2 C2) → ∃ sc' C', fr chk g b ds sc C = .nx sc' C' ∧ P ds.length sc' C'
  | [], P, sc, C, h0, hc, _ => ⟨sc, C, by rw [fr, if_pos (hc 0 sc C h0)], h0⟩
  | d :: ds, P, sc, C, h0, hc, hs => by
    obtain ⟨sc1, e1, sc2, C2, e2, h2⟩ := hs 0 d sc C rfl h0
    obtain ⟨sc', C', e3, h3⟩ := fr_inv ds (fun i => P (i + 1)) sc2 C2 h2 (fun i => hc (i + 1)) (fun i d sc C hd hp => hs (i + 1) d sc C (by simpa using hd) hp)
    refine ⟨sc', C', ?_, h3⟩
    rw [fr, if_pos (hc 0 sc C h0), e1]
    simp only [optS_some]
    rcases e2 with e2 | e2 <;> simp only [e2] <;> exact e3
theorem sSeq_nx {g1 g2 : Fs} {sc sc1 : Sc} {C C1 : CH} (h : g1 sc C = .nx sc1 C1) : sSeq g1 g2 sc C = g2 sc1 C1 := by unfold sSeq; rw [h]; rfl
theorem sSeq_rt {g1 g2 : Fs} {sc : Sc} {C C1 : CH} {d : D} (h : g1 sc C = .rt d C1) : sSeq g1 g2 sc C = .rt d C1 := by unfold sSeq; rw [h]; rfl
theorem sIf_t {t : Ft} {g1 g2 : Fs} {sc : Sc} {C C1 : CH} (h : t sc C = .ok true C1) : sIf t g1 g2 sc C = g1 sc C1 := by unfold sIf; rw [h]; rfl
theorem sIf_f {t : Ft} {g1 g2 : Fs} {sc : Sc} {C C1 : CH} (h : t sc C = .ok false C1) : sIf t g1 g2 sc C = g2 sc C1 := by unfold sIf; rw [h]; rfl
theorem sAsg_eq {g : Fg} {f : Fe} {sc sc1 : Sc} {C C1 : CH} {d : D} (h : f sc C = .ok d C1) (e : g d sc = some sc1) : sAsg g f sc C = .nx sc1 C1 := by unfold sAsg; rw [h]; simp only [Res.st_ok, e, optS_some]
theorem sDrop_eq {f : Fe} {sc : Sc} {C C1 : CH} {d : D} (h : f sc C = .ok d C1) : sDrop f sc C = .nx sc C1 := by unfold sDrop; rw [h]; rfl
theorem sRet_eq {f : Fe} {sc : Sc} {C C1 : CH} {d : D} (h : f sc C = .ok d C1) : sRet f sc C = .rt d C1 := by unfold sRet; rw [h]; rfl
theorem sFor_eq {fi : Fi} {g : Fg} {b : Fs} {sc : Sc} {C C1 : CH} {S : Src} (h : fi sc C = .ok S C1) : sFor fi g b sc C = fr S.chk g b S.ds sc C1 := by unfold sFor; rw [h]; rfl
/-- appending to a heap -/
theorem get_new (C : CH) (o : O) : (C ++ [o])[C.length]? = some o := by simp
theorem get_old {C : CH} {n : Nat} {o x : O} (h : C[n]? = some x) : (C ++ [o])[n]? = some x := by rw [List.getElem?_append_left (List.getElem?_eq_some_iff.mp h).1]; exact h
theorem set_new (C : CH) (o o' : O) : (C ++ [o]).set C.length o' = C ++ [o'] := by simp
theorem set_old {C : CH} {n : Nat} (h : n < C.length) (o o' : O) : (C ++ [o]).set n o' = C.set n o' ++ [o] := by rw [List.set_append_left _ _ h]
theorem cuts_new {C G : CH} {d : D} (wf : Wf C) (h : d.bel C.length = true) : Cuts C (.ok d (C ++ G)) (.ok d C) :=
  .inr (.inr ⟨d, C ++ G, C.length, rfl, by rw [List.take_left], Nat.le_refl _, h, fun o ho => by rw [List.take_left] at ho; exact wf o ho⟩)
theorem atI_of {α : Type} {xs : List α} {i : Int} (h0 : 0 ≤ i) : atI xs i = xs[i.toNat]? := by
  obtain ⟨n, rfl⟩ := Int.eq_ofNat_of_zero_le h0
  rw [atI_n]
  rfl
/-- a comprehension whose parts make nothing -/
theorem lc_pure {chk : CH → Prop} {g : Fg} {t : Ft} {f : Fe} {sc : Sc} {C0 : CH} {bt : D → Bool} {hd : D → D} : ∀ (ds acc : List D), (∀ acc, chk (C0 ++ [.lst acc])) →
    (∀ d ∈ ds, ∀ acc, ∃ sc1, g d sc = some sc1 ∧ t sc1 (C0 ++ [.lst acc]) = .ok (bt d) (C0 ++ [.lst acc]) ∧ (bt d = true → f sc1 (C0 ++ [.lst acc]) = .ok (hd d) (C0 ++ [.lst acc]))) → acc.length + ds.length ≤ 1000000 →
    lc chk g t f C0.length sc ds (C0 ++ [.lst acc]) = some (.ref C0.length, C0 ++ [.lst (acc ++ (ds.filter bt).map hd)])
  | [], acc, hc, _, _ => by rw [lc, if_pos (hc acc)]; simp
  | d :: ds, acc, hc, ht, hl => by
    obtain ⟨sc1, e1, e2, e3⟩ := ht d List.mem_cons_self acc
    have ih := fun acc' => lc_pure ds acc' hc (fun d hd => ht d (List.mem_cons_of_mem _ hd))
    rw [lc, if_pos (hc acc), e1]
    simp only [Option.bind_some, e2, Res.opt_ok]
    cases hb : bt d with
    | false =>
      rw [if_neg Bool.false_ne_true, ih acc (by simp at hl; omega), List.filter_cons, hb]
      rfl
    | true =>
      have ep : pushD C0.length (hd d) (C0 ++ [.lst acc]) = some (C0 ++ [.lst (acc ++ [hd d])]) := by
        unfold pushD
        rw [get_new]
        simp only [List.length_cons] at hl
        simp only [if_pos (show acc.length ≤ 1000000 by omega), set_new]
      rw [if_pos rfl, e3 hb]
      simp only [Res.opt_ok, Option.bind_some, ep]
      rw [ih (acc ++ [hd d]) (by simp at hl ⊢; omega), List.filter_cons, hb]
      simp

open Classical in
noncomputable def relF (R : List D → CH → D → CH → Prop) : List D → CH → Res D := fun ds C => if h : ∃ p : D × CH, R ds C p.1 p.2 then .ok h.choose.1 h.choose.2 else .bad
theorem relF_eq {R : List D → CH → D → CH → Prop} {ds : List D} {C C' : CH} {d : D} (h : R ds C d C') (u : ∀ d2 C2, R ds C d2 C2 → d2 = d ∧ C2 = C') : relF R ds C = .ok d C' := by
  have e : ∃ p : D × CH, R ds C p.1 p.2 := ⟨(d, C'), h⟩
  unfold relF
  rw [dif_pos e]
  obtain ⟨h1, h2⟩ := u _ _ e.choose_spec
  rw [h1, h2]
theorem relF_cuts {R : List D → CH → D → CH → Prop} {F : List D → CH → Res D} {ds : List D} {C : CH} (h : ∀ d C', R ds C d C' → Cuts C (F ds C) (.ok d C')) : Cuts C (F ds C) (relF R ds C) := by
  unfold relF
  split
  · rename_i e
    exact h _ _ e.choose_spec
  · exact .inl rfl
/-- a for whose turns go on, and what it does to the slots and the heap turn by turn -/
theorem app_get {C : CH} {a b : O} : (C ++ [a] ++ [b])[C.length]? = some a := by simp
end Cl
set_option maxHeartbeats 4000000
/-! Cl, part R: repr and == of plain data, whatever the heap. -/
namespace Cl
open PySem PySem.Spec L2

mutual
inductive Pd : Nat → D → Prop
  | non (k : Nat) : Pd k .non
  | bl (k : Nat) (b : Bool) : Pd k (.bl b)
  | int (k : Nat) (i : Int) : i.natAbs.log2 < 1920 → Pd k (.int i)
  | str (k : Nat) (x : Str) : PyData.strOk x = true → Pd k (.str x)
  | tup (k : Nat) (ds : List D) : Pds k ds → Pd (k + 1) (.tup ds)
inductive Pds : Nat → List D → Prop
  | nil (k : Nat) : Pds k []
  | cons (k : Nat) (d : D) (ds : List D) : Pd k d → Pds k ds → Pds k (d :: ds)
end
mutual
def szD : D → Nat
  | .non => 4
  | .bl _ => 5
  | .int _ => 1921
  | .str x => 10 * x.length + 2
  | .tup ds => szDs ds + 3
  | _ => 0
def szDs : List D → Nat
  | [] => 0
  | d :: ds => szD d + 2 + szDs ds
end
theorem log_small {i : Int} (h1 : -1267650600228229401496703205376 < i) (h2 : i < 1267650600228229401496703205376) : i.natAbs.log2 < 1920 := by
  by_cases z : i.natAbs = 0
  · rw [z]; decide
  · have h : i.natAbs < 2 ^ 100 := by
      have : (2 : Nat) ^ 100 = 1267650600228229401496703205376 := by decide
      omega
    exact Nat.lt_of_lt_of_le ((Nat.log2_lt z).mpr h) (by decide)
/-- what plain data are as PyData -/
structure IsP (k : Nat) (d : D) (p : PyData) : Prop where
  py : ∀ (C : CH) (j : Nat), k < j → py C j d = some p
  lay : p.canLay0 = true
  dep : p.depth ≤ k + 1
  sh : p.showable = true
  sz : szP p = szD d
structure IsPs (k : Nat) (ds : List D) (ps : List PyData) : Prop where
  py : ∀ (C : CH) (j : Nat), k < j → ds.mapM (py C j) = some ps
  lay : PyData.canLayAll0 ps = true
  dep : PyData.depthAll ps ≤ k + 1
  sh : PyData.showableAll ps = true
  sz : szPs ps = szDs ds
mutual
theorem Pd.is : ∀ {k : Nat} {d : D}, Pd k d → ∃ p, IsP k d p
  | _, _, .non k => ⟨.none, fun C j h => by (cases j with | zero => omega | succ j => rfl), rfl, by simp [PyData.depth], rfl, by rw [szP, szD]⟩
  | _, _, .bl k b => ⟨.bool b, fun C j h => by (cases j with | zero => omega | succ j => rfl), rfl, by simp [PyData.depth], rfl, by rw [szP, szD]⟩
  | _, _, .int k i h => ⟨.int i, fun C j h => by (cases j with | zero => omega | succ j => rfl), rfl, by simp [PyData.depth], by rw [PyData.showable]; exact decide_eq_true h, by rw [szP, szD]⟩
  | _, _, .str k x h => ⟨.str x, fun C j h' => by
      cases j with
      | zero => omega
      | succ j => show (if PyData.strOk x = true then some (PyData.str x) else none) = _; rw [if_pos h], by rw [PyData.canLay0]; exact h, by simp [PyData.depth], rfl, by rw [szP, szD]⟩
  | _, _, .tup k ds h => by
    obtain ⟨ps, z⟩ := Pds.is h
    refine ⟨.tuple ps, fun C j hj => ?_, by rw [PyData.canLay0]; exact z.lay, by rw [PyData.depth]; have := z.dep; omega, by rw [PyData.showable]; exact z.sh, by rw [szP, szD, z.sz]⟩
    cases j with
    | zero => omega
    | succ j => show (ds.mapM (Cl.py C j)).map PyData.tuple = _; rw [z.py C j (by omega)]; rfl
theorem Pds.is : ∀ {k : Nat} {ds : List D}, Pds k ds → ∃ ps, IsPs k ds ps
  | _, _, .nil k => ⟨[], fun C j h => rfl, rfl, by simp [PyData.depthAll], rfl, by rw [szPs, szDs]⟩
  | _, _, .cons k d ds h t => by
    obtain ⟨p, a⟩ := Pd.is h
    obtain ⟨ps, z⟩ := Pds.is t
    refine ⟨p :: ps, fun C j hj => ?_, by rw [PyData.canLayAll0, a.lay, z.lay]; rfl, by rw [PyData.depthAll]; have := a.dep; have := z.dep; omega, by rw [PyData.showableAll, a.sh, z.sh]; rfl, by rw [szPs, szDs, a.sz, z.sz]⟩
    rw [List.mapM_cons, a.py C j hj, z.py C j hj]
    rfl
end
/-- the text of plain data -/
noncomputable def txt (d : D) : Str := ((py [] 66 d).map PyData.shown).getD ""
noncomputable def txts (ds : List D) : Str := ((ds.mapM (py [] 65)).map fun ps => (PyData.list ps).shown).getD ""
theorem rpr_ok {p : PyData} (h1 : p.canLay0 = true) (h2 : p.depth ≤ 64) (h3 : p.showable = true) (h4 : szP p ≤ 16000000) : rpr p = some p.shown := by
  unfold rpr SeqAt.shaped
  rw [h1, h3, decide_eq_true h2, decide_eq_true h4]
  rfl
theorem rpr_pd {k : Nat} {d : D} (h : Pd k d) (hk : k < 64) (hz : szD d ≤ 16000000) (C : CH) : gRpr [d] C = some (.str (txt d), C) := by
  obtain ⟨p, z⟩ := h.is
  have e := rpr_ok z.lay (Nat.le_trans z.dep hk) z.sh (by rw [z.sz]; exact hz)
  unfold txt
  simp only [gRpr, z.py C 66 (by omega), z.py [] 66 (by omega), Option.bind_some, e, Option.map_some, Option.getD_some]
theorem rpr_lst {k : Nat} {ds : List D} (h : Pds k ds) (hk : k < 63) (hz : szDs ds ≤ 15000000) {C : CH} {n : Nat} (e : C[n]? = some (.lst ds)) : gRpr [.ref n] C = some (.str (txts ds), C) := by
  obtain ⟨ps, z⟩ := h.is
  have e2 : py C 66 (.ref n) = some (.list ps) := by
    show (match C[n]? with | some (.lst ds) => (ds.mapM (py C 65)).map PyData.list | _ => none) = _
    rw [e]
    show (ds.mapM (py C 65)).map PyData.list = _
    rw [z.py C 65 (by omega)]
    rfl
  have e3 := rpr_ok (p := .list ps) (by rw [PyData.canLay0]; exact z.lay) (by rw [PyData.depth]; have := z.dep; omega) (by rw [PyData.showable]; exact z.sh) (by rw [szP, z.sz]; omega)
  unfold txts
  simp only [gRpr, e2, z.py [] 65 (by omega), Option.bind_some, e3, Option.map_some, Option.getD_some]
end Cl
set_option maxHeartbeats 4000000
/-! Printed by gen.py: the defs of the text as denotations. -/
namespace Lw
open PySem Cl

/-- 0 store, 1 value -/
noncomputable def g_kind_of : Fs :=
  (sSeq (sIf (dTru (dCB gIsi (dCons (dVar 1) (dCons (dC (.v (.ty "bool"))) dNil)))) (sRet (dC (.str "truth"))) sNx)
  (sSeq (sIf (dTru (dCB gIsi (dCons (dVar 1) (dCons (dC (.v (.ty "int"))) dNil)))) (sRet (dC (.str "number"))) sNx)
  (sSeq (sIf (dTest (dBin oEq (dVar 1) (dTup dNil))) (sRet (dC (.str "nothing"))) sNx)
  (sSeq (sIf (dTest (dBin oEq (dBin oSub2 (dVar 1) (dC (.int 0))) (dC (.str "name")))) (sRet (dC (.str "name"))) sNx)
  (sRet (dIf (dTest (dBin oEq (dBin oSub2 (dBin oSub2 (dVar 0) (dBin oSub2 (dVar 1) (dC (.int 1)))) (dC (.int 0))) (dC (.str "pair")))) (dC (.str "pair")) (dC (.str "function"))))))))

/-- 0 value, 1 other -/
noncomputable def g_are_one : Fs :=
  (sRet (dAndV (dBin oEq (dCB gIsi (dCons (dVar 0) (dCons (dC (.v (.ty "bool"))) dNil))) (dCB gIsi (dCons (dVar 1) (dCons (dC (.v (.ty "bool"))) dNil)))) (dBin oEq (dVar 0) (dVar 1))))

/-- 0 classes, 1 address -/
noncomputable def g_head : Fs :=
  (sSeq (sWh (dTest (dBin oNe (dGet2 (dVar 0) (dVar 1) (dVar 1)) (dVar 1))) (sAsg (gN 1) (dBin oSub2 (dVar 0) (dVar 1))))
  (sRet (dVar 1)))

/-- 0 classes, 1 one, 2 other, 3 first, 4 second, 5 address, 6 above, 7 step -/
noncomputable def g_join (F_head : List D → CH → Res D) : Fs :=
  (sSeq (sPar 3 4 (dCons (dCall 2 F_head (dCons (dVar 0) (dCons (dVar 1) dNil))) (dCons (dCall 2 F_head (dCons (dVar 0) (dCons (dVar 2) dNil))) dNil)))
  (sSeq (sIf (dTest (dBin oEq (dVar 3) (dVar 4))) (sRet (dC (.bl false))) sNx)
  (sSeq (sPut (dVar 4) (dVar 0) (dVar 3))
  (sSeq (sFor (iSeq (dTup (dCons (dTup (dCons (dVar 1) (dCons (dVar 4) dNil))) (dCons (dTup (dCons (dVar 2) (dCons (dVar 4) dNil))) dNil)))) (gT 2 (gsC (gN 5) (gsC (gN 6) gsN))) (sWh (dTest (dBin oNe (dGet2 (dVar 0) (dVar 5) (dVar 5)) (dVar 6))) (sSeq (sAsg (gN 7) (dGet2 (dVar 0) (dVar 5) (dVar 5)))
  (sSeq (sPut (dVar 6) (dVar 0) (dVar 5))
  (sAsg (gN 5) (dVar 7))))))
  (sRet (dC (.bl true)))))))

/-- 0 line, 1 at, 2 steps -/
noncomputable def g_road_to : Fs :=
  (sSeq (sAsg (gN 2) (dLst dNil))
  (sSeq (sWh (dTest (dBin oNe (dBin oSub2 (dBin oSub2 (dVar 0) (dVar 1)) (dC (.int 3))) (dC (.int 0)))) (sSeq (sDrop (dBM isLst gApp (dVar 2) (dCons (dBin oSub2 (dBin oSub2 (dVar 0) (dVar 1)) (dC (.int 3))) dNil)))
  (sAsg (gN 1) (dBin oSub2 (dBin oSub2 (dVar 0) (dVar 1)) (dC (.int 2))))))
  (sRet (dCB gTup (dCons (dRev (dVar 2)) dNil)))))

/-- 0 store, 1 value, 2 other, 3 classes, 4 line, 5 at, 6 kind, 7 one, 8 two, 9 first, 10 second -/
noncomputable def g_parting_road (F_join : List D → CH → Res D) (F_are_one : List D → CH → Res D) (F_road_to : List D → CH → Res D) (F_kind_of : List D → CH → Res D) : Fs :=
  (sSeq (sPar3 3 4 5 (dCons dNewK (dCons (dLst (dCons (dTup (dCons (dVar 1) (dCons (dVar 2) (dCons (dC (.int 0)) (dCons (dC (.int 0)) dNil))))) dNil)) (dCons (dC (.int 0)) dNil))))
  (sSeq (sWh (dTest (dBin oLt (dVar 5) (dCB gLen2 (dCons (dVar 4) dNil)))) (sSeq (sPar 7 8 (dCons (dBin oSub2 (dBin oSub2 (dVar 4) (dVar 5)) (dC (.int 0))) (dCons (dBin oSub2 (dBin oSub2 (dVar 4) (dVar 5)) (dC (.int 1))) dNil)))
  (sSeq (sAsg (gN 6) (dCall 2 F_kind_of (dCons (dVar 0) (dCons (dVar 7) dNil))))
  (sSeq (sIf (dTest (dBin oNe (dVar 6) (dCall 2 F_kind_of (dCons (dVar 0) (dCons (dVar 8) dNil))))) (sRet (dCall 2 F_road_to (dCons (dVar 4) (dCons (dVar 5) dNil)))) sNx)
  (sSeq (sIf (dTest (dBin oEq (dVar 6) (dC (.str "pair")))) (sIf (dTru (dCall 3 F_join (dCons (dVar 3) (dCons (dBin oSub2 (dVar 7) (dC (.int 1))) (dCons (dBin oSub2 (dVar 8) (dC (.int 1))) dNil))))) (sSeq (sPar 9 10 (dCons (dBin oSub2 (dVar 0) (dBin oSub2 (dVar 7) (dC (.int 1)))) (dCons (dBin oSub2 (dVar 0) (dBin oSub2 (dVar 8) (dC (.int 1)))) dNil)))
  (sSeq (sDrop (dBM isLst gApp (dVar 4) (dCons (dTup (dCons (dBin oSub2 (dVar 9) (dC (.int 1))) (dCons (dBin oSub2 (dVar 10) (dC (.int 1))) (dCons (dVar 5) (dCons (dC (.int 1)) dNil))))) dNil)))
  (sDrop (dBM isLst gApp (dVar 4) (dCons (dTup (dCons (dBin oSub2 (dVar 9) (dC (.int 2))) (dCons (dBin oSub2 (dVar 10) (dC (.int 2))) (dCons (dVar 5) (dCons (dC (.int 2)) dNil))))) dNil))))) sNx) (sIf (dNot (dTru (dCall 2 F_are_one (dCons (dVar 7) (dCons (dVar 8) dNil))))) (sRet (dCall 2 F_road_to (dCons (dVar 4) (dCons (dVar 5) dNil)))) sNx))
  (sAsg (gN 5) (dBin oAdd (dVar 5) (dC (.int 1)))))))))
  (sRet (dC .non))))

/-- 0 store, 1 value, 2 other -/
noncomputable def g_alike (F_parting_road : List D → CH → Res D) : Fs :=
  (sRet (dBin (oIs false) (dCall 3 F_parting_road (dCons (dVar 0) (dCons (dVar 1) (dCons (dVar 2) dNil)))) (dC .non)))

/-- 0 store, 1 value, 2 road, 3 number, 4 step -/
noncomputable def g_value_at (C_NoRoad : Addr) (F_kind_of : List D → CH → Res D) : Fs :=
  (sSeq (sFor (iEnu (dCons (dVar 2) dNil)) (gT 2 (gsC (gN 3) (gsC (gN 4) gsN))) (sSeq (sIf (dTest (dBin oNe (dCall 2 F_kind_of (dCons (dVar 0) (dCons (dVar 1) dNil))) (dC (.str "pair")))) (sRaise C_NoRoad ["number"] (dCons (dVar 3) dNil)) sNx)
  (sAsg (gN 1) (dBin oSub2 (dBin oSub2 (dVar 0) (dBin oSub2 (dVar 1) (dC (.int 1)))) (dVar 4)))))
  (sRet (dVar 1)))

/-- 0 script, 1 k, 2 cells, 3 great, 4 begun, 5 cell -/
noncomputable def g__law_begun : Fs :=
  (sSeq (sAsg (gN 2) (dBin oAdd (dSl (dVar 0) (dPS (dVar 1)) dPN) (dSl (dVar 0) dPN (dPS (dVar 1)))))
  (sSeq (sAsg (gN 3) (dLc (iSeq (dVar 0)) (gN 5) (dTest (dBin oGe (dVar 5) (dBin oPow (dC (.int 10)) (dC (.int 18))))) (dVar 5) [5]))
  (sSeq (sAsg (gN 4) (dBin oAdd (dC (.int 59)) (dBin oMul2 (dC (.int 10)) (dVar 1))))
  (sSeq (sFor (iSeq (dVar 2)) (gN 5) (sAsg (gN 4) (dBin oMod (dCB gInt (dCons (dBin oAdd (dBin oMul2 (dVar 4) (dC (.int 48271))) (dVar 5)) dNil)) (dC (.int 2147483647)))))
  (sRet (dDct [((dC (.str "left")), (dIf (dTest (dBin oLt (dVar 1) (dCB gLen2 (dCons (dVar 3) dNil)))) (dBin oSub2 (dVar 3) (dVar 1)) (dC (.int 0)))), ((dC (.str "seed")), (dVar 4)), ((dC (.str "cells")), (dBin oAdd (dVar 2) (dLst (dCons (dBin oAdd (dBin oMul2 (dC (.int 43)) (dVar 1)) (dC (.int 17))) dNil)))), ((dC (.str "spot")), (dC (.int 0))), ((dC (.str "next")), (dC (.int 0)))]))))))

/-- 0 m, 1 below, 2 spot, 3 cell, 4 blend, 5 found, 6 cells, 7 added -/
noncomputable def g__law_draw : Fs :=
  (sSeq (sIf (dTest (dBin oGt (dBin oSub2 (dVar 0) (dC (.str "left"))) (dC (.int 0)))) (sSeq (sAsg (gN 5) (dBin oMod (dCB gInt (dCons (dBin oSub2 (dVar 0) (dC (.str "left"))) dNil)) (dVar 1)))
  (sSeq (sPut (dBin oDiv (dBin oSub2 (dVar 0) (dC (.str "left"))) (dVar 1)) (dVar 0) (dC (.str "left")))
  (sRet (dVar 5)))) sNx)
  (sSeq (sAsg (gN 2) (dBin oSub2 (dVar 0) (dC (.str "spot"))))
  (sSeq (sPut (dBin oAdd (dVar 2) (dC (.int 1))) (dVar 0) (dC (.str "spot")))
  (sSeq (sPar 6 7 (dCons (dBin oSub2 (dVar 0) (dC (.str "cells"))) (dCons (dBin oAdd (dBin oSub2 (dVar 0) (dC (.str "seed"))) (dBin oMul2 (dBin oMul2 (dC (.int 40503)) (dVar 2)) (dVar 2))) dNil)))
  (sSeq (sAsg (gN 3) (dBin oSub2 (dVar 6) (dBin oMod (dCB gInt (dCons (dVar 2) dNil)) (dCB gLen2 (dCons (dVar 6) dNil)))))
  (sSeq (sAsg (gN 4) (dBin oMod (dCB gInt (dCons (dBin oAdd (dBin oMul2 (dVar 3) (dBin oAdd (dBin oMul2 (dC (.int 2)) (dVar 2)) (dC (.int 3)))) (dVar 7)) dNil)) (dC (.int 2147483647))))
  (sSeq (sAsg (gN 4) (dBin oMod (dCB gInt (dCons (dBin oAdd (dBin oAdd (dBin oMul2 (dVar 4) (dVar 4)) (dBin oMul2 (dC (.int 69621)) (dVar 2))) (dBin oSub2 (dVar 0) (dC (.str "seed")))) dNil)) (dC (.int 2147483629))))
  (sRet (dBin oMod (dBin oDiv (dBin oMod (dCB gInt (dCons (dBin oAdd (dBin oMul2 (dVar 4) (dC (.int 48271))) (dVar 2)) dNil)) (dC (.int 2147483647))) (dC (.int 11))) (dVar 1))))))))))

/-- 0 m, 1 some -/
noncomputable def g__law_of (F__law_draw : List D → CH → Res D) : Fs :=
  (sRet (dBin oSub2 (dVar 1) (dCall 2 F__law_draw (dCons (dVar 0) (dCons (dCB gLen2 (dCons (dVar 1) dNil)) dNil)))))

/-- 0 m, 1 size, 2 way -/
noncomputable def g__law_value (F__law_of : List D → CH → Res D) (F__law_draw : List D → CH → Res D) : Fs :=
  (sSeq (sAsg (gN 2) (dCall 2 F__law_draw (dCons (dVar 0) (dCons (dC (.int 8)) dNil))))
  (sSeq (sIf (dTest (dBin oLt (dVar 2) (dC (.int 5)))) (sRet (dTup (dCons (dC (.str "thing")) (dCons (dCall 2 F__law_draw (dCons (dVar 0) (dCons (dVar 1) dNil))) dNil)))) sNx)
  (sRet (dCall 2 F__law_of (dCons (dVar 0) (dCons (dLst (dCons (dTup dNil) (dCons (dC (.bl true)) (dCons (dC (.bl false)) (dCons (dC (.int 1)) (dCons (dC (.int 0)) (dCons (dC (.int 2)) (dCons (dTup (dCons (dC (.str "name")) (dCons (dC (.str "x")) dNil))) (dCons (dTup (dCons (dC (.str "name")) (dCons (dC (.str "y")) dNil))) (dCons (dBin oPow (dC (.int 10)) (dC (.int 29))) dNil)))))))))) dNil))))))

/-- 0 m, 1 size, 2 found, 3 k, 4 way, 5 twin -/
noncomputable def g__law_store (F__law_draw : List D → CH → Res D) (F__law_value : List D → CH → Res D) (F__law_of : List D → CH → Res D) : Fs :=
  (sSeq (sAsg (gN 2) (dLst dNil))
  (sSeq (sFor (iR1 (dCons (dVar 1) dNil)) (gN 3) (sSeq (sAsg (gN 4) (dCall 2 F__law_draw (dCons (dVar 0) (dCons (dC (.int 9)) dNil))))
  (sIf (dAnd (dTest (dBin oLt (dVar 4) (dC (.int 4)))) (dTest (dBin oGt (dVar 3) (dC (.int 0))))) (sSeq (sAsg (gN 5) (dBin oSub2 (dVar 2) (dCall 2 F__law_draw (dCons (dVar 0) (dCons (dVar 3) dNil)))))
  (sSeq (sIf (dAnd (dTest (dBin oEq (dBin oSub2 (dVar 5) (dC (.int 0))) (dC (.str "pair")))) (dTest (dBin oEq (dCall 2 F__law_draw (dCons (dVar 0) (dCons (dC (.int 2)) dNil))) (dC (.int 0))))) (sAsg (gN 5) (dTup (dCons (dC (.str "pair")) (dCons (dBin oSub2 (dVar 5) (dC (.int 1))) (dCons (dCall 2 F__law_value (dCons (dVar 0) (dCons (dVar 1) dNil))) dNil))))) sNx)
  (sDrop (dBM isLst gApp (dVar 2) (dCons (dVar 5) dNil))))) (sIf (dTest (dBin oEq (dVar 4) (dC (.int 8)))) (sDrop (dBM isLst gApp (dVar 2) (dCons (dCall 2 F__law_of (dCons (dVar 0) (dCons (dLst (dCons (dTup (dCons (dC (.str "fn")) (dCons (dTup (dCons (dC (.int 0)) dNil)) (dCons (dTup dNil) dNil)))) (dCons (dTup (dCons (dC (.str "kept")) (dCons (dTup dNil) (dCons (dTup dNil) dNil)))) dNil))) dNil))) dNil))) (sDrop (dBM isLst gApp (dVar 2) (dCons (dTup (dCons (dC (.str "pair")) (dCons (dCall 2 F__law_of (dCons (dVar 0) (dCons (dLst (dCons (dC (.int 1)) (dCons (dC (.int 1)) (dCons (dTup dNil) (dCons (dCall 2 F__law_value (dCons (dVar 0) (dCons (dVar 1) dNil))) dNil))))) dNil))) (dCons (dCall 2 F__law_value (dCons (dVar 0) (dCons (dVar 1) dNil))) dNil)))) dNil)))))))
  (sRet (dCB gTup (dCons (dVar 2) dNil)))))

/-- 0 m, 1 one, 2 two, 3 found, 4 side, 5 first, 6 many, 7 k, 8 spot, 9 rest -/
noncomputable def g__law_rings (F__law_draw : List D → CH → Res D) (F__law_of : List D → CH → Res D) : Fs :=
  (sSeq (sPar 1 2 (dCons (dBin oAdd (dC (.int 1)) (dCall 2 F__law_draw (dCons (dVar 0) (dCons (dC (.int 3)) dNil)))) (dCons (dBin oAdd (dC (.int 1)) (dCall 2 F__law_draw (dCons (dVar 0) (dCons (dC (.int 4)) dNil)))) dNil)))
  (sSeq (sPar 3 4 (dCons (dLst dNil) (dCons (dCall 2 F__law_draw (dCons (dVar 0) (dCons (dC (.int 2)) dNil))) dNil)))
  (sSeq (sFor (iSeq (dTup (dCons (dTup (dCons (dC (.int 0)) (dCons (dVar 1) dNil))) (dCons (dTup (dCons (dVar 1) (dCons (dVar 2) dNil))) dNil)))) (gT 2 (gsC (gN 5) (gsC (gN 6) gsN))) (sFor (iR1 (dCons (dVar 6) dNil)) (gN 7) (sSeq (sAsg (gN 9) (dTup (dCons (dC (.str "thing")) (dCons (dBin oAdd (dVar 5) (dBin oMod (dCB gInt (dCons (dBin oAdd (dVar 7) (dC (.int 1))) dNil)) (dVar 6))) dNil))))
  (sDrop (dBM isLst gApp (dVar 3) (dCons (dIf (dTest (dBin oEq (dVar 4) (dC (.int 0)))) (dTup (dCons (dC (.str "pair")) (dCons (dC (.int 1)) (dCons (dVar 9) dNil)))) (dTup (dCons (dC (.str "pair")) (dCons (dVar 9) (dCons (dC (.int 1)) dNil))))) dNil))))))
  (sSeq (sIf (dTest (dBin oEq (dCall 2 F__law_draw (dCons (dVar 0) (dCons (dC (.int 2)) dNil))) (dC (.int 0)))) (sSeq (sAsg (gN 8) (dCall 2 F__law_draw (dCons (dVar 0) (dCons (dBin oAdd (dVar 1) (dVar 2)) dNil))))
  (sPut (dBin oAdd (dTup (dCons (dC (.str "pair")) dNil)) (dCall 2 F__law_of (dCons (dVar 0) (dCons (dLst (dCons (dTup (dCons (dC (.int 2)) (dCons (dBin oSub2 (dBin oSub2 (dVar 3) (dVar 8)) (dC (.int 2))) dNil))) (dCons (dTup (dCons (dBin oSub2 (dBin oSub2 (dVar 3) (dVar 8)) (dC (.int 1))) (dCons (dC (.bl true)) dNil))) (dCons (dTup (dCons (dBin oSub2 (dBin oSub2 (dVar 3) (dVar 8)) (dC (.int 1))) (dCons (dC (.int 1)) dNil))) dNil)))) dNil)))) (dVar 3) (dVar 8))) sNx)
  (sRet (dTup (dCons (dCB gTup (dCons (dVar 3) dNil)) (dCons (dTup (dCons (dC (.str "thing")) (dCons (dC (.int 0)) dNil))) (dCons (dTup (dCons (dC (.str "thing")) (dCons (dVar 1) dNil))) dNil)))))))))

/-- 0 store, 1 value -/
noncomputable def g__law_kind : Fs :=
  (sSeq (sIf (dTru (dCB gIsi (dCons (dVar 1) (dCons (dC (.v (.ty "bool"))) dNil)))) (sRet (dC (.str "truth"))) sNx)
  (sSeq (sIf (dTru (dCB gIsi (dCons (dVar 1) (dCons (dC (.v (.ty "int"))) dNil)))) (sRet (dC (.str "number"))) sNx)
  (sSeq (sIf (dTest (dBin oEq (dVar 1) (dTup dNil))) (sRet (dC (.str "nothing"))) sNx)
  (sSeq (sIf (dTest (dBin oEq (dBin oSub2 (dVar 1) (dC (.int 0))) (dC (.str "name")))) (sRet (dC (.str "name"))) sNx)
  (sRet (dIf (dTest (dBin oEq (dBin oSub2 (dBin oSub2 (dVar 0) (dBin oSub2 (dVar 1) (dC (.int 1)))) (dC (.int 0))) (dC (.str "pair")))) (dC (.str "pair")) (dC (.str "function"))))))))

/-- 0 store, 1 first, 2 second, 3 spot, 4 line, 5 seen, 6 kinds, 7 one, 8 two, 9 road -/
noncomputable def g__law_least (F__law_kind : List D → CH → Res D) : Fs :=
  (sSeq (sPar 4 5 (dCons (dLst (dCons (dTup (dCons (dVar 1) (dCons (dVar 2) (dCons (dTup dNil) dNil)))) dNil)) (dCons dNewT dNil)))
  (sSeq (sFor (iR1 (dCons (dC (.int 200)) dNil)) (gN 3) (sSeq (sIf (dTest (dBin oGe (dVar 3) (dCB gLen2 (dCons (dVar 4) dNil)))) (sRet (dC .non)) sNx)
  (sSeq (sAsg (gT 3 (gsC (gN 7) (gsC (gN 8) (gsC (gN 9) gsN)))) (dBin oSub2 (dVar 4) (dVar 3)))
  (sSeq (sAsg (gN 6) (dLst (dCons (dCall 2 F__law_kind (dCons (dVar 0) (dCons (dVar 7) dNil))) (dCons (dCall 2 F__law_kind (dCons (dVar 0) (dCons (dVar 8) dNil))) dNil))))
  (sIf (dTest (dBin oNe (dVar 6) (dLst (dCons (dC (.str "pair")) (dCons (dC (.str "pair")) dNil))))) (sIf (dOr (dTest (dBin oNe (dBin oSub2 (dVar 6) (dC (.int 0))) (dBin oSub2 (dVar 6) (dC (.int 1))))) (dTest (dBin oNe (dVar 7) (dVar 8)))) (sRet (dVar 9)) sNx) (sIf (dTest (dBin (oIn2 true) (dTup (dCons (dBin oSub2 (dVar 7) (dC (.int 1))) (dCons (dBin oSub2 (dVar 8) (dC (.int 1))) dNil))) (dVar 5))) (sSeq (sPut (dC (.bl true)) (dVar 5) (dTup (dCons (dBin oSub2 (dVar 7) (dC (.int 1))) (dCons (dBin oSub2 (dVar 8) (dC (.int 1))) dNil))))
  (sSeq (sDrop (dBM isLst gApp (dVar 4) (dCons (dTup (dCons (dBin oSub2 (dBin oSub2 (dVar 0) (dBin oSub2 (dVar 7) (dC (.int 1)))) (dC (.int 1))) (dCons (dBin oSub2 (dBin oSub2 (dVar 0) (dBin oSub2 (dVar 8) (dC (.int 1)))) (dC (.int 1))) (dCons (dBin oAdd (dVar 9) (dTup (dCons (dC (.int 1)) dNil))) dNil)))) dNil)))
  (sDrop (dBM isLst gApp (dVar 4) (dCons (dTup (dCons (dBin oSub2 (dBin oSub2 (dVar 0) (dBin oSub2 (dVar 7) (dC (.int 1)))) (dC (.int 2))) (dCons (dBin oSub2 (dBin oSub2 (dVar 0) (dBin oSub2 (dVar 8) (dC (.int 1)))) (dC (.int 2))) (dCons (dBin oAdd (dVar 9) (dTup (dCons (dC (.int 2)) dNil))) dNil)))) dNil))))) sNx))))))
  (sRet (dC (.str "long")))))

/-- 0 store, 1 value, 2 road, 3 k, 4 step -/
noncomputable def g__law_at (F__law_kind : List D → CH → Res D) : Fs :=
  (sSeq (sFor (iEnu (dCons (dVar 2) dNil)) (gT 2 (gsC (gN 3) (gsC (gN 4) gsN))) (sSeq (sIf (dTest (dBin oNe (dCall 2 F__law_kind (dCons (dVar 0) (dCons (dVar 1) dNil))) (dC (.str "pair")))) (sRet (dVar 3)) sNx)
  (sAsg (gN 1) (dBin oSub2 (dBin oSub2 (dVar 0) (dBin oSub2 (dVar 1) (dC (.int 1)))) (dVar 4)))))
  (sRet (dLst (dCons (dVar 1) dNil))))

/-- 0 store, 1 value, 2 road, 3 error, 4 found -/
noncomputable def g__law_told_at (C_NoRoad : Addr) (F_value_at : List D → CH → Res D) : Fs :=
  (sSeq (sTryAs C_NoRoad [] 3 (sAsg (gN 4) (dLst (dCons (dCall 3 F_value_at (dCons (dVar 0) (dCons (dVar 1) (dCons (dVar 2) dNil)))) dNil))) (fun a dd => (sAsg (gN 4) (dXf a dd "number" (dVar 3)))))
  (sRet (dVar 4)))

/-- 0 m, 1 store, 2 values, 3 k, 4 found, 5 left, 6 places, 7 thing, 8 value, 9 part -/
noncomputable def g__law_moved (F__law_led : List D → CH → Res D) (F__law_draw : List D → CH → Res D) : Fs :=
  (sSeq (sAsg (gT 2 (gsC (gN 5) (gsC (gN 6) gsN))) (dTup (dCons (dLstR (dR1 (dBin oAdd (dCB gLen2 (dCons (dVar 1) dNil)) (dC (.int 2))))) (dCons (dLst dNil) dNil))))
  (sSeq (sFor (iR1 (dCons (dCB gLen2 (dCons (dVar 1) dNil)) dNil)) (gN 3) (sDrop (dBM isLst gApp (dVar 6) (dCons (dBM isLst gPopAt (dVar 5) (dCons (dCall 2 F__law_draw (dCons (dVar 0) (dCons (dCB gLen2 (dCons (dVar 5) dNil)) dNil))) dNil)) dNil))))
  (sSeq (sAsg (gN 4) (dBin oMul2 (dLst (dCons (dTup (dCons (dC (.str "pair")) (dCons (dC (.int 7)) (dCons (dTup dNil) dNil)))) dNil)) (dBin oAdd (dCB gLen2 (dCons (dVar 1) dNil)) (dC (.int 2)))))
  (sSeq (sFor (iEnu (dCons (dVar 1) dNil)) (gT 2 (gsC (gN 3) (gsC (gN 7) gsN))) (sPut (dIf (dTest (dBin oEq (dBin oSub2 (dVar 7) (dC (.int 0))) (dC (.str "pair")))) (dCB gTup (dCons (dLc (iSeq (dVar 7)) (gN 9) dYes (dCall 2 F__law_led (dCons (dVar 9) (dCons (dVar 6) dNil))) [9]) dNil)) (dVar 7)) (dVar 4) (dBin oSub2 (dVar 6) (dVar 3))))
  (sRet (dTup (dCons (dCB gTup (dCons (dVar 4) dNil)) (dCons (dLc (iSeq (dVar 2)) (gN 8) dYes (dCall 2 F__law_led (dCons (dVar 8) (dCons (dVar 6) dNil))) [8]) dNil))))))))

/-- 0 value, 1 places -/
noncomputable def g__law_led : Fs :=
  (sRet (dIf (dAnd (dTru (dCB gIsi (dCons (dVar 0) (dCons (dC (.v (.ty "tuple"))) dNil)))) (dAnd (dTest (dBin oNe (dVar 0) (dTup dNil))) (dTest (dBin oEq (dBin oSub2 (dVar 0) (dC (.int 0))) (dC (.str "thing")))))) (dTup (dCons (dC (.str "thing")) (dCons (dBin oSub2 (dVar 1) (dBin oSub2 (dVar 0) (dC (.int 1)))) dNil))) (dVar 0)))

/-- 0 m, 1 store, 2 first, 3 second, 4 told, 5 roads, 6 road, 7 kept, 8 due, 9 other, 10 led, 11 value, 12 k -/
noncomputable def g__law_right (F__law_told_at : List D → CH → Res D) (F__law_at : List D → CH → Res D) (F__law_draw : List D → CH → Res D) (F_alike : List D → CH → Res D) (F_parting_road : List D → CH → Res D) (F__law_moved : List D → CH → Res D) (F__law_least : List D → CH → Res D) : Fs :=
  (sSeq (sPar 7 8 (dCons (dCB gRpr (dCons (dVar 1) dNil)) (dCons (dCall 3 F__law_least (dCons (dVar 1) (dCons (dVar 2) (dCons (dVar 3) dNil)))) dNil)))
  (sSeq (sAsg (gN 4) (dLst (dCons (dCall 3 F_parting_road (dCons (dVar 1) (dCons (dVar 2) (dCons (dVar 3) dNil)))) (dCons (dCall 3 F_parting_road (dCons (dVar 1) (dCons (dVar 3) (dCons (dVar 2) dNil)))) (dCons (dCall 3 F_parting_road (dCons (dVar 1) (dCons (dVar 2) (dCons (dVar 3) dNil)))) dNil)))))
  (sSeq (sIf (dOr (dTest (dBin oNe (dCB gRpr (dCons (dVar 4) dNil)) (dCB gRpr (dCons (dLst (dCons (dVar 8) (dCons (dVar 8) (dCons (dVar 8) dNil)))) dNil)))) (dTest (dBin oNe (dCB gRpr (dCons (dVar 1) dNil)) (dVar 7)))) (sRet (dC (.bl false))) sNx)
  (sSeq (sIf (dTest (dBin oNe (dCB gRpr (dCons (dLst (dCons (dCall 3 F_alike (dCons (dVar 1) (dCons (dVar 2) (dCons (dVar 3) dNil)))) (dCons (dCall 3 F_alike (dCons (dVar 1) (dCons (dVar 3) (dCons (dVar 2) dNil)))) dNil))) dNil)) (dCB gRpr (dCons (dLst (dCons (dBin (oIs false) (dVar 8) (dC .non)) (dCons (dBin (oIs false) (dVar 8) (dC .non)) dNil))) dNil)))) (sRet (dC (.bl false))) sNx)
  (sSeq (sIf (dTest (dBin oNe (dCB gRpr (dCons (dLst (dCons (dCall 3 F_alike (dCons (dVar 1) (dCons (dVar 2) (dCons (dVar 2) dNil)))) (dCons (dCall 3 F_parting_road (dCons (dVar 1) (dCons (dVar 3) (dCons (dVar 3) dNil)))) dNil))) dNil)) (dC (.str "[True, None]")))) (sRet (dC (.bl false))) sNx)
  (sSeq (sAsg (gT 2 (gsC (gN 9) (gsC (gN 10) gsN))) (dCall 3 F__law_moved (dCons (dVar 0) (dCons (dVar 1) (dCons (dLst (dCons (dVar 2) (dCons (dVar 3) dNil))) dNil)))))
  (sSeq (sIf (dTest (dBin oNe (dCB gRpr (dCons (dLst (dCons (dCall 3 F_parting_road (dCons (dVar 9) (dCons (dBin oSub2 (dVar 10) (dC (.int 0))) (dCons (dBin oSub2 (dVar 10) (dC (.int 1))) dNil)))) (dCons (dCall 3 F_alike (dCons (dVar 9) (dCons (dBin oSub2 (dVar 10) (dC (.int 0))) (dCons (dBin oSub2 (dVar 10) (dC (.int 1))) dNil)))) dNil))) dNil)) (dCB gRpr (dCons (dLst (dCons (dVar 8) (dCons (dBin (oIs false) (dVar 8) (dC .non)) dNil))) dNil)))) (sRet (dC (.bl false))) sNx)
  (sSeq (sAsg (gN 5) (dLst (dCons (dTup dNil) (dCons (dTup (dCons (dC (.int 1)) dNil)) (dCons (dTup (dCons (dC (.int 2)) (dCons (dC (.int 1)) dNil))) (dCons (dCB gTup (dCons (dLc (iR1 (dCons (dCall 2 F__law_draw (dCons (dVar 0) (dCons (dC (.int 9)) dNil))) dNil)) (gN 12) dYes (dBin oAdd (dC (.int 1)) (dCall 2 F__law_draw (dCons (dVar 0) (dCons (dC (.int 2)) dNil)))) [12]) dNil)) dNil))))))
  (sSeq (sFor (iSeq (dBin oAdd (dVar 5) (dIf (dTest (dBin (oIs true) (dVar 8) (dC .non))) (dLst (dCons (dVar 8) (dCons (dBin oAdd (dVar 8) (dTup (dCons (dC (.int 1)) dNil))) (dCons (dBin oAdd (dSl (dVar 8) dPN (dPS (dNeg (dC (.int 1))))) (dTup (dCons (dC (.int 2)) (dCons (dC (.int 2)) dNil)))) dNil)))) (dLst dNil)))) (gN 6) (sFor (iSeq (dTup (dCons (dVar 2) (dCons (dVar 3) dNil)))) (gN 11) (sIf (dTest (dBin oNe (dCB gRpr (dCons (dCall 3 F__law_told_at (dCons (dVar 1) (dCons (dVar 11) (dCons (dVar 6) dNil)))) dNil)) (dCB gRpr (dCons (dCall 3 F__law_at (dCons (dVar 1) (dCons (dVar 11) (dCons (dVar 6) dNil)))) dNil)))) (sRet (dC (.bl false))) sNx)))
  (sRet (dC (.bl true))))))))))))

/-- 0 script, 1 turn, 2 store, 3 told, 4 m, 5 lap, 6 p, 7 q, 8 s, 9 size, 10 rings, 11 first, 12 second -/
noncomputable def g_law (F_parting_road : List D → CH → Res D) (F__law_right : List D → CH → Res D) (F__law_rings : List D → CH → Res D) (F__law_draw : List D → CH → Res D) (F__law_value : List D → CH → Res D) (F__law_store : List D → CH → Res D) (F__law_begun : List D → CH → Res D) : Fs :=
  (sSeq (sFor (iR1 (dCons (dBin oAdd (dC (.int 1)) (dCB gInt (dCons (dBin oGt (dCB gLen2 (dCons (dVar 0) dNil)) (dC (.int 2))) dNil))) dNil)) (gN 1) (sSeq (sAsg (gN 4) (dCall 2 F__law_begun (dCons (dVar 0) (dCons (dVar 1) dNil))))
  (sFor (iR1 (dCons (dC (.int 3)) dNil)) (gN 5) (sSeq (sAsg (gN 9) (dBin oAdd (dC (.int 2)) (dCall 2 F__law_draw (dCons (dVar 4) (dCons (dC (.int 6)) dNil)))))
  (sSeq (sAsg (gN 2) (dCall 2 F__law_store (dCons (dVar 4) (dCons (dVar 9) dNil))))
  (sSeq (sIf (dNot (dTru (dCall 4 F__law_right (dCons (dVar 4) (dCons (dVar 2) (dCons (dCall 2 F__law_value (dCons (dVar 4) (dCons (dVar 9) dNil))) (dCons (dCall 2 F__law_value (dCons (dVar 4) (dCons (dVar 9) dNil))) dNil))))))) (sRet (dC (.bl false))) sNx)
  (sSeq (sIf (dNot (dTru (dCall 4 F__law_right (dCons (dVar 4) (dCons (dVar 2) (dCons (dTup (dCons (dC (.str "thing")) (dCons (dCall 2 F__law_draw (dCons (dVar 4) (dCons (dVar 9) dNil))) dNil))) (dCons (dTup (dCons (dC (.str "thing")) (dCons (dCall 2 F__law_draw (dCons (dVar 4) (dCons (dVar 9) dNil))) dNil))) dNil))))))) (sRet (dC (.bl false))) sNx)
  (sSeq (sAsg (gT 3 (gsC (gN 10) (gsC (gN 11) (gsC (gN 12) gsN)))) (dCall 1 F__law_rings (dCons (dVar 4) dNil)))
  (sIf (dNot (dTru (dCall 4 F__law_right (dCons (dVar 4) (dCons (dVar 10) (dCons (dVar 11) (dCons (dVar 12) dNil))))))) (sRet (dC (.bl false))) sNx)))))))))
  (sSeq (sAsg (gT 3 (gsC (gN 6) (gsC (gN 7) (gsC (gN 8) gsN)))) (dTup (dCons (dTup (dCons (dC (.str "pair")) (dCons (dC (.int 1)) (dCons (dTup (dCons (dC (.str "thing")) (dCons (dC (.int 0)) dNil))) dNil)))) (dCons (dTup (dCons (dC (.str "pair")) (dCons (dC (.int 1)) (dCons (dTup (dCons (dC (.str "thing")) (dCons (dC (.int 2)) dNil))) dNil)))) (dCons (dTup (dCons (dC (.str "pair")) (dCons (dC (.int 1)) (dCons (dTup (dCons (dC (.str "thing")) (dCons (dC (.int 1)) dNil))) dNil)))) dNil)))))
  (sSeq (sAsg (gN 2) (dTup (dCons (dVar 6) (dCons (dVar 7) (dCons (dVar 8) (dCons (dTup (dCons (dC (.str "pair")) (dCons (dC (.int 1)) (dCons (dTup (dCons (dC (.str "thing")) (dCons (dC (.int 4)) dNil))) dNil)))) (dCons (dTup (dCons (dC (.str "pair")) (dCons (dC (.int 2)) (dCons (dTup (dCons (dC (.str "thing")) (dCons (dC (.int 0)) dNil))) dNil)))) dNil)))))))
  (sSeq (sAsg (gN 3) (dLst (dCons (dCall 3 F_parting_road (dCons (dVar 2) (dCons (dTup (dCons (dC (.str "thing")) (dCons (dC (.int 0)) dNil))) (dCons (dTup (dCons (dC (.str "thing")) (dCons (dC (.int 1)) dNil))) dNil)))) (dCons (dCall 3 F_parting_road (dCons (dVar 2) (dCons (dTup (dCons (dC (.str "thing")) (dCons (dC (.int 0)) dNil))) (dCons (dTup (dCons (dC (.str "thing")) (dCons (dC (.int 3)) dNil))) dNil)))) dNil))))
  (sRet (dBin oEq (dCB gRpr (dCons (dVar 3) dNil)) (dCB gRpr (dCons (dLst (dCons (dC .non) (dCons (dTup (dCons (dC (.int 2)) (dCons (dC (.int 1)) dNil))) dNil))) dNil))))))))

end Lw
set_option maxHeartbeats 4000000
/-! law_k22, the plain part: least roads by breadth, whatever is left out because it is known to be alike. -/
namespace Rd
open PySem

inductive Vl where
  | th (t : Nat) | nil | bl (b : Bool) | nu (i : Int) | nm (x : Str)
deriving DecidableEq
inductive Th where
  | pr (a b : Vl) | fa | fb
inductive Kd where
  | truth | number | nothing | name | pair | function
deriving DecidableEq
def kd (S : List Th) : Vl → Kd
  | .bl _ => .truth
  | .nu _ => .number
  | .nil => .nothing
  | .nm _ => .name
  | .th t => match S[t]? with
    | some (.pr _ _) => .pair
    | _ => .function
def df (S : List Th) (a b : Vl) : Prop := kd S a ≠ kd S b ∨ (kd S a ≠ .pair ∧ a ≠ b)
def ch (S : List Th) (s : Nat) : Vl → Option Vl
  | .th t => match S[t]? with
    | some (.pr a b) => if s = 1 then some a else if s = 2 then some b else none
    | _ => none
  | _ => none
def go (S : List Th) : Vl → List Nat → Option Vl
  | v, [] => some v
  | v, s :: r => (ch S s v).bind fun x => go S x r
theorem go_snoc (S : List Th) (s : Nat) : ∀ (r : List Nat) (v : Vl), go S v (r ++ [s]) = (go S v r).bind fun x => ch S s x
  | [], v => by simp [go]
  | a :: r, v => by
    show ((ch S a v).bind fun x => go S x (r ++ [s])) = ((ch S a v).bind fun x => go S x r).bind _
    cases ch S a v with
    | none => rfl
    | some x => exact go_snoc S s r x
theorem ch_step {S : List Th} {s : Nat} {v x : Vl} (h : ch S s v = some x) : s = 1 ∨ s = 2 := by
  unfold ch at h
  split at h
  · split at h
    · split at h
      · exact .inl ‹_›
      · split at h
        · exact .inr ‹_›
        · cases h
    · cases h
  · cases h
def code (r : List Nat) : Nat := r.foldl (fun c s => 2 * c + s) 0
theorem code_snoc (r : List Nat) (s : Nat) : code (r ++ [s]) = 2 * code r + s := by unfold code; rw [List.foldl_append]; rfl
theorem snoc_cases (r : List Nat) : r = [] ∨ ∃ q s, r = q ++ [s] := by
  cases h : r.reverse with
  | nil => left; simpa using h
  | cons s q =>
    right
    refine ⟨q.reverse, s, ?_⟩
    have := congrArg List.reverse h
    simpa using this
theorem code_inj {S : List Th} {v w a b : Vl} : ∀ (n : Nat) (r p : List Nat), r.length ≤ n → go S v r = some a → go S w p = some b → code r = code p → r = p := by
  intro n
  induction n generalizing a b with
  | zero =>
    intro r p hl h1 h2 e
    have : r = [] := List.eq_nil_of_length_eq_zero (by omega)
    subst this
    rcases snoc_cases p with rfl | ⟨q, s, rfl⟩
    · rfl
    · rw [go_snoc] at h2
      cases h : go S w q with
      | none => rw [h] at h2; cases h2
      | some x =>
        rw [h] at h2
        have := ch_step h2
        rw [code_snoc] at e
        simp [code] at e
        omega
  | succ n ih =>
    intro r p hl h1 h2 e
    rcases snoc_cases r with rfl | ⟨r', s, rfl⟩
    · rcases snoc_cases p with rfl | ⟨q, s, rfl⟩
      · rfl
      · rw [go_snoc] at h2
        cases h : go S w q with
        | none => rw [h] at h2; cases h2
        | some x =>
          rw [h] at h2
          have := ch_step h2
          rw [code_snoc] at e
          simp [code] at e
          omega
    · rw [go_snoc] at h1
      cases h : go S v r' with
      | none => rw [h] at h1; cases h1
      | some x =>
        rw [h] at h1
        have z1 := ch_step h1
        rw [code_snoc] at e
        rcases snoc_cases p with rfl | ⟨q, t, rfl⟩
        · simp [code] at e; omega
        · rw [go_snoc] at h2
          cases h' : go S w q with
          | none => rw [h'] at h2; cases h2
          | some y =>
            rw [h'] at h2
            have z2 := ch_step h2
            rw [code_snoc] at e
            have : s = t := by omega
            subst this
            rw [ih r' q (by simp at hl; omega) h h' (by omega)]
def Bad (S : List Th) (v w : Vl) (r : List Nat) : Prop := ∃ a b, go S v r = some a ∧ go S w r = some b ∧ df S a b
def Least (S : List Th) (v w : Vl) : Option (List Nat) → Prop
  | none => ∀ r, ¬ Bad S v w r
  | some r => Bad S v w r ∧ ∀ p, Bad S v w p → code r ≤ code p
theorem Least.uniq {S : List Th} {v w : Vl} {o o' : Option (List Nat)} (h : Least S v w o) (h' : Least S v w o') : o = o' := by
  cases o with
  | none =>
    cases o' with
    | none => rfl
    | some r => exact absurd h'.1 (h r)
  | some r =>
    cases o' with
    | none => exact absurd h.1 (h' r)
    | some p =>
      obtain ⟨a, b, z1, z2, _⟩ := h.1
      obtain ⟨a', b', z3, z4, _⟩ := h'.1
      have e : code r = code p := Nat.le_antisymm (h.2 p h'.1) (h'.2 r h.1)
      rw [code_inj r.length r p (Nat.le_refl _) z1 z3 e]
theorem df_symm {S : List Th} {a b : Vl} (h : df S a b) : df S b a := by
  rcases h with h | ⟨h1, h2⟩
  · exact .inl (Ne.symm h)
  · by_cases e : kd S a = kd S b
    · exact .inr ⟨by rw [← e]; exact h1, Ne.symm h2⟩
    · exact .inl (Ne.symm e)
theorem Bad.symm {S : List Th} {v w : Vl} {r : List Nat} (h : Bad S v w r) : Bad S w v r := let ⟨a, b, h1, h2, h3⟩ := h; ⟨b, a, h2, h1, df_symm h3⟩
theorem Least.symm {S : List Th} {v w : Vl} {o : Option (List Nat)} (h : Least S v w o) : Least S w v o := by
  cases o with
  | none => exact fun r z => h r z.symm
  | some r => exact ⟨h.1.symm, fun p z => h.2 p z.symm⟩
theorem not_df {S : List Th} (a : Vl) : ¬ df S a a := fun h => h.elim (fun z => z rfl) fun z => z.2 rfl
theorem Least.same (S : List Th) (v : Vl) : Least S v v none := fun r ⟨a, b, h1, h2, h3⟩ => by
  rw [h1] at h2
  cases h2
  exact not_df a h3

inductive Eqv (js : List (Nat × Nat × Nat)) (k : Nat) : Nat → Nat → Prop
  | base {t u c : Nat} : (t, u, c) ∈ js → c ≤ k → Eqv js k t u
  | refl (t : Nat) : Eqv js k t t
  | symm {t u : Nat} : Eqv js k t u → Eqv js k u t
  | trans {t u x : Nat} : Eqv js k t u → Eqv js k u x → Eqv js k t x
theorem Eqv.mono {js js' : List (Nat × Nat × Nat)} {k k' : Nat} (hj : ∀ x ∈ js, x.2.2 ≤ k → x ∈ js' ∧ x.2.2 ≤ k') {t u : Nat} (h : Eqv js k t u) : Eqv js' k' t u := by
  induction h with
  | base h1 h2 => exact .base (hj _ h1 h2).1 (hj _ h1 h2).2
  | refl t => exact .refl t
  | symm _ ih => exact .symm ih
  | trans _ _ i1 i2 => exact .trans i1 i2
def Q (js : List (Nat × Nat × Nat)) (k : Nat) (a b : Vl) : Prop := a = b ∨ ∃ t u, a = .th t ∧ b = .th u ∧ Eqv js k t u
theorem Q.mono {js js' : List (Nat × Nat × Nat)} {k k' : Nat} (hj : ∀ x ∈ js, x.2.2 ≤ k → x ∈ js' ∧ x.2.2 ≤ k') {a b : Vl} (h : Q js k a b) : Q js' k' a b := by
  rcases h with h | ⟨t, u, h1, h2, h3⟩
  · exact .inl h
  · exact .inr ⟨t, u, h1, h2, h3.mono hj⟩
theorem Q.symm {js : List (Nat × Nat × Nat)} {k : Nat} {a b : Vl} (h : Q js k a b) : Q js k b a := by
  rcases h with h | ⟨t, u, h1, h2, h3⟩
  · exact .inl h.symm
  · exact .inr ⟨u, t, h2, h1, h3.symm⟩
theorem Q.trans {js : List (Nat × Nat × Nat)} {k : Nat} {a b c : Vl} (h : Q js k a b) (h' : Q js k b c) : Q js k a c := by
  rcases h with rfl | ⟨t, u, rfl, rfl, h3⟩
  · exact h'
  · rcases h' with rfl | ⟨t', u', e, rfl, h4⟩
    · exact .inr ⟨t, u, rfl, rfl, h3⟩
    · cases e
      exact .inr ⟨t, u', rfl, rfl, h3.trans h4⟩
structure Ent where
  a : Vl
  b : Vl
  r : List Nat
structure Bf (S : List Th) (v w : Vl) (line : List Ent) (pos : Nat) (js : List (Nat × Nat × Nat)) : Prop where
  root : line[0]? = some ⟨v, w, []⟩
  corr : ∀ e ∈ line, go S v e.r = some e.a ∧ go S w e.r = some e.b
  mono : ∀ (i j : Nat) (e f : Ent), i < j → line[i]? = some e → line[j]? = some f → code e.r < code f.r
  bnd : ∀ e ∈ line, e.r = [] ∨ ∃ (i : Nat) (f : Ent), i < pos ∧ line[i]? = some f ∧ code e.r ≤ 2 * code f.r + 2
  done : ∀ (i : Nat) (e : Ent), i < pos → line[i]? = some e → Q js (code e.r) e.a e.b
  pairs : ∀ t u c, (t, u, c) ∈ js → kd S (.th t) = .pair ∧ kd S (.th u) = .pair
  kids : ∀ t u c, (t, u, c) ∈ js → (∃ (i : Nat) (e : Ent), i < pos ∧ line[i]? = some e ∧ code e.r = c) ∧ ∀ s : Nat, s = 1 ∨ s = 2 → ∃ (x y : Vl) (e : Ent), ch S s (.th t) = some x ∧ ch S s (.th u) = some y ∧ e ∈ line ∧ e.a = x ∧ e.b = y ∧ code e.r = 2 * c + s
section
variable {S : List Th} {v w : Vl} {line : List Ent} {pos : Nat} {js : List (Nat × Nat × Nat)}
theorem Eqv.pair (B : Bf S v w line pos js) {k t u : Nat} (h : Eqv js k t u) : t = u ∨ (kd S (.th t) = .pair ∧ kd S (.th u) = .pair) := by
  induction h with
  | base h1 _ => exact .inr (B.pairs _ _ _ h1)
  | refl t => exact .inl rfl
  | symm _ ih =>
    rcases ih with h | h
    · exact .inl h.symm
    · exact .inr ⟨h.2, h.1⟩
  | trans _ _ i1 i2 =>
    rcases i1 with rfl | h
    · exact i2
    · rcases i2 with rfl | h'
      · exact .inr h
      · exact .inr ⟨h.1, h'.2⟩
theorem Q.ndf (B : Bf S v w line pos js) {k : Nat} {a b : Vl} (h : Q js k a b) : ¬ df S a b := by
  rcases h with rfl | ⟨t, u, rfl, rfl, h3⟩
  · exact not_df _
  · rcases h3.pair B with rfl | ⟨h1, h2⟩
    · exact not_df _
    · intro z
      rcases z with z | z
      · exact z (by rw [h1, h2])
      · exact z.1 h1
/-- all that lies ahead of lim is gone through -/
def Past (line : List Ent) (pos : Nat) (c : Nat) : Prop := pos = line.length ∨ ∃ e, line[pos]? = some e ∧ c < code e.r
theorem Past.le {c c' : Nat} (h : Past line pos c) (hc : c' ≤ c) : Past line pos c' := h.elim .inl fun ⟨e, h1, h2⟩ => .inr ⟨e, h1, by omega⟩
theorem Bf.at (B : Bf S v w line pos js) {e : Ent} (he : e ∈ line) (h : Past line pos (code e.r)) : Q js (code e.r) e.a e.b := by
  obtain ⟨i, hi, ei⟩ := List.mem_iff_getElem.mp he
  have ei : line[i]? = some e := by rw [← ei]; exact List.getElem?_eq_getElem hi
  have hp : i < pos := by
    rcases h with h | ⟨f, h1, h2⟩
    · omega
    · apply Classical.byContradiction
      intro z
      rcases Nat.lt_or_ge pos i with q | q
      · have := B.mono pos i f e q h1 ei; omega
      · have : i = pos := by omega
        subst this
        rw [ei] at h1; cases h1
        omega
  exact B.done i e hp ei
theorem Bf.child (B : Bf S v w line pos js) {s k : Nat} (hs : s = 1 ∨ s = 2) (hp : Past line pos (2 * k + s)) {t u : Nat} (h : Eqv js k t u) :
    (∀ x, ch S s (.th t) = some x → ∃ y, ch S s (.th u) = some y ∧ Q js (2 * k + s) x y) ∧ (∀ y, ch S s (.th u) = some y → ∃ x, ch S s (.th t) = some x ∧ Q js (2 * k + s) x y) := by
  induction h with
  | base h1 h2 =>
    rename_i c
    obtain ⟨_, hk⟩ := B.kids _ _ _ h1
    obtain ⟨x, y, e, c1, c2, he, ea, eb, ec⟩ := hk s hs
    have q := B.at he (hp.le (by omega))
    rw [ea, eb, ec] at q
    have q : Q js (2 * k + s) x y := q.mono fun z hz hz2 => ⟨hz, by omega⟩
    exact ⟨fun x' hx => by rw [c1] at hx; cases hx; exact ⟨y, c2, q⟩, fun y' hy => by rw [c2] at hy; cases hy; exact ⟨x, c1, q⟩⟩
  | refl t => exact ⟨fun x hx => ⟨x, hx, .inl rfl⟩, fun x hx => ⟨x, hx, .inl rfl⟩⟩
  | symm _ ih =>
    exact ⟨fun x hx => let ⟨y, h1, h2⟩ := ih.2 x hx; ⟨y, h1, h2.symm⟩, fun x hx => let ⟨y, h1, h2⟩ := ih.1 x hx; ⟨y, h1, h2.symm⟩⟩
  | trans _ _ i1 i2 =>
    refine ⟨fun x hx => ?_, fun y hy => ?_⟩
    · obtain ⟨y, h1, h2⟩ := i1.1 x hx
      obtain ⟨z, h3, h4⟩ := i2.1 y h1
      exact ⟨z, h3, h2.trans h4⟩
    · obtain ⟨x, h1, h2⟩ := i2.2 y hy
      obtain ⟨z, h3, h4⟩ := i1.2 x h1
      exact ⟨z, h3, h4.trans h2⟩
theorem Bf.cover (B : Bf S v w line pos js) : ∀ (q : List Nat) (a b : Vl), go S v q.reverse = some a → go S w q.reverse = some b → Past line pos (code q.reverse) → Q js (code q.reverse) a b
  | [], a, b, h1, h2, hp => by
    simp only [List.reverse_nil] at h1 h2 hp ⊢
    cases h1
    cases h2
    exact B.at (List.mem_of_getElem? B.root) hp
  | s :: q, a, b, h1, h2, hp => by
    rw [List.reverse_cons] at h1 h2 hp ⊢
    rw [go_snoc] at h1 h2
    rw [code_snoc] at hp ⊢
    cases e1 : go S v q.reverse with
    | none => rw [e1] at h1; cases h1
    | some x =>
      cases e2 : go S w q.reverse with
      | none => rw [e2] at h2; cases h2
      | some y =>
        rw [e1] at h1
        rw [e2] at h2
        have h1 : ch S s x = some a := h1
        have h2 : ch S s y = some b := h2
        have hs := ch_step h1
        rcases B.cover q x y e1 e2 (hp.le (by omega)) with rfl | ⟨t, u, rfl, rfl, h3⟩
        · rw [h1] at h2; cases h2; exact .inl rfl
        · obtain ⟨y', h4, h5⟩ := (B.child hs hp h3).1 a h1
          rw [h2] at h4; cases h4
          exact h5
theorem Bf.find (B : Bf S v w line pos js) {e : Ent} (he : line[pos]? = some e) (hd : df S e.a e.b) : Least S v w (some e.r) := by
  obtain ⟨c1, c2⟩ := B.corr e (List.mem_of_getElem? he)
  refine ⟨⟨_, _, c1, c2, hd⟩, fun p ⟨a, b, h1, h2, h3⟩ => ?_⟩
  apply Classical.byContradiction
  intro z
  have := B.cover p.reverse a b (by rw [List.reverse_reverse]; exact h1) (by rw [List.reverse_reverse]; exact h2) (.inr ⟨e, he, by rw [List.reverse_reverse]; omega⟩)
  exact this.ndf B h3
theorem Bf.none (B : Bf S v w line pos js) (he : pos = line.length) : Least S v w none := fun p ⟨a, b, h1, h2, h3⟩ =>
  (B.cover p.reverse a b (by rw [List.reverse_reverse]; exact h1) (by rw [List.reverse_reverse]; exact h2) (.inl he)).ndf B h3
theorem Bf.skip (B : Bf S v w line pos js) {e : Ent} (he : line[pos]? = some e) (hq : ∃ k, Q js k e.a e.b) : Bf S v w line (pos + 1) js := by
  refine ⟨B.root, B.corr, B.mono, fun f hf => (B.bnd f hf).imp id fun ⟨i, g, h1, h2, h3⟩ => ⟨i, g, by omega, h2, h3⟩, fun i f hi hf => ?_, B.pairs, fun t u c h => ?_⟩
  · by_cases z : i < pos
    · exact B.done i f z hf
    · have : i = pos := by omega
      subst this
      rw [he] at hf; cases hf
      obtain ⟨k, q⟩ := hq
      refine q.mono fun x hx _ => ⟨hx, ?_⟩
      obtain ⟨⟨j, f, h1, h2, h3⟩, _⟩ := B.kids x.1 x.2.1 x.2.2 hx
      have := B.mono j i f e h1 h2 he
      omega
  · obtain ⟨⟨i, f, h1, h2, h3⟩, r⟩ := B.kids t u c h
    exact ⟨⟨i, f, by omega, h2, h3⟩, r⟩
theorem Bf.join (B : Bf S v w line pos js) {e : Ent} (he : line[pos]? = some e) {t u : Nat} {a1 a2 b1 b2 : Vl} (ht : e.a = .th t) (hu : e.b = .th u) (h1 : S[t]? = some (.pr a1 a2)) (h2 : S[u]? = some (.pr b1 b2)) :
    Bf S v w (line ++ [⟨a1, b1, e.r ++ [1]⟩, ⟨a2, b2, e.r ++ [2]⟩]) (pos + 1) (js ++ [(t, u, code e.r)]) := by
  have hl : pos < line.length := (List.getElem?_eq_some_iff.mp he).1
  obtain ⟨c1, c2⟩ := B.corr e (List.mem_of_getElem? he)
  rw [ht] at c1
  rw [hu] at c2
  have old : ∀ {i : Nat} {f : Ent}, line[i]? = some f → (line ++ [⟨a1, b1, e.r ++ [1]⟩, ⟨a2, b2, e.r ++ [2]⟩])[i]? = some f := fun {i f} h => by
    rw [List.getElem?_append_left (List.getElem?_eq_some_iff.mp h).1]; exact h
  have new : ∀ {i : Nat} {f : Ent}, (line ++ [⟨a1, b1, e.r ++ [1]⟩, ⟨a2, b2, e.r ++ [2]⟩])[i]? = some f → line[i]? = some f ∨ (i = line.length ∧ f = ⟨a1, b1, e.r ++ [1]⟩) ∨ (i = line.length + 1 ∧ f = ⟨a2, b2, e.r ++ [2]⟩) := fun {i f} h => by
    by_cases z : i < line.length
    · rw [List.getElem?_append_left z] at h; exact .inl h
    · rw [List.getElem?_append_right (by omega)] at h
      match q : i - line.length with
      | 0 => rw [q] at h; simp at h; exact .inr (.inl ⟨by omega, h.symm⟩)
      | 1 => rw [q] at h; simp at h; exact .inr (.inr ⟨by omega, h.symm⟩)
      | n + 2 => rw [q] at h; simp at h
  have k1 : ch S 1 (.th t) = some a1 ∧ ch S 2 (.th t) = some a2 := by simp [ch, h1]
  have k2 : ch S 1 (.th u) = some b1 ∧ ch S 2 (.th u) = some b2 := by simp [ch, h2]
  -- every code so far is at most that of pos' first child
  have top : ∀ (i : Nat) (f : Ent), line[i]? = some f → code f.r ≤ 2 * code e.r := by
    intro i f hf
    rcases B.bnd f (List.mem_of_getElem? hf) with z | ⟨j, g, z1, z2, z3⟩
    · rw [z]; simp [code]
    · have := B.mono j pos g e z1 z2 he; omega
  refine ⟨old B.root, fun f hf => ?_, fun i j f g hij hf hg => ?_, fun f hf => ?_, fun i f hi hf => ?_, fun t' u' c h => ?_, fun t' u' c h => ?_⟩
  · rcases List.mem_append.mp hf with hf | hf
    · exact B.corr f hf
    · rcases List.mem_cons.mp hf with rfl | hf
      · rw [go_snoc, go_snoc, c1, c2]
        exact ⟨k1.1, k2.1⟩
      · rw [List.mem_singleton.mp hf]
        rw [go_snoc, go_snoc, c1, c2]
        exact ⟨k1.2, k2.2⟩
  · rcases new hf with z | ⟨z, rfl⟩ | ⟨z, rfl⟩
    · rcases new hg with y | ⟨y, rfl⟩ | ⟨y, rfl⟩
      · exact B.mono i j f g hij z y
      · have := top i f z
        show _ < code (e.r ++ [1])
        rw [code_snoc]; omega
      · have := top i f z
        show _ < code (e.r ++ [2])
        rw [code_snoc]; omega
    · rcases new hg with y | ⟨y, rfl⟩ | ⟨y, rfl⟩
      · have := (List.getElem?_eq_some_iff.mp y).1; omega
      · omega
      · show code (e.r ++ [1]) < code (e.r ++ [2])
        rw [code_snoc, code_snoc]; omega
    · rcases new hg with y | ⟨y, rfl⟩ | ⟨y, rfl⟩
      · have := (List.getElem?_eq_some_iff.mp y).1; omega
      · omega
      · omega
  · rcases List.mem_append.mp hf with hf | hf
    · exact (B.bnd f hf).imp id fun ⟨i, g, z1, z2, z3⟩ => ⟨i, g, by omega, old z2, z3⟩
    · refine .inr ⟨pos, e, by omega, old he, ?_⟩
      rcases List.mem_cons.mp hf with rfl | hf
      · show code (e.r ++ [1]) ≤ _; rw [code_snoc]; omega
      · rw [List.mem_singleton.mp hf]; show code (e.r ++ [2]) ≤ _; rw [code_snoc]; omega
  · by_cases z : i < pos
    · rcases new hf with y | ⟨y, rfl⟩ | ⟨y, rfl⟩
      · exact (B.done i f z y).mono fun x hx hk => ⟨List.mem_append_left _ hx, hk⟩
      · omega
      · omega
    · have : i = pos := by omega
      subst this
      rw [old he] at hf; cases hf
      exact .inr ⟨t, u, ht, hu, .base (List.mem_append_right _ (by simp)) (Nat.le_refl _)⟩
  · rcases List.mem_append.mp h with h | h
    · exact B.pairs _ _ _ h
    · simp at h
      obtain ⟨rfl, rfl, rfl⟩ := h
      simp [kd, h1, h2]
  · rcases List.mem_append.mp h with h | h
    · obtain ⟨⟨i, f, z1, z2, z3⟩, r⟩ := B.kids t' u' c h
      refine ⟨⟨i, f, by omega, old z2, z3⟩, fun s hs => ?_⟩
      obtain ⟨x, y, g, q1, q2, q3, q4⟩ := r s hs
      exact ⟨x, y, g, q1, q2, List.mem_append_left _ q3, q4⟩
    · simp at h
      obtain ⟨rfl, rfl, rfl⟩ := h
      refine ⟨⟨pos, e, by omega, old he, rfl⟩, fun s hs => ?_⟩
      rcases hs with rfl | rfl
      · exact ⟨_, _, _, k1.1, k2.1, List.mem_append_right _ List.mem_cons_self, rfl, rfl, code_snoc _ _⟩
      · exact ⟨_, _, _, k1.2, k2.2, List.mem_append_right _ (List.mem_cons_of_mem _ List.mem_cons_self), rfl, rfl, code_snoc _ _⟩
end
theorem Bf.start (S : List Th) (v w : Vl) : Bf S v w [⟨v, w, []⟩] 0 [] := by
  refine ⟨rfl, fun e he => ?_, fun i j e f hij h1 h2 => ?_, fun e he => ?_, fun i e hi => absurd hi (Nat.not_lt_zero i), (fun t u c h => nomatch h), (fun t u c h => nomatch h)⟩
  · rw [List.mem_singleton.mp he]; exact ⟨rfl, rfl⟩
  · have a1 := (List.getElem?_eq_some_iff.mp h2).1
    simp at a1
    omega
  · rw [List.mem_singleton.mp he]; exact .inl rfl
end Rd
set_option maxHeartbeats 4000000
/-! law_k22: the classes (union and find). -/
namespace Rd
def E (js : List (Nat × Nat × Nat)) (t u : Nat) : Prop := ∃ k, Eqv js k t u
theorem E.refl (js : List (Nat × Nat × Nat)) (t : Nat) : E js t t := ⟨0, .refl t⟩
theorem E.symm {js : List (Nat × Nat × Nat)} {t u : Nat} (h : E js t u) : E js u t := let ⟨k, h⟩ := h; ⟨k, h.symm⟩
theorem E.trans {js : List (Nat × Nat × Nat)} {t u x : Nat} (h : E js t u) (h' : E js u x) : E js t x := by
  obtain ⟨k, h⟩ := h
  obtain ⟨k', h'⟩ := h'
  exact ⟨max k k', (h.mono fun y hy hk => ⟨hy, by omega⟩).trans (h'.mono fun y hy hk => ⟨hy, by omega⟩)⟩
theorem E.more {js : List (Nat × Nat × Nat)} {t u : Nat} (x : Nat × Nat × Nat) (h : E js t u) : E (js ++ [x]) t u := let ⟨k, h⟩ := h; ⟨k, h.mono fun y hy hk => ⟨List.mem_append_left _ hy, hk⟩⟩
theorem E.new (js : List (Nat × Nat × Nat)) (t u c : Nat) : E (js ++ [(t, u, c)]) t u := ⟨c, .base (List.mem_append_right _ (by simp)) (Nat.le_refl _)⟩
structure Uf (par rt rk : Nat → Nat) (js : List (Nat × Nat × Nat)) : Prop where
  root : ∀ t, rt (par t) = rt t
  fix : ∀ t, par (rt t) = rt t
  top : ∀ t, par t = t → rt t = t
  dec : ∀ t, par t ≠ t → rk (par t) < rk t
  eq : ∀ t, E js t (rt t)
  js : ∀ t u c, (t, u, c) ∈ js → rt t = rt u
theorem Uf.start : Uf (fun t => t) (fun t => t) (fun _ => 0) [] := ⟨fun _ => rfl, fun _ => rfl, fun _ _ => rfl, fun _ h => absurd rfl h, fun t => .refl _ t, fun _ _ _ h => nomatch h⟩
section
variable {par rt rk : Nat → Nat} {js : List (Nat × Nat × Nat)}
theorem Uf.below (U : Uf par rt rk js) : ∀ (n t : Nat), rk t ≤ n → par t ≠ t → rk (rt t) < rk t
  | 0, t, hn, h => by have := U.dec t h; omega
  | n + 1, t, hn, h => by
    have h1 := U.dec t h
    by_cases z : par (par t) = par t
    · rw [← U.root, U.top _ z]; exact h1
    · have := U.below n (par t) (by omega) z
      rw [U.root] at this
      omega
theorem Uf.rr (U : Uf par rt rk js) (t : Nat) : rt (rt t) = rt t := U.top _ (U.fix t)
def upd1 (f : Nat → Nat) (a u : Nat) : Nat → Nat := fun x => if x = a then u else f x
/-- the path made shorter -/
theorem Uf.short (U : Uf par rt rk js) {a : Nat} (h : par a ≠ a) : Uf (upd1 par a (rt a)) rt rk js := by
  have hr : rt a ≠ a := fun z => h (by rw [← z]; exact U.fix a)
  refine ⟨fun t => ?_, fun t => ?_, fun t ht => ?_, fun t ht => ?_, U.eq, U.js⟩
  · unfold upd1
    split
    · rename_i e; rw [e]; exact U.rr a
    · exact U.root t
  · unfold upd1
    split
    · rename_i e
      have := U.fix t
      rw [e] at this
      exact absurd this h
    · exact U.fix t
  · unfold upd1 at ht
    split at ht
    · rename_i e; rw [e] at ht; exact absurd ht hr
    · exact U.top t ht
  · unfold upd1 at ht ⊢
    split
    · rename_i e; rw [e]; exact U.below (rk a) a (Nat.le_refl _) h
    · rename_i e; rw [if_neg e] at ht; exact U.dec t ht
/-- two classes made one -/
theorem Uf.union (U : Uf par rt rk js) {t u c : Nat} (h : rt t ≠ rt u) : Uf (upd1 par (rt t) (rt u)) (fun x => if rt x = rt t then rt u else rt x) (fun x => if rt x = rt t then rk x + rk (rt u) + 1 else rk x) (js ++ [(t, u, c)]) := by
  have e1 : E (js ++ [(t, u, c)]) (rt t) (rt u) := ((U.eq t).more _).symm.trans ((E.new js t u c).trans ((U.eq u).more _))
  refine ⟨fun x => ?_, fun x => ?_, fun x hx => ?_, fun x hx => ?_, fun x => ?_, fun a b d hm => ?_⟩
  · unfold upd1
    by_cases z : x = rt t
    · subst z
      try dsimp only
      rw [if_pos rfl, U.rr, if_pos (U.rr t)]
      rw [if_neg (Ne.symm h)]
    · try dsimp only
      rw [if_neg z, U.root]
  · unfold upd1
    by_cases z : rt x = rt t
    · try dsimp only
      rw [if_pos z, if_neg (Ne.symm h)]
      exact U.fix u
    · try dsimp only
      rw [if_neg z, if_neg z]
      exact U.fix x
  · unfold upd1 at hx
    by_cases z : x = rt t
    · rw [if_pos z] at hx
      exact absurd (hx.trans z) (Ne.symm h)
    · rw [if_neg z] at hx
      have := U.top x hx
      try dsimp only
      rw [if_neg (by rw [this]; exact z)]
      exact this
  · unfold upd1 at hx ⊢
    by_cases z : x = rt t
    · subst z
      try dsimp only
      rw [if_pos rfl, if_pos (U.rr t), U.rr, if_neg (Ne.symm h)]
      omega
    · rw [if_neg z] at hx
      have := U.dec x hx
      try dsimp only
      rw [if_neg z, U.root]
      split <;> omega
  · try dsimp only
    split
    · rename_i z
      exact ((U.eq x).more _).trans (by rw [z]; exact e1)
    · exact (U.eq x).more _
  · try dsimp only
    rcases List.mem_append.mp hm with hm | hm
    · rw [U.js a b d hm]
    · simp at hm
      obtain ⟨rfl, rfl, rfl⟩ := hm
      rw [if_pos rfl, if_neg (Ne.symm h)]
end
/-! ### the dict of the classes -/
def lk : List (Nat × Nat) → Nat → Option Nat
  | [], _ => none
  | p :: r, t => if p.1 = t then some p.2 else lk r t
def parOf (ks : List (Nat × Nat)) (t : Nat) : Nat := (lk ks t).getD t
def put (ks : List (Nat × Nat)) (t u : Nat) : List (Nat × Nat) := if ks.any (fun p => decide (p.1 = t)) then ks.map (fun p => if p.1 = t then (p.1, u) else p) else ks ++ [(t, u)]
theorem lk_any : ∀ (ks : List (Nat × Nat)) (t : Nat), (lk ks t).isSome = ks.any (fun p => decide (p.1 = t))
  | [], t => rfl
  | p :: r, t => by
    rw [lk, List.any_cons]
    by_cases h : p.1 = t
    · rw [if_pos h, decide_eq_true h]; rfl
    · rw [if_neg h, decide_eq_false h, lk_any r t]; rfl
theorem lk_map (u t x : Nat) : ∀ ks : List (Nat × Nat), lk (ks.map (fun p => if p.1 = t then (p.1, u) else p)) x = if x = t then (if ks.any (fun p => decide (p.1 = t)) then some u else none) else lk ks x
  | [] => by simp [lk]
  | p :: r => by
    rw [List.map_cons, lk, List.any_cons, lk_map u t x r]
    by_cases h : p.1 = t
    · subst h
      by_cases hx : x = p.1
      · subst hx; simp
      · have : ¬ p.1 = x := fun z => hx z.symm
        simp [hx, this, lk]
    · by_cases hx : x = t
      · subst hx
        rw [decide_eq_false h, Bool.false_or, if_pos rfl, if_neg h, if_neg h, if_pos rfl]
      · by_cases hp : p.1 = x
        · simp [h, hx, hp, lk]
        · simp [h, hx, hp, lk]
theorem lk_app (t u x : Nat) : ∀ ks : List (Nat × Nat), lk (ks ++ [(t, u)]) x = (lk ks x).or (if t = x then some u else none)
  | [] => by simp [lk]
  | p :: r => by
    rw [List.cons_append, lk, lk, lk_app t u x r]
    by_cases h : p.1 = x
    · simp [h]
    · simp [h]
theorem par_put (ks : List (Nat × Nat)) (t u : Nat) : parOf (put ks t u) = upd1 (parOf ks) t u := by
  funext x
  unfold parOf put upd1
  by_cases h : ks.any (fun p => decide (p.1 = t)) = true
  · rw [if_pos h, lk_map, h]
    by_cases hx : x = t
    · simp [hx]
    · simp [hx]
  · rw [if_neg h, lk_app]
    have hn : lk ks t = none := by
      have := lk_any ks t
      rw [Bool.not_eq_true] at h
      rw [h] at this
      simpa using this
    by_cases hx : x = t
    · subst hx; rw [hn]; simp
    · have : ¬ t = x := fun z => hx z.symm
      simp [hx, this]
theorem put_len (ks : List (Nat × Nat)) (t u : Nat) : (put ks t u).length ≤ ks.length + 1 := by
  unfold put
  split
  · rw [List.length_map]; omega
  · rw [List.length_append]; exact Nat.le_refl _
theorem put_len2 {ks : List (Nat × Nat)} {t : Nat} (h : parOf ks t ≠ t) (u : Nat) : (put ks t u).length = ks.length := by
  have : ks.any (fun p => decide (p.1 = t)) = true := by
    rw [← lk_any]
    cases e : lk ks t with
    | none => unfold parOf at h; rw [e] at h; exact absurd rfl h
    | some x => rfl
  unfold put
  rw [if_pos this, List.length_map]
end Rd
namespace Lw
open PySem Cl L2 Rd
def encK (ks : List (Nat × Nat)) : List (Key × D) := ks.map fun p => (Sum.inl (p.1 : Int), .int (p.2 : Int))
theorem val_encK (t : Nat) : ∀ ks : List (Nat × Nat), valD (encK ks) (Sum.inl (t : Int)) = (lk ks t).map fun (u : Nat) => D.int (u : Int)
  | [] => rfl
  | p :: r => by
    unfold valD encK
    rw [List.map_cons, List.find?_cons, lk]
    by_cases h : p.1 = t
    · have : (Sum.inl (p.1 : Int) : Key) = Sum.inl (t : Int) := by rw [h]
      rw [decide_eq_true this, if_pos h]
      rfl
    · have : ¬ (Sum.inl (p.1 : Int) : Key) = Sum.inl (t : Int) := fun z => h (by have := Sum.inl.inj z; omega)
      rw [decide_eq_false this, if_neg h]
      exact val_encK t r
theorem put_encK (t u : Nat) (ks : List (Nat × Nat)) : putD (encK ks) (Sum.inl (t : Int)) (.int (u : Int)) = encK (put ks t u) := by
  have e : ∀ p : Nat × Nat, decide ((Sum.inl (p.1 : Int) : Key) = Sum.inl (t : Int)) = decide (p.1 = t) := fun p => by
    by_cases h : p.1 = t
    · rw [decide_eq_true h, decide_eq_true (by rw [h])]
    · rw [decide_eq_false h, decide_eq_false (fun z => h (by have := Sum.inl.inj z; omega))]
  have ea : (encK ks).any (fun kv => decide (kv.1 = Sum.inl (t : Int))) = ks.any (fun p => decide (p.1 = t)) := by
    unfold encK
    rw [List.any_map]
    congr 1
    funext p
    exact e p
  unfold putD put
  rw [ea]
  split
  · unfold encK
    rw [List.map_map, List.map_map]
    apply List.map_congr_left
    intro p _
    dsimp only [Function.comp]
    by_cases h : p.1 = t
    · rw [if_pos h, if_pos (by rw [h])]
    · rw [if_neg h, if_neg (fun z => h (by have := Sum.inl.inj z; omega))]
  · unfold encK
    rw [List.map_append]
    rfl
theorem dGet2_at {C : CH} {q : Nat} {ks : List (Nat × Nat)} (h : C[q]? = some (.dK (encK ks))) (t : Nat) : get2O (.ref q) (.int t) (.int t) C = .ok (.int (parOf ks t)) C := by
  unfold get2O dGetO
  simp only [h, keyOf, Option.map_some, val_encK]
  unfold parOf
  cases lk ks t <;> rfl
theorem isDD_at {C : CH} {q : Nat} {kvs : List (Key × D)} (h : C[q]? = some (.dK kvs)) : isDD C (.ref q) = true := by simp only [isDD, h]
theorem eq_nat (a b : Nat) : decide ((a : Int) = (b : Int)) = decide (a = b) := by
  by_cases h : a = b
  · rw [decide_eq_true h, decide_eq_true (by rw [h])]
  · rw [decide_eq_false h, decide_eq_false (fun z => h (by omega))]
theorem sub_at {C : CH} {q : Nat} {ks : List (Nat × Nat)} (h : C[q]? = some (.dK (encK ks))) {t : Nat} (ht : parOf ks t ≠ t) : oSub2 (.ref q) (.int t) C = some (.int (parOf ks t), C) := by
  rw [oSub2_dK (k := Sum.inl (t : Int)) h rfl, val_encK]
  unfold parOf at ht ⊢
  cases e : lk ks t with
  | none => rw [e] at ht; exact absurd rfl ht
  | some u => rfl
/-! ### head -/
theorem head_raw {C : CH} {q : Nat} {ks : List (Nat × Nat)} {rt rk : Nat → Nat} {js : List (Nat × Nat × Nat)} (h : C[q]? = some (.dK (encK ks))) (U : Uf (parOf ks) rt rk js) : ∀ (n t : Nat), rk t ≤ n →
    sWh (dTest (dBin oNe (dGet2 (dVar 0) (dVar 1) (dVar 1)) (dVar 1))) (sAsg (gN 1) (dBin oSub2 (dVar 0) (dVar 1))) [some (.ref q), some (.int t)] C = .nx [some (.ref q), some (.int (rt t))] C := by
  intro n
  induction n with
  | zero =>
    intro t hn
    have ht : parOf ks t = t := Classical.byContradiction fun z => by have := U.dec t z; omega
    rw [U.top t ht]
    refine sWh_stop ?_
    have g := dGet2_at h t
    rw [ht] at g
    simp only [fnBody, startD, sSeq, sIf, sAsg, sPut, sRet, sRetN, sDrop, sNx, sPar, sFor, dTest, dBin, dVar, dC, dCB, dCons, dNil, dTup, dLst, dSl, dPN, dPS, dRev, revO, dBM, isLst, dIf, dAnd, dOr, dNot, dTru, truB, dCall, dNeg, dNewK, dNewT, gN, gT, gsN, gsC, iR1, iR2, iSeq, srcOf, itemsOf, List.map_cons, List.map_nil, List.length_cons, List.length_nil, Nat.reduceAdd, Nat.reduceSub, Nat.reduceLeDiff, List.replicate_succ, List.replicate_zero, List.cons_append, List.nil_append, List.getElem?_cons_zero, List.getElem?_cons_succ, List.set_cons_zero, List.set_cons_succ, Res.bind_ok, Res.st_ok, Option.map_some, Option.bind_some, Res.lift_some, oAdd_i, oSub_i, oLt_i, oLe_i, oGt_i, oGe_i, oEq_i, oNe_i, oEq_s, oNe_s, if_true, if_false, reduceIte, Bool.false_eq_true, gInt, gLen2, gLen, Cl.gTup, gList, optS_some, SOut.seq_nx, SOut.seq_rt, SOut.seq_bk, SOut.seq_ct, bodyOut, atI_0, atI_1, atI_2, atI_3, atI_4, atI_5, oSub2_tup, oSub2_fl, Option.orElse_some, g2I, decide_true, decide_false, slO, dDct, dPairs, keyed, Int.reduceAdd, Int.reduceMul, dGet2, isDD_at h, g, Bool.not_true]
  | succ n ih =>
    intro t hn
    have g := dGet2_at h t
    by_cases ht : parOf ks t = t
    · rw [U.top t ht]
      refine sWh_stop ?_
      rw [ht] at g
      simp only [fnBody, startD, sSeq, sIf, sAsg, sPut, sRet, sRetN, sDrop, sNx, sPar, sFor, dTest, dBin, dVar, dC, dCB, dCons, dNil, dTup, dLst, dSl, dPN, dPS, dRev, revO, dBM, isLst, dIf, dAnd, dOr, dNot, dTru, truB, dCall, dNeg, dNewK, dNewT, gN, gT, gsN, gsC, iR1, iR2, iSeq, srcOf, itemsOf, List.map_cons, List.map_nil, List.length_cons, List.length_nil, Nat.reduceAdd, Nat.reduceSub, Nat.reduceLeDiff, List.replicate_succ, List.replicate_zero, List.cons_append, List.nil_append, List.getElem?_cons_zero, List.getElem?_cons_succ, List.set_cons_zero, List.set_cons_succ, Res.bind_ok, Res.st_ok, Option.map_some, Option.bind_some, Res.lift_some, oAdd_i, oSub_i, oLt_i, oLe_i, oGt_i, oGe_i, oEq_i, oNe_i, oEq_s, oNe_s, if_true, if_false, reduceIte, Bool.false_eq_true, gInt, gLen2, gLen, Cl.gTup, gList, optS_some, SOut.seq_nx, SOut.seq_rt, SOut.seq_bk, SOut.seq_ct, bodyOut, atI_0, atI_1, atI_2, atI_3, atI_4, atI_5, oSub2_tup, oSub2_fl, Option.orElse_some, g2I, decide_true, decide_false, slO, dDct, dPairs, keyed, Int.reduceAdd, Int.reduceMul, dGet2, isDD_at h, g, Bool.not_true]
    · rw [sWh_turn (C1 := C) (sc2 := [some (.ref q), some (.int (parOf ks t))]) (C2 := C)]
      · rw [ih (parOf ks t) (by have := U.dec t ht; omega), U.root]
      · simp only [fnBody, startD, sSeq, sIf, sAsg, sPut, sRet, sRetN, sDrop, sNx, sPar, sFor, dTest, dBin, dVar, dC, dCB, dCons, dNil, dTup, dLst, dSl, dPN, dPS, dRev, revO, dBM, isLst, dIf, dAnd, dOr, dNot, dTru, truB, dCall, dNeg, dNewK, dNewT, gN, gT, gsN, gsC, iR1, iR2, iSeq, srcOf, itemsOf, List.map_cons, List.map_nil, List.length_cons, List.length_nil, Nat.reduceAdd, Nat.reduceSub, Nat.reduceLeDiff, List.replicate_succ, List.replicate_zero, List.cons_append, List.nil_append, List.getElem?_cons_zero, List.getElem?_cons_succ, List.set_cons_zero, List.set_cons_succ, Res.bind_ok, Res.st_ok, Option.map_some, Option.bind_some, Res.lift_some, oAdd_i, oSub_i, oLt_i, oLe_i, oGt_i, oGe_i, oEq_i, oNe_i, oEq_s, oNe_s, if_true, if_false, reduceIte, Bool.false_eq_true, gInt, gLen2, gLen, Cl.gTup, gList, optS_some, SOut.seq_nx, SOut.seq_rt, SOut.seq_bk, SOut.seq_ct, bodyOut, atI_0, atI_1, atI_2, atI_3, atI_4, atI_5, oSub2_tup, oSub2_fl, Option.orElse_some, g2I, decide_true, decide_false, slO, dDct, dPairs, keyed, Int.reduceAdd, Int.reduceMul, dGet2, isDD_at h, g, eq_nat, decide_eq_false ht, Bool.not_false]
      · left
        have := sub_at h ht
        simp only [fnBody, startD, sSeq, sIf, sAsg, sPut, sRet, sRetN, sDrop, sNx, sPar, sFor, dTest, dBin, dVar, dC, dCB, dCons, dNil, dTup, dLst, dSl, dPN, dPS, dRev, revO, dBM, isLst, dIf, dAnd, dOr, dNot, dTru, truB, dCall, dNeg, dNewK, dNewT, gN, gT, gsN, gsC, iR1, iR2, iSeq, srcOf, itemsOf, List.map_cons, List.map_nil, List.length_cons, List.length_nil, Nat.reduceAdd, Nat.reduceSub, Nat.reduceLeDiff, List.replicate_succ, List.replicate_zero, List.cons_append, List.nil_append, List.getElem?_cons_zero, List.getElem?_cons_succ, List.set_cons_zero, List.set_cons_succ, Res.bind_ok, Res.st_ok, Option.map_some, Option.bind_some, Res.lift_some, oAdd_i, oSub_i, oLt_i, oLe_i, oGt_i, oGe_i, oEq_i, oNe_i, oEq_s, oNe_s, if_true, if_false, reduceIte, Bool.false_eq_true, gInt, gLen2, gLen, Cl.gTup, gList, optS_some, SOut.seq_nx, SOut.seq_rt, SOut.seq_bk, SOut.seq_ct, bodyOut, atI_0, atI_1, atI_2, atI_3, atI_4, atI_5, oSub2_tup, oSub2_fl, Option.orElse_some, g2I, decide_true, decide_false, slO, dDct, dPairs, keyed, Int.reduceAdd, Int.reduceMul, this]
noncomputable def F_head : List D → CH → Res D := fnBody 2 g_head
theorem head_ok {C : CH} {q : Nat} {ks : List (Nat × Nat)} {rt rk : Nat → Nat} {js : List (Nat × Nat × Nat)} (h : C[q]? = some (.dK (encK ks))) (U : Uf (parOf ks) rt rk js) (t : Nat) : F_head [.ref q, .int t] C = .ok (.int (rt t)) C := by
  have e := head_raw h U (rk t) t (Nat.le_refl _)
  unfold F_head
  simp only [fnBody, startD, sSeq, sIf, sAsg, sPut, sRet, sRetN, sDrop, sNx, sPar, sFor, dTest, dBin, dVar, dC, dCB, dCons, dNil, dTup, dLst, dSl, dPN, dPS, dRev, revO, dBM, isLst, dIf, dAnd, dOr, dNot, dTru, truB, dCall, dNeg, dNewK, dNewT, gN, gT, gsN, gsC, iR1, iR2, iSeq, srcOf, itemsOf, List.map_cons, List.map_nil, List.length_cons, List.length_nil, Nat.reduceAdd, Nat.reduceSub, Nat.reduceLeDiff, List.replicate_succ, List.replicate_zero, List.cons_append, List.nil_append, List.getElem?_cons_zero, List.getElem?_cons_succ, List.set_cons_zero, List.set_cons_succ, Res.bind_ok, Res.st_ok, Option.map_some, Option.bind_some, Res.lift_some, oAdd_i, oSub_i, oLt_i, oLe_i, oGt_i, oGe_i, oEq_i, oNe_i, oEq_s, oNe_s, if_true, if_false, reduceIte, Bool.false_eq_true, gInt, gLen2, gLen, Cl.gTup, gList, optS_some, SOut.seq_nx, SOut.seq_rt, SOut.seq_bk, SOut.seq_ct, bodyOut, atI_0, atI_1, atI_2, atI_3, atI_4, atI_5, oSub2_tup, oSub2_fl, Option.orElse_some, g2I, decide_true, decide_false, slO, dDct, dPairs, keyed, Int.reduceAdd, Int.reduceMul, g_head, e]
/-! ### join -/
theorem setO_k {C : CH} {q : Nat} {ks : List (Nat × Nat)} (h : C[q]? = some (.dK (encK ks))) (hz : ks.length ≤ 1000000) (t u : Nat) : setO (.ref q) (.int t) (.int u) C = some (C.set q (.dK (encK (put ks t u)))) := by
  have hz2 : (encK ks).length ≤ 1000000 := by unfold encK; rw [List.length_map]; exact hz
  simp only [setO, h, if_pos hz2, keyOf, Option.map_some, put_encK]
noncomputable def shortW : Fs := sWh (dTest (dBin oNe (dGet2 (dVar 0) (dVar 5) (dVar 5)) (dVar 6))) (sSeq (sAsg (gN 7) (dGet2 (dVar 0) (dVar 5) (dVar 5)))
  (sSeq (sPut (dVar 6) (dVar 0) (dVar 5))
  (sAsg (gN 5) (dVar 7))))
theorem set_set' {C : CH} {q : Nat} (o o' : O) : (C.set q o).set q o' = C.set q o' := List.set_set _
theorem short_raw {q : Nat} {rt rk : Nat → Nat} {js : List (Nat × Nat × Nat)} {x1 x2 x3 x4 : Option D} : ∀ (n a : Nat) (C : CH) (ks : List (Nat × Nat)) (x7 : Option D), C[q]? = some (.dK (encK ks)) → Uf (parOf ks) rt rk js → rk a ≤ n → ks.length ≤ 1000000 →
    ∃ ks' a' x7', shortW [some (.ref q), x1, x2, x3, x4, some (.int a), some (.int (rt a)), x7] C = .nx [some (.ref q), x1, x2, x3, x4, a', some (.int (rt a)), x7'] (C.set q (.dK (encK ks'))) ∧ Uf (parOf ks') rt rk js ∧ ks'.length = ks.length := by
  intro n
  have stop : ∀ (a : Nat) (C : CH) (ks : List (Nat × Nat)) (x7 : Option D), C[q]? = some (.dK (encK ks)) → Uf (parOf ks) rt rk js → parOf ks a = rt a →
      ∃ ks' a' x7', shortW [some (.ref q), x1, x2, x3, x4, some (.int a), some (.int (rt a)), x7] C = .nx [some (.ref q), x1, x2, x3, x4, a', some (.int (rt a)), x7'] (C.set q (.dK (encK ks'))) ∧ Uf (parOf ks') rt rk js ∧ ks'.length = ks.length := by
    intro a C ks x7 h U ht
    have hs : C.set q (.dK (encK ks)) = C := by
      obtain ⟨hl, e⟩ := List.getElem?_eq_some_iff.mp h
      rw [← e, List.set_getElem_self]
    refine ⟨ks, some (.int a), x7, ?_, U, rfl⟩
    rw [hs]
    have g := dGet2_at h a
    rw [ht] at g
    refine sWh_stop ?_
    simp only [fnBody, startD, sSeq, sIf, sAsg, sPut, sRet, sRetN, sDrop, sNx, sPar, sFor, dTest, dBin, dVar, dC, dCB, dCons, dNil, dTup, dLst, dSl, dPN, dPS, dRev, revO, dBM, isLst, dIf, dAnd, dOr, dNot, dTru, truB, dCall, dNeg, dNewK, dNewT, gN, gT, gsN, gsC, iR1, iR2, iSeq, srcOf, itemsOf, List.map_cons, List.map_nil, List.length_cons, List.length_nil, Nat.reduceAdd, Nat.reduceSub, Nat.reduceLeDiff, List.replicate_succ, List.replicate_zero, List.cons_append, List.nil_append, List.getElem?_cons_zero, List.getElem?_cons_succ, List.set_cons_zero, List.set_cons_succ, Res.bind_ok, Res.st_ok, Option.map_some, Option.bind_some, Res.lift_some, oAdd_i, oSub_i, oLt_i, oLe_i, oGt_i, oGe_i, oEq_i, oNe_i, oEq_s, oNe_s, if_true, if_false, reduceIte, Bool.false_eq_true, gInt, gLen2, gLen, Cl.gTup, gList, optS_some, SOut.seq_nx, SOut.seq_rt, SOut.seq_bk, SOut.seq_ct, bodyOut, atI_0, atI_1, atI_2, atI_3, atI_4, atI_5, oSub2_tup, oSub2_fl, Option.orElse_some, g2I, decide_true, decide_false, slO, dDct, dPairs, keyed, Int.reduceAdd, Int.reduceMul, dGet2, isDD_at h, g, Bool.not_true]
  induction n with
  | zero =>
    intro a C ks x7 h U hn hz
    have ht : parOf ks a = a := Classical.byContradiction fun z => by have := U.dec a z; omega
    exact stop a C ks x7 h U (by rw [U.top a ht]; exact ht)
  | succ n ih =>
    intro a C ks x7 h U hn hz
    by_cases ht : parOf ks a = rt a
    · exact stop a C ks x7 h U ht
    · have hne : parOf ks a ≠ a := fun z => ht (by rw [U.top a z]; exact z)
      have hq : q < C.length := (List.getElem?_eq_some_iff.mp h).1
      have h2 : (C.set q (.dK (encK (put ks a (rt a)))))[q]? = some (.dK (encK (put ks a (rt a)))) := List.getElem?_set_self hq
      have U2 : Uf (parOf (put ks a (rt a))) rt rk js := by rw [par_put]; exact U.short hne
      obtain ⟨ks', a', x7', e, U', hl⟩ := ih (parOf ks a) _ (put ks a (rt a)) (some (.int (parOf ks a))) h2 U2 (by have := U.dec a hne; omega) (by rw [put_len2 hne]; exact hz)
      rw [U.root, set_set'] at e
      refine ⟨ks', a', x7', ?_, U', by rw [hl, put_len2 hne]⟩
      rw [← e]
      unfold shortW
      refine sWh_turn (C1 := C) ?_ (.inl ?_)
      · have g := dGet2_at h a
        simp only [fnBody, startD, sSeq, sIf, sAsg, sPut, sRet, sRetN, sDrop, sNx, sPar, sFor, dTest, dBin, dVar, dC, dCB, dCons, dNil, dTup, dLst, dSl, dPN, dPS, dRev, revO, dBM, isLst, dIf, dAnd, dOr, dNot, dTru, truB, dCall, dNeg, dNewK, dNewT, gN, gT, gsN, gsC, iR1, iR2, iSeq, srcOf, itemsOf, List.map_cons, List.map_nil, List.length_cons, List.length_nil, Nat.reduceAdd, Nat.reduceSub, Nat.reduceLeDiff, List.replicate_succ, List.replicate_zero, List.cons_append, List.nil_append, List.getElem?_cons_zero, List.getElem?_cons_succ, List.set_cons_zero, List.set_cons_succ, Res.bind_ok, Res.st_ok, Option.map_some, Option.bind_some, Res.lift_some, oAdd_i, oSub_i, oLt_i, oLe_i, oGt_i, oGe_i, oEq_i, oNe_i, oEq_s, oNe_s, if_true, if_false, reduceIte, Bool.false_eq_true, gInt, gLen2, gLen, Cl.gTup, gList, optS_some, SOut.seq_nx, SOut.seq_rt, SOut.seq_bk, SOut.seq_ct, bodyOut, atI_0, atI_1, atI_2, atI_3, atI_4, atI_5, oSub2_tup, oSub2_fl, Option.orElse_some, g2I, decide_true, decide_false, slO, dDct, dPairs, keyed, Int.reduceAdd, Int.reduceMul, dGet2, isDD_at h, g, eq_nat, decide_eq_false ht, Bool.not_false]
      · have g := dGet2_at h a
        have s1 := setO_k h hz a (rt a)
        simp only [fnBody, startD, sSeq, sIf, sAsg, sPut, sRet, sRetN, sDrop, sNx, sPar, sFor, dTest, dBin, dVar, dC, dCB, dCons, dNil, dTup, dLst, dSl, dPN, dPS, dRev, revO, dBM, isLst, dIf, dAnd, dOr, dNot, dTru, truB, dCall, dNeg, dNewK, dNewT, gN, gT, gsN, gsC, iR1, iR2, iSeq, srcOf, itemsOf, List.map_cons, List.map_nil, List.length_cons, List.length_nil, Nat.reduceAdd, Nat.reduceSub, Nat.reduceLeDiff, List.replicate_succ, List.replicate_zero, List.cons_append, List.nil_append, List.getElem?_cons_zero, List.getElem?_cons_succ, List.set_cons_zero, List.set_cons_succ, Res.bind_ok, Res.st_ok, Option.map_some, Option.bind_some, Res.lift_some, oAdd_i, oSub_i, oLt_i, oLe_i, oGt_i, oGe_i, oEq_i, oNe_i, oEq_s, oNe_s, if_true, if_false, reduceIte, Bool.false_eq_true, gInt, gLen2, gLen, Cl.gTup, gList, optS_some, SOut.seq_nx, SOut.seq_rt, SOut.seq_bk, SOut.seq_ct, bodyOut, atI_0, atI_1, atI_2, atI_3, atI_4, atI_5, oSub2_tup, oSub2_fl, Option.orElse_some, g2I, decide_true, decide_false, slO, dDct, dPairs, keyed, Int.reduceAdd, Int.reduceMul, dGet2, isDD_at h, g, s1]
noncomputable def F_join : List D → CH → Res D := fnBody 8 (g_join F_head)
theorem fr_nil {g : Fg} {b : Fs} {sc : Sc} {C : CH} : fr (fun _ => True) g b [] sc C = .nx sc C := by rw [fr, if_pos trivial]
theorem fr_nx {g : Fg} {b : Fs} {d : D} {ds : List D} {sc sc1 sc2 : Sc} {C C2 : CH} (hg : g d sc = some sc1) (hb : b sc1 C = .nx sc2 C2) : fr (fun _ => True) g b (d :: ds) sc C = fr (fun _ => True) g b ds sc2 C2 := by
  rw [fr, if_pos trivial, hg]
  simp only [optS_some, hb]
theorem join_no {C : CH} {q : Nat} {ks : List (Nat × Nat)} {rt rk : Nat → Nat} {js : List (Nat × Nat × Nat)} (h : C[q]? = some (.dK (encK ks))) (U : Uf (parOf ks) rt rk js) {t u : Nat} (e : rt t = rt u) : F_join [.ref q, .int t, .int u] C = .ok (.bl false) C := by
  have h1 := head_ok h U t
  have h2 := head_ok h U u
  unfold F_join
  simp only [fnBody, startD, sSeq, sIf, sAsg, sPut, sRet, sRetN, sDrop, sNx, sPar, sFor, dTest, dBin, dVar, dC, dCB, dCons, dNil, dTup, dLst, dSl, dPN, dPS, dRev, revO, dBM, isLst, dIf, dAnd, dOr, dNot, dTru, truB, dCall, dNeg, dNewK, dNewT, gN, gT, gsN, gsC, iR1, iR2, iSeq, srcOf, itemsOf, List.map_cons, List.map_nil, List.length_cons, List.length_nil, Nat.reduceAdd, Nat.reduceSub, Nat.reduceLeDiff, List.replicate_succ, List.replicate_zero, List.cons_append, List.nil_append, List.getElem?_cons_zero, List.getElem?_cons_succ, List.set_cons_zero, List.set_cons_succ, Res.bind_ok, Res.st_ok, Option.map_some, Option.bind_some, Res.lift_some, oAdd_i, oSub_i, oLt_i, oLe_i, oGt_i, oGe_i, oEq_i, oNe_i, oEq_s, oNe_s, if_true, if_false, reduceIte, Bool.false_eq_true, gInt, gLen2, gLen, Cl.gTup, gList, optS_some, SOut.seq_nx, SOut.seq_rt, SOut.seq_bk, SOut.seq_ct, bodyOut, atI_0, atI_1, atI_2, atI_3, atI_4, atI_5, oSub2_tup, oSub2_fl, Option.orElse_some, g2I, decide_true, decide_false, slO, dDct, dPairs, keyed, Int.reduceAdd, Int.reduceMul, g_join, h1, h2, e]
theorem join_yes {C : CH} {q : Nat} {ks : List (Nat × Nat)} {rt rk : Nat → Nat} {js : List (Nat × Nat × Nat)} (h : C[q]? = some (.dK (encK ks))) (U : Uf (parOf ks) rt rk js) (hz : ks.length < 1000000) {t u : Nat} (ne : rt t ≠ rt u) (c : Nat) :
    ∃ ks' rt' rk', F_join [.ref q, .int t, .int u] C = .ok (.bl true) (C.set q (.dK (encK ks'))) ∧ Uf (parOf ks') rt' rk' (js ++ [(t, u, c)]) ∧ ks'.length ≤ ks.length + 1 := by
  have h1 := head_ok h U t
  have h2 := head_ok h U u
  have hq : q < C.length := (List.getElem?_eq_some_iff.mp h).1
  have s1 := setO_k h (by omega) (rt t) (rt u)
  have h3 : (C.set q (.dK (encK (put ks (rt t) (rt u)))))[q]? = some (.dK (encK (put ks (rt t) (rt u)))) := List.getElem?_set_self hq
  have U3 := U.union (c := c) ne
  rw [← par_put] at U3
  have l3 := put_len ks (rt t) (rt u)
  generalize hrt : (fun x => if rt x = rt t then rt u else rt x) = rt' at U3
  have ra : rt' t = rt u := by rw [← hrt]; exact if_pos rfl
  have rb : rt' u = rt u := by rw [← hrt]; exact if_neg (Ne.symm ne)
  obtain ⟨ks4, a4, x4, e4, U4, l4⟩ := short_raw (q := q) (x1 := some (.int t)) (x2 := some (.int u)) (x3 := some (.int (rt t))) (x4 := some (.int (rt u))) _ t _ _ none h3 U3 (Nat.le_refl _) (by omega)
  rw [ra, set_set'] at e4
  have h4 : (C.set q (.dK (encK ks4)))[q]? = some (.dK (encK ks4)) := List.getElem?_set_self hq
  obtain ⟨ks5, a5, x5, e5, U5, l5⟩ := short_raw (q := q) (x1 := some (.int t)) (x2 := some (.int u)) (x3 := some (.int (rt t))) (x4 := some (.int (rt u))) _ u _ _ x4 h4 U4 (Nat.le_refl _) (by omega)
  rw [rb, set_set'] at e5
  refine ⟨ks5, rt', _, ?_, U5, by omega⟩
  have ef : fr (fun _ => True) (gT 2 (gsC (gN 5) (gsC (gN 6) gsN))) shortW [.tup [.int t, .int (rt u)], .tup [.int u, .int (rt u)]] [some (.ref q), some (.int t), some (.int u), some (.int (rt t)), some (.int (rt u)), none, none, none] (C.set q (.dK (encK (put ks (rt t) (rt u))))) =
      .nx [some (.ref q), some (.int t), some (.int u), some (.int (rt t)), some (.int (rt u)), a5, some (.int (rt u)), x5] (C.set q (.dK (encK ks5))) := by
    rw [fr_nx rfl e4, fr_nx rfl e5, fr_nil]
  unfold shortW at ef
  unfold F_join
  have ne2 : ¬ (rt t : Int) = (rt u : Int) := fun z => ne (by omega)
  simp only [fnBody, startD, sSeq, sIf, sAsg, sPut, sRet, sRetN, sDrop, sNx, sPar, sFor, dTest, dBin, dVar, dC, dCB, dCons, dNil, dTup, dLst, dSl, dPN, dPS, dRev, revO, dBM, isLst, dIf, dAnd, dOr, dNot, dTru, truB, dCall, dNeg, dNewK, dNewT, gN, gT, gsN, gsC, iR1, iR2, iSeq, srcOf, itemsOf, List.map_cons, List.map_nil, List.length_cons, List.length_nil, Nat.reduceAdd, Nat.reduceSub, Nat.reduceLeDiff, List.replicate_succ, List.replicate_zero, List.cons_append, List.nil_append, List.getElem?_cons_zero, List.getElem?_cons_succ, List.set_cons_zero, List.set_cons_succ, Res.bind_ok, Res.st_ok, Option.map_some, Option.bind_some, Res.lift_some, oAdd_i, oSub_i, oLt_i, oLe_i, oGt_i, oGe_i, oEq_i, oNe_i, oEq_s, oNe_s, if_true, if_false, reduceIte, Bool.false_eq_true, gInt, gLen2, gLen, Cl.gTup, gList, optS_some, SOut.seq_nx, SOut.seq_rt, SOut.seq_bk, SOut.seq_ct, bodyOut, atI_0, atI_1, atI_2, atI_3, atI_4, atI_5, oSub2_tup, oSub2_fl, Option.orElse_some, g2I, decide_true, decide_false, slO, dDct, dPairs, keyed, Int.reduceAdd, Int.reduceMul, g_join, h1, h2, decide_eq_false ne2, s1, ef]
end Lw
set_option maxHeartbeats 4000000
/-! law_k22: values and kinds. -/
namespace Lw
open PySem Cl L2 Rd
def vd : Vl → D
  | .th t => .tup [.str "thing", .int t]
  | .nil => .tup []
  | .bl b => .bl b
  | .nu i => .int i
  | .nm x => .tup [.str "name", .str x]
def td : Th → D
  | .pr a b => .tup [.str "pair", vd a, vd b]
  | .fa => .tup [.str "fn", .tup [.int 0], .tup []]
  | .fb => .tup [.str "kept", .tup [], .tup []]
def sd (S : List Th) : D := .tup (S.map td)
def vok (n : Nat) : Vl → Prop
  | .th t => t < n
  | .nu i => -1267650600228229401496703205376 < i ∧ i < 1267650600228229401496703205376
  | .nm x => x = "x" ∨ x = "y"
  | _ => True
def SOk (S : List Th) : Prop := ∀ a b, Th.pr a b ∈ S → vok S.length a ∧ vok S.length b
def kname : Kd → Str
  | .truth => "truth"
  | .number => "number"
  | .nothing => "nothing"
  | .name => "name"
  | .pair => "pair"
  | .function => "function"
theorem kname_eq (a b : Kd) : decide (kname a = kname b) = decide (a = b) := by
  cases a <;> cases b <;> decide +kernel
theorem kname_pair (a : Kd) : decide (kname a = "pair") = decide (a = .pair) := kname_eq a .pair
def vp : Vl → PyData
  | .th t => .tuple [.str "thing", .int t]
  | .nil => .tuple []
  | .bl b => .bool b
  | .nu i => .int i
  | .nm x => .tuple [.str "name", .str x]
theorem so_thing : PyData.strOk "thing" = true := by decide +kernel
theorem so_name : PyData.strOk "name" = true := by decide +kernel
theorem so_pair : PyData.strOk "pair" = true := by decide +kernel
theorem so_x : PyData.strOk "x" = true := by decide +kernel
theorem so_y : PyData.strOk "y" = true := by decide +kernel
theorem so_fn : PyData.strOk "fn" = true := by decide +kernel
theorem so_kept : PyData.strOk "kept" = true := by decide +kernel
theorem so_nm {x : Str} (h : x = "x" ∨ x = "y") : PyData.strOk x = true := by
  rcases h with rfl | rfl
  · exact so_x
  · exact so_y
theorem py_v {n : Nat} (C : CH) (k : Nat) {v : Vl} (h : vok n v) : py C (k + 2) (vd v) = some (vp v) := by
  cases v with
  | th t => simp only [vd, vp, py, so_thing, if_true, List.mapM_cons, List.mapM_nil]; rfl
  | nil => rfl
  | bl b => rfl
  | nu i => rfl
  | nm x =>
    have := so_nm h
    simp only [vd, vp, py, so_name, this, if_true, List.mapM_cons, List.mapM_nil]; rfl
theorem sh_v {n : Nat} {v : Vl} (h : vok n v) : SeqAt.shaped (vp v) = true := by
  cases v with
  | th t => simp [vp, SeqAt.shaped, PyData.canLay0, PyData.canLayAll0, so_thing, PyData.depth, PyData.depthAll]
  | nil => decide
  | bl b => simp [vp, SeqAt.shaped, PyData.canLay0, PyData.depth]
  | nu i => simp [vp, SeqAt.shaped, PyData.canLay0, PyData.depth]
  | nm x =>
    have := so_nm h
    simp [vp, SeqAt.shaped, PyData.canLay0, PyData.canLayAll0, so_name, this, PyData.depth, PyData.depthAll]
theorem eqP_v {n : Nat} (C : CH) {v w : Vl} (h : vok n v) (h' : vok n w) : eqP C (vd v) (vd w) = some (PyData.eqv (vp v) (vp w)) := by
  unfold eqP
  rw [py_v C 64 h, py_v C 64 h']
  simp only [Option.bind_some, sh_v h, sh_v h', Bool.and_self, if_true]
theorem eq_same {S : List Th} {n : Nat} (C : CH) {v w : Vl} (h : vok n v) (h' : vok n w) (hk : kd S v = kd S w) : eqO C (vd v) (vd w) = some (decide (v = w)) := by
  cases v with
  | th t =>
    cases w with
    | th u =>
      show eqP C (vd (.th t)) (vd (.th u)) = _
      rw [eqP_v C h h']
      simp [vp, PyData.eqv, PyData.eqvAll]
      rw [← eq_nat, Bool.beq_eq_decide_eq]
    | nil => simp only [kd] at hk; split at hk <;> cases hk
    | bl b => simp only [kd] at hk; split at hk <;> cases hk
    | nu i => simp only [kd] at hk; split at hk <;> cases hk
    | nm x => simp only [kd] at hk; split at hk <;> cases hk
  | nil =>
    cases w with
    | th u => simp only [kd] at hk; split at hk <;> cases hk
    | nil =>
      show eqP C (vd .nil) (vd .nil) = _
      rw [eqP_v (n := 0) (v := .nil) (w := .nil) C trivial trivial]
      simp [vp, PyData.eqv, PyData.eqvAll]
    | _ => cases hk
  | bl b =>
    cases w with
    | th u => simp only [kd] at hk; split at hk <;> cases hk
    | bl c =>
      show some (decide (b = c)) = _
      simp
    | _ => cases hk
  | nu i =>
    cases w with
    | th u => simp only [kd] at hk; split at hk <;> cases hk
    | nu j =>
      show some (decide (i = j)) = _
      simp
    | _ => cases hk
  | nm x =>
    cases w with
    | th u => simp only [kd] at hk; split at hk <;> cases hk
    | nm y =>
      show eqP C (vd (.nm x)) (vd (.nm y)) = _
      rw [eqP_v C h h']
      simp [vp, PyData.eqv, PyData.eqvAll]
      rw [Bool.beq_eq_decide_eq]
    | _ => cases hk
theorem oEq_same {S : List Th} {n : Nat} (C : CH) {v w : Vl} (h : vok n v) (h' : vok n w) (hk : kd S v = kd S w) : oEq (vd v) (vd w) C = some (.bl (decide (v = w)), C) := by
  unfold oEq; rw [eq_same C h h' hk]; rfl
theorem oNe_same {S : List Th} {n : Nat} (C : CH) {v w : Vl} (h : vok n v) (h' : vok n w) (hk : kd S v = kd S w) : oNe (vd v) (vd w) C = some (.bl (!decide (v = w)), C) := by
  unfold oNe; rw [eq_same C h h' hk]; rfl
theorem unit_eq {n : Nat} (C : CH) {v : Vl} (h : vok n v) (ht : ∀ b, v ≠ .bl b) (hn : ∀ i, v ≠ .nu i) : eqO C (vd v) (.tup []) = some (decide (v = .nil)) := by
  have e : eqP C (vd v) (vd .nil) = some (PyData.eqv (vp v) (vp .nil)) := eqP_v (n := n) C h trivial
  cases v with
  | th t => exact e.trans (by simp [vp, PyData.eqv, PyData.eqvAll])
  | nil => exact e.trans (by simp [vp, PyData.eqv, PyData.eqvAll])
  | bl b => exact absurd rfl (ht b)
  | nu i => exact absurd rfl (hn i)
  | nm x => exact e.trans (by simp [vp, PyData.eqv, PyData.eqvAll])
theorem oEq_unit {n : Nat} (C : CH) {v : Vl} (h : vok n v) (ht : ∀ b, v ≠ .bl b) (hn : ∀ i, v ≠ .nu i) : oEq (vd v) (.tup []) C = some (.bl (decide (v = .nil)), C) := by unfold oEq; rw [unit_eq C h ht hn]; rfl
theorem oNe_unit {n : Nat} (C : CH) {v : Vl} (h : vok n v) (ht : ∀ b, v ≠ .bl b) (hn : ∀ i, v ≠ .nu i) : oNe (vd v) (.tup []) C = some (.bl (!decide (v = .nil)), C) := by unfold oNe; rw [unit_eq C h ht hn]; rfl
/-- isinstance -/
def vty : Vl → String
  | .bl _ => "bool"
  | .nu _ => "int"
  | _ => "tuple"
theorem ty_v (C : CH) (v : Vl) : tyD C (vd v) = some (vty v) := by cases v <;> rfl
theorem isi_v (C : CH) (v : Vl) {T : String} (hT : T ∈ ["bool", "int", "str", "tuple", "list", "dict"]) : gIsi [vd v, .v (.ty T)] C = some (.bl (subT (vty v) T), C) := by
  simp only [gIsi, ty_v, Option.bind_some, if_pos hT]
theorem isi_bool (C : CH) (v : Vl) : gIsi [vd v, .v (.ty "bool")] C = some (.bl (subT (vty v) "bool"), C) := isi_v C v (by decide)
theorem isi_int (C : CH) (v : Vl) : gIsi [vd v, .v (.ty "int")] C = some (.bl (subT (vty v) "int"), C) := isi_v C v (by decide)
theorem isi_tuple (C : CH) (v : Vl) : gIsi [vd v, .v (.ty "tuple")] C = some (.bl (subT (vty v) "tuple"), C) := isi_v C v (by decide)
theorem at_store {S : List Th} {t : Nat} {x : Th} (h : S[t]? = some x) : atI (S.map td) (t : Int) = some (td x) := by rw [atI_n, List.getElem?_map, h]; rfl
def pairB : Th → Bool
  | .pr _ _ => true
  | _ => false
theorem td0 (x : Th) : ∃ r, td x = .tup (.str (match x with | .pr _ _ => "pair" | .fa => "fn" | .fb => "kept") :: r) := by cases x <;> exact ⟨_, rfl⟩
theorem kd_th {S : List Th} {t : Nat} {x : Th} (h : S[t]? = some x) : kd S (.th t) = if pairB x then .pair else .function := by
  cases x <;> simp [kd, h, pairB]
theorem se1 : decide (("fn" : Str) = "pair") = false := by decide +kernel
theorem se2 : decide (("kept" : Str) = "pair") = false := by decide +kernel
theorem se3 : decide (("pair" : Str) = "pair") = true := by decide +kernel
theorem se4 : decide (("thing" : Str) = "name") = false := by decide +kernel
theorem se5 : decide (("name" : Str) = "name") = true := by decide +kernel
theorem st1 : subT "bool" "bool" = true := by decide
theorem st2 : subT "int" "bool" = false := by decide
theorem st3 : subT "tuple" "bool" = false := by decide
theorem st4 : subT "int" "int" = true := by decide
theorem st5 : subT "tuple" "int" = false := by decide
noncomputable def F_kind : List D → CH → Res D := fnBody 2 g_kind_of
theorem same_kind : g__law_kind = g_kind_of := rfl
theorem kind_ok {S : List Th} {v : Vl} (h : vok S.length v) (C : CH) : F_kind [sd S, vd v] C = .ok (.str (kname (kd S v))) C := by
  unfold F_kind
  have i1 := isi_bool C v
  have i2 := isi_int C v
  cases v with
  | bl b =>
    rw [show vty (.bl b) = "bool" from rfl, st1] at i1
    simp only [fnBody, startD, sSeq, sIf, sAsg, sPut, sRet, sRetN, sDrop, sNx, sPar, sFor, dTest, dBin, dVar, dC, dCB, dCons, dNil, dTup, dLst, dSl, dPN, dPS, dRev, revO, dBM, isLst, dIf, dAnd, dOr, dNot, dTru, truB, dCall, dNeg, dNewK, dNewT, gN, gT, gsN, gsC, iR1, iR2, iSeq, srcOf, itemsOf, List.map_cons, List.map_nil, List.length_cons, List.length_nil, Nat.reduceAdd, Nat.reduceSub, Nat.reduceLeDiff, List.replicate_succ, List.replicate_zero, List.cons_append, List.nil_append, List.getElem?_cons_zero, List.getElem?_cons_succ, List.set_cons_zero, List.set_cons_succ, Res.bind_ok, Res.st_ok, Option.map_some, Option.bind_some, Res.lift_some, oAdd_i, oSub_i, oLt_i, oLe_i, oGt_i, oGe_i, oEq_i, oNe_i, oEq_s, oNe_s, if_true, if_false, reduceIte, Bool.false_eq_true, gInt, gLen2, gLen, Cl.gTup, gList, optS_some, SOut.seq_nx, SOut.seq_rt, SOut.seq_bk, SOut.seq_ct, bodyOut, atI_0, atI_1, atI_2, atI_3, atI_4, atI_5, oSub2_tup, oSub2_fl, Option.orElse_some, g2I, decide_true, decide_false, slO, dDct, dPairs, keyed, Int.reduceAdd, Int.reduceMul, g_kind_of, i1, kd, kname]
  | nu i =>
    rw [show vty (.nu i) = "int" from rfl] at i1 i2
    rw [st2] at i1
    rw [st4] at i2
    simp only [fnBody, startD, sSeq, sIf, sAsg, sPut, sRet, sRetN, sDrop, sNx, sPar, sFor, dTest, dBin, dVar, dC, dCB, dCons, dNil, dTup, dLst, dSl, dPN, dPS, dRev, revO, dBM, isLst, dIf, dAnd, dOr, dNot, dTru, truB, dCall, dNeg, dNewK, dNewT, gN, gT, gsN, gsC, iR1, iR2, iSeq, srcOf, itemsOf, List.map_cons, List.map_nil, List.length_cons, List.length_nil, Nat.reduceAdd, Nat.reduceSub, Nat.reduceLeDiff, List.replicate_succ, List.replicate_zero, List.cons_append, List.nil_append, List.getElem?_cons_zero, List.getElem?_cons_succ, List.set_cons_zero, List.set_cons_succ, Res.bind_ok, Res.st_ok, Option.map_some, Option.bind_some, Res.lift_some, oAdd_i, oSub_i, oLt_i, oLe_i, oGt_i, oGe_i, oEq_i, oNe_i, oEq_s, oNe_s, if_true, if_false, reduceIte, Bool.false_eq_true, gInt, gLen2, gLen, Cl.gTup, gList, optS_some, SOut.seq_nx, SOut.seq_rt, SOut.seq_bk, SOut.seq_ct, bodyOut, atI_0, atI_1, atI_2, atI_3, atI_4, atI_5, oSub2_tup, oSub2_fl, Option.orElse_some, g2I, decide_true, decide_false, slO, dDct, dPairs, keyed, Int.reduceAdd, Int.reduceMul, g_kind_of, i1, i2, kd, kname]
  | nil =>
    rw [show vty .nil = "tuple" from rfl] at i1 i2
    rw [st3] at i1
    rw [st5] at i2
    have e := oEq_unit (n := 0) C (v := .nil) trivial (fun b z => by cases z) (fun b z => by cases z)
    rw [decide_eq_true rfl] at e
    have e : oEq (vd .nil) (.tup []) C = _ := e
    simp only [fnBody, startD, sSeq, sIf, sAsg, sPut, sRet, sRetN, sDrop, sNx, sPar, sFor, dTest, dBin, dVar, dC, dCB, dCons, dNil, dTup, dLst, dSl, dPN, dPS, dRev, revO, dBM, isLst, dIf, dAnd, dOr, dNot, dTru, truB, dCall, dNeg, dNewK, dNewT, gN, gT, gsN, gsC, iR1, iR2, iSeq, srcOf, itemsOf, List.map_cons, List.map_nil, List.length_cons, List.length_nil, Nat.reduceAdd, Nat.reduceSub, Nat.reduceLeDiff, List.replicate_succ, List.replicate_zero, List.cons_append, List.nil_append, List.getElem?_cons_zero, List.getElem?_cons_succ, List.set_cons_zero, List.set_cons_succ, Res.bind_ok, Res.st_ok, Option.map_some, Option.bind_some, Res.lift_some, oAdd_i, oSub_i, oLt_i, oLe_i, oGt_i, oGe_i, oEq_i, oNe_i, oEq_s, oNe_s, if_true, if_false, reduceIte, Bool.false_eq_true, gInt, gLen2, gLen, Cl.gTup, gList, optS_some, SOut.seq_nx, SOut.seq_rt, SOut.seq_bk, SOut.seq_ct, bodyOut, atI_0, atI_1, atI_2, atI_3, atI_4, atI_5, oSub2_tup, oSub2_fl, Option.orElse_some, g2I, decide_true, decide_false, slO, dDct, dPairs, keyed, Int.reduceAdd, Int.reduceMul, g_kind_of, i1, i2, e, Nat.zero_le, kd, kname]
  | nm x =>
    rw [show vty (.nm x) = "tuple" from rfl] at i1 i2
    rw [st3] at i1
    rw [st5] at i2
    have e := oEq_unit C (v := .nm x) h (fun b z => by cases z) (fun b z => by cases z)
    rw [decide_eq_false (by intro z; cases z)] at e
    have e : oEq (vd (.nm x)) (.tup []) C = _ := e
    simp only [vd] at e i1 i2 ⊢
    simp only [fnBody, startD, sSeq, sIf, sAsg, sPut, sRet, sRetN, sDrop, sNx, sPar, sFor, dTest, dBin, dVar, dC, dCB, dCons, dNil, dTup, dLst, dSl, dPN, dPS, dRev, revO, dBM, isLst, dIf, dAnd, dOr, dNot, dTru, truB, dCall, dNeg, dNewK, dNewT, gN, gT, gsN, gsC, iR1, iR2, iSeq, srcOf, itemsOf, List.map_cons, List.map_nil, List.length_cons, List.length_nil, Nat.reduceAdd, Nat.reduceSub, Nat.reduceLeDiff, List.replicate_succ, List.replicate_zero, List.cons_append, List.nil_append, List.getElem?_cons_zero, List.getElem?_cons_succ, List.set_cons_zero, List.set_cons_succ, Res.bind_ok, Res.st_ok, Option.map_some, Option.bind_some, Res.lift_some, oAdd_i, oSub_i, oLt_i, oLe_i, oGt_i, oGe_i, oEq_i, oNe_i, oEq_s, oNe_s, if_true, if_false, reduceIte, Bool.false_eq_true, gInt, gLen2, gLen, Cl.gTup, gList, optS_some, SOut.seq_nx, SOut.seq_rt, SOut.seq_bk, SOut.seq_ct, bodyOut, atI_0, atI_1, atI_2, atI_3, atI_4, atI_5, oSub2_tup, oSub2_fl, Option.orElse_some, g2I, decide_true, decide_false, slO, dDct, dPairs, keyed, Int.reduceAdd, Int.reduceMul, g_kind_of, i1, i2, e, Nat.zero_le, se5, kd, kname]
  | th t =>
    rw [show vty (.th t) = "tuple" from rfl] at i1 i2
    rw [st3] at i1
    rw [st5] at i2
    have e := oEq_unit C (v := .th t) h (fun b z => by cases z) (fun b z => by cases z)
    rw [decide_eq_false (by intro z; cases z)] at e
    have e : oEq (vd (.th t)) (.tup []) C = _ := e
    simp only [vd] at e i1 i2 ⊢
    obtain ⟨x, hx⟩ : ∃ x, S[t]? = some x := ⟨_, List.getElem?_eq_getElem h⟩
    have ea := at_store hx
    cases x with
    | pr a b =>
      simp only [td] at ea
      simp only [fnBody, startD, sSeq, sIf, sAsg, sPut, sRet, sRetN, sDrop, sNx, sPar, sFor, dTest, dBin, dVar, dC, dCB, dCons, dNil, dTup, dLst, dSl, dPN, dPS, dRev, revO, dBM, isLst, dIf, dAnd, dOr, dNot, dTru, truB, dCall, dNeg, dNewK, dNewT, gN, gT, gsN, gsC, iR1, iR2, iSeq, srcOf, itemsOf, List.map_cons, List.map_nil, List.length_cons, List.length_nil, Nat.reduceAdd, Nat.reduceSub, Nat.reduceLeDiff, List.replicate_succ, List.replicate_zero, List.cons_append, List.nil_append, List.getElem?_cons_zero, List.getElem?_cons_succ, List.set_cons_zero, List.set_cons_succ, Res.bind_ok, Res.st_ok, Option.map_some, Option.bind_some, Res.lift_some, oAdd_i, oSub_i, oLt_i, oLe_i, oGt_i, oGe_i, oEq_i, oNe_i, oEq_s, oNe_s, if_true, if_false, reduceIte, Bool.false_eq_true, gInt, gLen2, gLen, Cl.gTup, gList, optS_some, SOut.seq_nx, SOut.seq_rt, SOut.seq_bk, SOut.seq_ct, bodyOut, atI_0, atI_1, atI_2, atI_3, atI_4, atI_5, oSub2_tup, oSub2_fl, Option.orElse_some, g2I, decide_true, decide_false, slO, dDct, dPairs, keyed, Int.reduceAdd, Int.reduceMul, g_kind_of, i1, i2, e, Nat.zero_le, se4, sd, ea, se3, kd, hx, kname]
    | fa =>
      simp only [td] at ea
      simp only [fnBody, startD, sSeq, sIf, sAsg, sPut, sRet, sRetN, sDrop, sNx, sPar, sFor, dTest, dBin, dVar, dC, dCB, dCons, dNil, dTup, dLst, dSl, dPN, dPS, dRev, revO, dBM, isLst, dIf, dAnd, dOr, dNot, dTru, truB, dCall, dNeg, dNewK, dNewT, gN, gT, gsN, gsC, iR1, iR2, iSeq, srcOf, itemsOf, List.map_cons, List.map_nil, List.length_cons, List.length_nil, Nat.reduceAdd, Nat.reduceSub, Nat.reduceLeDiff, List.replicate_succ, List.replicate_zero, List.cons_append, List.nil_append, List.getElem?_cons_zero, List.getElem?_cons_succ, List.set_cons_zero, List.set_cons_succ, Res.bind_ok, Res.st_ok, Option.map_some, Option.bind_some, Res.lift_some, oAdd_i, oSub_i, oLt_i, oLe_i, oGt_i, oGe_i, oEq_i, oNe_i, oEq_s, oNe_s, if_true, if_false, reduceIte, Bool.false_eq_true, gInt, gLen2, gLen, Cl.gTup, gList, optS_some, SOut.seq_nx, SOut.seq_rt, SOut.seq_bk, SOut.seq_ct, bodyOut, atI_0, atI_1, atI_2, atI_3, atI_4, atI_5, oSub2_tup, oSub2_fl, Option.orElse_some, g2I, decide_true, decide_false, slO, dDct, dPairs, keyed, Int.reduceAdd, Int.reduceMul, g_kind_of, i1, i2, e, Nat.zero_le, se4, sd, ea, se1, kd, hx, kname]
    | fb =>
      simp only [td] at ea
      simp only [fnBody, startD, sSeq, sIf, sAsg, sPut, sRet, sRetN, sDrop, sNx, sPar, sFor, dTest, dBin, dVar, dC, dCB, dCons, dNil, dTup, dLst, dSl, dPN, dPS, dRev, revO, dBM, isLst, dIf, dAnd, dOr, dNot, dTru, truB, dCall, dNeg, dNewK, dNewT, gN, gT, gsN, gsC, iR1, iR2, iSeq, srcOf, itemsOf, List.map_cons, List.map_nil, List.length_cons, List.length_nil, Nat.reduceAdd, Nat.reduceSub, Nat.reduceLeDiff, List.replicate_succ, List.replicate_zero, List.cons_append, List.nil_append, List.getElem?_cons_zero, List.getElem?_cons_succ, List.set_cons_zero, List.set_cons_succ, Res.bind_ok, Res.st_ok, Option.map_some, Option.bind_some, Res.lift_some, oAdd_i, oSub_i, oLt_i, oLe_i, oGt_i, oGe_i, oEq_i, oNe_i, oEq_s, oNe_s, if_true, if_false, reduceIte, Bool.false_eq_true, gInt, gLen2, gLen, Cl.gTup, gList, optS_some, SOut.seq_nx, SOut.seq_rt, SOut.seq_bk, SOut.seq_ct, bodyOut, atI_0, atI_1, atI_2, atI_3, atI_4, atI_5, oSub2_tup, oSub2_fl, Option.orElse_some, g2I, decide_true, decide_false, slO, dDct, dPairs, keyed, Int.reduceAdd, Int.reduceMul, g_kind_of, i1, i2, e, Nat.zero_le, se4, sd, ea, se2, kd, hx, kname]
noncomputable def F_lkind : List D → CH → Res D := fnBody 2 g__law_kind
theorem lkind_ok {S : List Th} {v : Vl} (h : vok S.length v) (C : CH) : F_lkind [sd S, vd v] C = .ok (.str (kname (kd S v))) C := kind_ok h C
noncomputable def F_one : List D → CH → Res D := fnBody 2 g_are_one
theorem ty_same {S : List Th} {v w : Vl} (hk : kd S v = kd S w) : subT (vty v) "bool" = subT (vty w) "bool" := by
  cases v <;> cases w <;> first | rfl | (simp only [kd] at hk; first | cases hk | (split at hk <;> cases hk))
theorem one_ok {S : List Th} {n : Nat} {v w : Vl} (h : vok n v) (h' : vok n w) (hk : kd S v = kd S w) (C : CH) : F_one [vd v, vd w] C = .ok (.bl (decide (v = w))) C := by
  have e := oEq_same C h h' hk
  have e2 : ∀ b : Bool, oEq (.bl b) (.bl b) C = some (.bl true, C) := fun b => by simp [oEq, eqO]
  have i1 := isi_bool C v
  have i2 := isi_bool C w
  rw [← ty_same hk] at i2
  unfold F_one
  simp only [fnBody, startD, sSeq, sIf, sAsg, sPut, sRet, sRetN, sDrop, sNx, sPar, sFor, dTest, dBin, dVar, dC, dCB, dCons, dNil, dTup, dLst, dSl, dPN, dPS, dRev, revO, dBM, isLst, dIf, dAnd, dOr, dNot, dTru, truB, dCall, dNeg, dNewK, dNewT, gN, gT, gsN, gsC, iR1, iR2, iSeq, srcOf, itemsOf, List.map_cons, List.map_nil, List.length_cons, List.length_nil, Nat.reduceAdd, Nat.reduceSub, Nat.reduceLeDiff, List.replicate_succ, List.replicate_zero, List.cons_append, List.nil_append, List.getElem?_cons_zero, List.getElem?_cons_succ, List.set_cons_zero, List.set_cons_succ, Res.bind_ok, Res.st_ok, Option.map_some, Option.bind_some, Res.lift_some, oAdd_i, oSub_i, oLt_i, oLe_i, oGt_i, oGe_i, oEq_i, oNe_i, oEq_s, oNe_s, if_true, if_false, reduceIte, Bool.false_eq_true, gInt, gLen2, gLen, Cl.gTup, gList, optS_some, SOut.seq_nx, SOut.seq_rt, SOut.seq_bk, SOut.seq_ct, bodyOut, atI_0, atI_1, atI_2, atI_3, atI_4, atI_5, oSub2_tup, oSub2_fl, Option.orElse_some, g2I, decide_true, decide_false, slO, dDct, dPairs, keyed, Int.reduceAdd, Int.reduceMul, g_are_one, dAndV, i1, i2, e2, e]
end Lw
set_option maxHeartbeats 4000000
/-! law_k22: the program's parting road. -/
namespace Rd
/-- a row without repeats of numbers below n is at most n long -/
theorem nodup_len : ∀ (n : Nat) (l : List Nat), l.Nodup → (∀ x ∈ l, x < n) → l.length ≤ n
  | 0, l, _, h => by
    cases l with
    | nil => exact Nat.le_refl _
    | cons x r => exact absurd (h x List.mem_cons_self) (Nat.not_lt_zero _)
  | n + 1, l, hn, h => by
    have h2 := nodup_len n (l.erase n) (hn.erase n) fun x hx => by
      have a := hn.mem_erase_iff.mp hx
      have := h x a.2
      have := a.1
      omega
    by_cases z : n ∈ l
    · rw [List.length_erase_of_mem z] at h2; omega
    · rw [List.erase_of_not_mem z] at h2; omega
theorem map_nodup {α β : Type} {f : α → β} : ∀ {l : List α}, l.Nodup → (∀ x ∈ l, ∀ y ∈ l, f x = f y → x = y) → (l.map f).Nodup
  | [], _, _ => List.Pairwise.nil
  | a :: l, h, hf => by
    rw [List.map_cons]
    have h := List.nodup_cons.mp h
    refine List.nodup_cons.mpr ⟨fun hm => ?_, map_nodup h.2 fun x hx y hy => hf x (List.mem_cons_of_mem _ hx) y (List.mem_cons_of_mem _ hy)⟩
    obtain ⟨y, hy, e⟩ := List.mem_map.mp hm
    have := hf a List.mem_cons_self y (List.mem_cons_of_mem _ hy) e.symm
    exact h.1 (this ▸ hy)
theorem pairs_len (n : Nat) (l : List (Nat × Nat)) (hn : l.Nodup) (h : ∀ p ∈ l, p.1 < n ∧ p.2 < n) : l.length ≤ n * n := by
  have e := nodup_len (n * n) (l.map fun p => p.1 * n + p.2) (map_nodup hn fun x hx y hy e => by
      have a := h x hx
      have b := h y hy
      have e : x.1 * n + x.2 = y.1 * n + y.2 := e
      have : x.1 = y.1 := by
        have d1 : (x.2 + x.1 * n) / n = x.1 := by rw [Nat.add_mul_div_right _ _ (by omega), Nat.div_eq_of_lt a.2, Nat.zero_add]
        have d2 : (y.2 + y.1 * n) / n = y.1 := by rw [Nat.add_mul_div_right _ _ (by omega), Nat.div_eq_of_lt b.2, Nat.zero_add]
        rw [← d1, ← d2, Nat.add_comm, e, Nat.add_comm]
      rw [this] at e
      exact Prod.ext this (by omega)) fun x hx => by
      obtain ⟨p, hp, e⟩ := List.mem_map.mp hx
      have a := h p hp
      have : p.1 * n + n ≤ n * n := by
        have := Nat.mul_le_mul_right n (show p.1 + 1 ≤ n from a.1)
        rw [Nat.add_mul, Nat.one_mul] at this
        exact this
      omega
  rw [List.length_map] at e
  exact e
end Rd
namespace Lw
open PySem Cl L2 Rd
def nats (l : List Nat) : List D := l.map fun (a : Nat) => .int a
theorem bels_nats (k : Nat) : ∀ l : List Nat, bels k (nats l) = true
  | [] => by simp only [nats, List.map_nil, bels]
  | a :: l => by simp only [nats, List.map_cons, bels, D.bel, Bool.true_and]; exact bels_nats k l
theorem app_at {C : CH} {q : Nat} {xs : List D} (h : C[q]? = some (.lst xs)) (hz : xs.length ≤ 1000000) (x : D) : gApp (.ref q) [x] C = some (.non, C.set q (.lst (xs ++ [x]))) := by
  simp only [gApp, h, if_pos hz]
/-! ### road_to -/
structure PL (line : List Ent) (L : List D) : Prop where
  len : L.length = line.length
  at' : ∀ (i : Nat) (e : Ent), line[i]? = some e → ∃ p s : Nat, L[i]? = some (.tup [vd e.a, vd e.b, .int p, .int s]) ∧ ((s = 0 ∧ e.r = []) ∨ (s ≠ 0 ∧ ∃ f : Ent, p < i ∧ line[p]? = some f ∧ e.r = f.r ++ [s]))
theorem road_raw {line : List Ent} {L : List D} (P : PL line L) {q sq : Nat} (hne : q ≠ sq) : ∀ (n i : Nat) (e : Ent) (C : CH) (acc : List Nat), i ≤ n → line[i]? = some e → C[q]? = some (.lst L) → C[sq]? = some (.lst (nats acc)) → acc.length + i ≤ 100000 →
    ∃ i', sWh (dTest (dBin oNe (dBin oSub2 (dBin oSub2 (dVar 0) (dVar 1)) (dC (.int 3))) (dC (.int 0)))) (sSeq (sDrop (dBM isLst gApp (dVar 2) (dCons (dBin oSub2 (dBin oSub2 (dVar 0) (dVar 1)) (dC (.int 3))) dNil)))
      (sAsg (gN 1) (dBin oSub2 (dBin oSub2 (dVar 0) (dVar 1)) (dC (.int 2))))) [some (.ref q), some (.int i), some (.ref sq)] C = .nx [some (.ref q), i', some (.ref sq)] (C.set sq (.lst (nats (acc ++ e.r.reverse)))) := by
  intro n
  have stop : ∀ (i : Nat) (e : Ent) (p : Nat) (C : CH) (acc : List Nat), e.r = [] → L[i]? = some (.tup [vd e.a, vd e.b, .int p, .int (0 : Nat)]) → C[q]? = some (.lst L) → C[sq]? = some (.lst (nats acc)) →
      ∃ i', sWh (dTest (dBin oNe (dBin oSub2 (dBin oSub2 (dVar 0) (dVar 1)) (dC (.int 3))) (dC (.int 0)))) (sSeq (sDrop (dBM isLst gApp (dVar 2) (dCons (dBin oSub2 (dBin oSub2 (dVar 0) (dVar 1)) (dC (.int 3))) dNil)))
        (sAsg (gN 1) (dBin oSub2 (dBin oSub2 (dVar 0) (dVar 1)) (dC (.int 2))))) [some (.ref q), some (.int i), some (.ref sq)] C = .nx [some (.ref q), i', some (.ref sq)] (C.set sq (.lst (nats (acc ++ e.r.reverse)))) := by
    intro i e p C acc er hL hC hs
    refine ⟨some (.int i), ?_⟩
    rw [er, List.reverse_nil, List.append_nil]
    have hset : C.set sq (.lst (nats acc)) = C := by
      obtain ⟨hl, e⟩ := List.getElem?_eq_some_iff.mp hs
      rw [← e, List.set_getElem_self]
    rw [hset]
    have g := oSub2_lst hC (i : Int)
    have ea : atI L (i : Int) = some (.tup [vd e.a, vd e.b, .int p, .int (0 : Nat)]) := by rw [atI_n]; exact hL
    refine sWh_stop ?_
    simp only [fnBody, startD, sSeq, sIf, sAsg, sPut, sRet, sRetN, sDrop, sNx, sPar, sFor, dTest, dBin, dVar, dC, dCB, dCons, dNil, dTup, dLst, dSl, dPN, dPS, dRev, revO, dBM, isLst, dIf, dAnd, dOr, dNot, dTru, truB, dCall, dNeg, dNewK, dNewT, gN, gT, gsN, gsC, iR1, iR2, iSeq, srcOf, itemsOf, List.map_cons, List.map_nil, List.length_cons, List.length_nil, Nat.reduceAdd, Nat.reduceSub, Nat.reduceLeDiff, List.replicate_succ, List.replicate_zero, List.cons_append, List.nil_append, List.getElem?_cons_zero, List.getElem?_cons_succ, List.set_cons_zero, List.set_cons_succ, Res.bind_ok, Res.st_ok, Option.map_some, Option.bind_some, Res.lift_some, oAdd_i, oSub_i, oLt_i, oLe_i, oGt_i, oGe_i, oEq_i, oNe_i, oEq_s, oNe_s, if_true, if_false, reduceIte, Bool.false_eq_true, gInt, gLen2, gLen, Cl.gTup, gList, optS_some, SOut.seq_nx, SOut.seq_rt, SOut.seq_bk, SOut.seq_ct, bodyOut, atI_0, atI_1, atI_2, atI_3, atI_4, atI_5, oSub2_tup, oSub2_fl, Option.orElse_some, g2I, decide_true, decide_false, slO, dDct, dPairs, keyed, Int.reduceAdd, Int.reduceMul, g, ea, Int.natCast_zero, eq_self, Bool.not_true]
  induction n with
  | zero =>
    intro i e C acc hi he hC hs hz
    obtain ⟨p, s, hL, h | ⟨_, f, hp, _⟩⟩ := P.at' i e he
    · obtain ⟨rfl, er⟩ := h
      exact stop i e p C acc er hL hC hs
    · omega
  | succ n ih =>
    intro i e C acc hi he hC hs hz
    obtain ⟨p, s, hL, h | ⟨s0, f, hp, hf, er⟩⟩ := P.at' i e he
    · obtain ⟨rfl, er⟩ := h
      exact stop i e p C acc er hL hC hs
    · have hsl : sq < C.length := (List.getElem?_eq_some_iff.mp hs).1
      have hs2 : (C.set sq (.lst (nats (acc ++ [s]))))[sq]? = some (.lst (nats (acc ++ [s]))) := List.getElem?_set_self hsl
      have hC2 : (C.set sq (.lst (nats (acc ++ [s]))))[q]? = some (.lst L) := by rw [List.getElem?_set_ne (Ne.symm hne)]; exact hC
      obtain ⟨i', e2⟩ := ih p f _ (acc ++ [s]) (by omega) hf hC2 hs2 (by simp; omega)
      refine ⟨i', ?_⟩
      rw [er, List.reverse_append, List.reverse_cons, List.reverse_nil, List.nil_append]
      rw [set_set', List.append_assoc] at e2
      rw [← e2]
      have g := oSub2_lst hC (i : Int)
      have ea : atI L (i : Int) = some (.tup [vd e.a, vd e.b, .int p, .int s]) := by rw [atI_n]; exact hL
      have g2 := oSub2_lst hC2 (i : Int)
      have ga := app_at hs (by unfold nats; rw [List.length_map]; omega) (.int s)
      have en : nats acc ++ [D.int s] = nats (acc ++ [s]) := by unfold nats; rw [List.map_append]; rfl
      rw [en] at ga
      have s0' : ¬ (s : Int) = 0 := by omega
      refine sWh_turn (C1 := C) ?_ (.inl ?_)
      · simp only [fnBody, startD, sSeq, sIf, sAsg, sPut, sRet, sRetN, sDrop, sNx, sPar, sFor, dTest, dBin, dVar, dC, dCB, dCons, dNil, dTup, dLst, dSl, dPN, dPS, dRev, revO, dBM, isLst, dIf, dAnd, dOr, dNot, dTru, truB, dCall, dNeg, dNewK, dNewT, gN, gT, gsN, gsC, iR1, iR2, iSeq, srcOf, itemsOf, List.map_cons, List.map_nil, List.length_cons, List.length_nil, Nat.reduceAdd, Nat.reduceSub, Nat.reduceLeDiff, List.replicate_succ, List.replicate_zero, List.cons_append, List.nil_append, List.getElem?_cons_zero, List.getElem?_cons_succ, List.set_cons_zero, List.set_cons_succ, Res.bind_ok, Res.st_ok, Option.map_some, Option.bind_some, Res.lift_some, oAdd_i, oSub_i, oLt_i, oLe_i, oGt_i, oGe_i, oEq_i, oNe_i, oEq_s, oNe_s, if_true, if_false, reduceIte, Bool.false_eq_true, gInt, gLen2, gLen, Cl.gTup, gList, optS_some, SOut.seq_nx, SOut.seq_rt, SOut.seq_bk, SOut.seq_ct, bodyOut, atI_0, atI_1, atI_2, atI_3, atI_4, atI_5, oSub2_tup, oSub2_fl, Option.orElse_some, g2I, decide_true, decide_false, slO, dDct, dPairs, keyed, Int.reduceAdd, Int.reduceMul, g, ea, decide_eq_false s0', Bool.not_false]
      · simp only [fnBody, startD, sSeq, sIf, sAsg, sPut, sRet, sRetN, sDrop, sNx, sPar, sFor, dTest, dBin, dVar, dC, dCB, dCons, dNil, dTup, dLst, dSl, dPN, dPS, dRev, revO, dBM, isLst, dIf, dAnd, dOr, dNot, dTru, truB, dCall, dNeg, dNewK, dNewT, gN, gT, gsN, gsC, iR1, iR2, iSeq, srcOf, itemsOf, List.map_cons, List.map_nil, List.length_cons, List.length_nil, Nat.reduceAdd, Nat.reduceSub, Nat.reduceLeDiff, List.replicate_succ, List.replicate_zero, List.cons_append, List.nil_append, List.getElem?_cons_zero, List.getElem?_cons_succ, List.set_cons_zero, List.set_cons_succ, Res.bind_ok, Res.st_ok, Option.map_some, Option.bind_some, Res.lift_some, oAdd_i, oSub_i, oLt_i, oLe_i, oGt_i, oGe_i, oEq_i, oNe_i, oEq_s, oNe_s, if_true, if_false, reduceIte, Bool.false_eq_true, gInt, gLen2, gLen, Cl.gTup, gList, optS_some, SOut.seq_nx, SOut.seq_rt, SOut.seq_bk, SOut.seq_ct, bodyOut, atI_0, atI_1, atI_2, atI_3, atI_4, atI_5, oSub2_tup, oSub2_fl, Option.orElse_some, g2I, decide_true, decide_false, slO, dDct, dPairs, keyed, Int.reduceAdd, Int.reduceMul, g, ea, hs, ga, g2]
noncomputable def F_road : List D → CH → Res D := fnBody 3 g_road_to
theorem road_ok {line : List Ent} {L : List D} (P : PL line L) {C : CH} {q i : Nat} {e : Ent} (he : line[i]? = some e) (hC : C[q]? = some (.lst L)) (hl : line.length ≤ 10000) :
    ∃ o1 o2, F_road [.ref q, .int i] C = .ok (.tup (nats e.r)) (C ++ [o1] ++ [o2]) := by
  have hi : i < line.length := (List.getElem?_eq_some_iff.mp he).1
  have hq : q < C.length := (List.getElem?_eq_some_iff.mp hC).1
  obtain ⟨i', e1⟩ := road_raw P (q := q) (sq := C.length) (by omega) i i e (C ++ [.lst []]) [] (Nat.le_refl _) he (get_old hC) (get_new _ _) (by simp; omega)
  rw [set_new, List.nil_append] at e1
  refine ⟨.lst (nats e.r.reverse), .lst (nats e.r), ?_⟩
  have en : (nats e.r.reverse).reverse = nats e.r := by unfold nats; rw [List.map_reverse, List.reverse_reverse]
  have e1 : sWh _ _ [some (.ref q), some (.int i), some (.ref C.length)] (C ++ [.lst []]) = _ := e1
  unfold F_road
  simp only [fnBody, startD, sSeq, sIf, sAsg, sPut, sRet, sRetN, sDrop, sNx, sPar, sFor, dTest, dBin, dVar, dC, dCB, dCons, dNil, dTup, dLst, dSl, dPN, dPS, dRev, revO, dBM, isLst, dIf, dAnd, dOr, dNot, dTru, truB, dCall, dNeg, dNewK, dNewT, gN, gT, gsN, gsC, iR1, iR2, iSeq, srcOf, itemsOf, List.map_cons, List.map_nil, List.length_cons, List.length_nil, Nat.reduceAdd, Nat.reduceSub, Nat.reduceLeDiff, List.replicate_succ, List.replicate_zero, List.cons_append, List.nil_append, List.getElem?_cons_zero, List.getElem?_cons_succ, List.set_cons_zero, List.set_cons_succ, Res.bind_ok, Res.st_ok, Option.map_some, Option.bind_some, Res.lift_some, oAdd_i, oSub_i, oLt_i, oLe_i, oGt_i, oGe_i, oEq_i, oNe_i, oEq_s, oNe_s, if_true, if_false, reduceIte, Bool.false_eq_true, gInt, gLen2, gLen, Cl.gTup, gList, optS_some, SOut.seq_nx, SOut.seq_rt, SOut.seq_bk, SOut.seq_ct, bodyOut, atI_0, atI_1, atI_2, atI_3, atI_4, atI_5, oSub2_tup, oSub2_fl, Option.orElse_some, g2I, decide_true, decide_false, slO, dDct, dPairs, keyed, Int.reduceAdd, Int.reduceMul, g_road_to, Nat.zero_le, e1, get_new, en]
/-! ### parting_road -/
noncomputable def partTest : Ft := dTest (dBin oLt (dVar 5) (dCB gLen2 (dCons (dVar 4) dNil)))
noncomputable def partBody : Fs := sSeq (sPar 7 8 (dCons (dBin oSub2 (dBin oSub2 (dVar 4) (dVar 5)) (dC (.int 0))) (dCons (dBin oSub2 (dBin oSub2 (dVar 4) (dVar 5)) (dC (.int 1))) dNil)))
  (sSeq (sAsg (gN 6) (dCall 2 F_kind (dCons (dVar 0) (dCons (dVar 7) dNil))))
  (sSeq (sIf (dTest (dBin oNe (dVar 6) (dCall 2 F_kind (dCons (dVar 0) (dCons (dVar 8) dNil))))) (sRet (dCall 2 F_road (dCons (dVar 4) (dCons (dVar 5) dNil)))) sNx)
  (sSeq (sIf (dTest (dBin oEq (dVar 6) (dC (.str "pair")))) (sIf (dTru (dCall 3 F_join (dCons (dVar 3) (dCons (dBin oSub2 (dVar 7) (dC (.int 1))) (dCons (dBin oSub2 (dVar 8) (dC (.int 1))) dNil))))) (sSeq (sPar 9 10 (dCons (dBin oSub2 (dVar 0) (dBin oSub2 (dVar 7) (dC (.int 1)))) (dCons (dBin oSub2 (dVar 0) (dBin oSub2 (dVar 8) (dC (.int 1)))) dNil)))
  (sSeq (sDrop (dBM isLst gApp (dVar 4) (dCons (dTup (dCons (dBin oSub2 (dVar 9) (dC (.int 1))) (dCons (dBin oSub2 (dVar 10) (dC (.int 1))) (dCons (dVar 5) (dCons (dC (.int 1)) dNil))))) dNil)))
  (sDrop (dBM isLst gApp (dVar 4) (dCons (dTup (dCons (dBin oSub2 (dVar 9) (dC (.int 2))) (dCons (dBin oSub2 (dVar 10) (dC (.int 2))) (dCons (dVar 5) (dCons (dC (.int 2)) dNil))))) dNil))))) sNx) (sIf (dNot (dTru (dCall 2 F_one (dCons (dVar 7) (dCons (dVar 8) dNil))))) (sRet (dCall 2 F_road (dCons (dVar 4) (dCons (dVar 5) dNil)))) sNx))
  (sAsg (gN 5) (dBin oAdd (dVar 5) (dC (.int 1)))))))
theorem part_form : g_parting_road F_join F_one F_road F_kind = sSeq (sPar3 3 4 5 (dCons dNewK (dCons (dLst (dCons (dTup (dCons (dVar 1) (dCons (dVar 2) (dCons (dC (.int 0)) (dCons (dC (.int 0)) dNil))))) dNil)) (dCons (dC (.int 0)) dNil))))
  (sSeq (sWh partTest partBody) (sRet (dC .non))) := rfl
theorem vd_th (t : Nat) : vd (.th t) = .tup [.str "thing", .int t] := rfl
theorem go_ok {S : List Th} (hS : SOk S) : ∀ (r : List Nat) (v a : Vl), vok S.length v → go S v r = some a → vok S.length a
  | [], v, a, h, e => by cases e; exact h
  | s :: r, v, a, h, e => by
    have e : ((ch S s v).bind fun x => go S x r) = some a := e
    cases e1 : ch S s v with
    | none => rw [e1] at e; cases e
    | some x =>
      rw [e1] at e
      refine go_ok hS r x a ?_ e
      cases v with
      | th t =>
        simp only [ch] at e1
        split at e1
        · rename_i a1 b1 hx
          have := hS a1 b1 (List.mem_of_getElem? hx)
          split at e1
          · cases e1; exact this.1
          · split at e1
            · cases e1; exact this.2
            · cases e1
        · cases e1
      | _ => cases e1
/-- the state within parting_road -/
structure Ps (S : List Th) (v w : Vl) (q q1 : Nat) (C0 C : CH) (line : List Ent) (pos : Nat) (js : List (Nat × Nat × Nat)) (ks : List (Nat × Nat)) (L : List D) (rt rk : Nat → Nat) : Prop where
  b : Bf S v w line pos js
  u : Uf (parOf ks) rt rk js
  p : PL line L
  c : C[q]? = some (.dK (encK ks))
  l : C[q1]? = some (.lst L)
  ne : q ≠ q1
  q0 : C0.length ≤ q
  q10 : C0.length ≤ q1
  tk : C.take C0.length = C0
  kl : ks.length ≤ js.length
  ll : line.length = 1 + 2 * js.length
  nd : (js.map fun x => (x.1, x.2.1)).Nodup
theorem take_set {C : CH} {n q : Nat} (h : n ≤ q) (o : O) : (C.set q o).take n = C.take n := by
  rw [List.take_set_of_le h]
theorem take_app {C C0 : CH} (h : C.take C0.length = C0) (G : CH) : (C ++ G).take C0.length = C0 := by
  have hl : C0.length ≤ C.length := by
    have := congrArg List.length h
    rw [List.length_take] at this
    omega
  rw [List.take_append_of_le_length hl]; exact h
section
variable {S : List Th} {v w : Vl} {q q1 : Nat} {C0 C : CH} {line : List Ent} {pos : Nat} {js : List (Nat × Nat × Nat)} {ks : List (Nat × Nat)} {L : List D} {rt rk : Nat → Nat}
theorem Ps.jl (h : Ps S v w q q1 C0 C line pos js ks L rt rk) (hS : SOk S) : js.length ≤ S.length * S.length := by
  have := pairs_len S.length _ h.nd fun p hp => by
    obtain ⟨x, hx, e⟩ := List.mem_map.mp hp
    have hk := h.b.pairs x.1 x.2.1 x.2.2 hx
    subst e
    have lt : ∀ t, kd S (.th t) = .pair → t < S.length := fun t z => by
      apply Classical.byContradiction
      intro y
      simp only [kd, List.getElem?_eq_none (by omega : S.length ≤ t)] at z
      cases z
    exact ⟨lt _ hk.1, lt _ hk.2⟩
  rw [List.length_map] at this
  exact this
theorem part_turn (h : Ps S v w q q1 C0 C line pos js ks L rt rk) (hS : SOk S) (hv : vok S.length v) (hw : vok S.length w) (hn : S.length ≤ 20) {e : Ent} (he : line[pos]? = some e) (x6 x7 x8 x9 x10 : Option D) :
    (∃ C', partBody [some (sd S), some (vd v), some (vd w), some (.ref q), some (.ref q1), some (.int pos), x6, x7, x8, x9, x10] C = .rt (.tup (nats e.r)) C' ∧ C'.take C0.length = C0 ∧ Least S v w (some e.r)) ∨
    ∃ C' line' js' ks' L' rt' rk' y6 y7 y8 y9 y10, partBody [some (sd S), some (vd v), some (vd w), some (.ref q), some (.ref q1), some (.int pos), x6, x7, x8, x9, x10] C = .nx [some (sd S), some (vd v), some (vd w), some (.ref q), some (.ref q1), some (.int (pos + 1 : Nat)), y6, y7, y8, y9, y10] C' ∧
      Ps S v w q q1 C0 C' line' (pos + 1) js' ks' L' rt' rk' ∧ line.length ≤ line'.length := by
  have hj := h.jl hS
  have hjn : js.length ≤ 400 := Nat.le_trans hj (Nat.le_trans (Nat.mul_le_mul hn hn) (by decide))
  have hln := h.ll
  obtain ⟨c1, c2⟩ := h.b.corr e (List.mem_of_getElem? he)
  have va := go_ok hS _ _ _ hv c1
  have vb := go_ok hS _ _ _ hw c2
  obtain ⟨p, s, hL, _⟩ := h.p.at' pos e he
  have g := oSub2_lst h.l (pos : Int)
  have ea : atI L (pos : Int) = some (.tup [vd e.a, vd e.b, .int p, .int s]) := by rw [atI_n]; exact hL
  have k1 := kind_ok va C
  have k2 := kind_ok vb C
  obtain ⟨o1, o2, er⟩ := road_ok h.p he h.l (by omega)
  by_cases hk : kd S e.a = kd S e.b
  · by_cases hp : kd S e.a = .pair
    · -- two pairs
      obtain ⟨t, a1, a2, et, ht⟩ : ∃ t a1 a2, e.a = .th t ∧ S[t]? = some (.pr a1 a2) := by
        cases ea : e.a with
        | th t =>
          rw [ea] at hp
          simp only [kd] at hp
          split at hp
          · exact ⟨t, _, _, rfl, ‹_›⟩
          · cases hp
        | _ => rw [ea] at hp; cases hp
      obtain ⟨u, b1, b2, eu, hu⟩ : ∃ t a1 a2, e.b = .th t ∧ S[t]? = some (.pr a1 a2) := by
        have hp := hk ▸ hp
        cases ea : e.b with
        | th t =>
          rw [ea] at hp
          simp only [kd] at hp
          split at hp
          · exact ⟨t, _, _, rfl, ‹_›⟩
          · cases hp
        | _ => rw [ea] at hp; cases hp
      rw [← hk, hp] at k2
      rw [hp] at k1
      rw [et, eu] at ea
      rw [et] at k1
      rw [eu] at k2
      have s1 := at_store ht
      have s2 := at_store hu
      simp only [vd] at ea k1 k2
      by_cases hr : rt t = rt u
      · -- already one
        have j := join_no h.c h.u hr
        refine .inr ⟨C, line, js, ks, L, rt, rk, some (.str "pair"), some (vd (.th t)), some (vd (.th u)), x9, x10, ?_, ⟨h.b.skip he ?_, h.u, h.p, h.c, h.l, h.ne, h.q0, h.q10, h.tk, h.kl, h.ll, h.nd⟩, Nat.le_refl _⟩
        · push_cast
          simp only [fnBody, startD, sSeq, sIf, sAsg, sPut, sRet, sRetN, sDrop, sNx, sPar, sFor, dTest, dBin, dVar, dC, dCB, dCons, dNil, dTup, dLst, dSl, dPN, dPS, dRev, revO, dBM, isLst, dIf, dAnd, dOr, dNot, dTru, truB, dCall, dNeg, dNewK, dNewT, gN, gT, gsN, gsC, iR1, iR2, iSeq, srcOf, itemsOf, List.map_cons, List.map_nil, List.length_cons, List.length_nil, Nat.reduceAdd, Nat.reduceSub, Nat.reduceLeDiff, List.replicate_succ, List.replicate_zero, List.cons_append, List.nil_append, List.getElem?_cons_zero, List.getElem?_cons_succ, List.set_cons_zero, List.set_cons_succ, Res.bind_ok, Res.st_ok, Option.map_some, Option.bind_some, Res.lift_some, oAdd_i, oSub_i, oLt_i, oLe_i, oGt_i, oGe_i, oEq_i, oNe_i, oEq_s, oNe_s, if_true, if_false, reduceIte, Bool.false_eq_true, gInt, gLen2, gLen, Cl.gTup, gList, optS_some, SOut.seq_nx, SOut.seq_rt, SOut.seq_bk, SOut.seq_ct, bodyOut, atI_0, atI_1, atI_2, atI_3, atI_4, atI_5, oSub2_tup, oSub2_fl, Option.orElse_some, g2I, decide_true, decide_false, slO, dDct, dPairs, keyed, Int.reduceAdd, Int.reduceMul, partBody, g, ea, k1, k2, kname, eq_self, Bool.not_true, j, vd_th]
        · have q : E js t u := (h.u.eq t).trans (by rw [hr]; exact (h.u.eq u).symm)
          obtain ⟨k, q⟩ := q
          exact ⟨k, .inr ⟨t, u, et, eu, q⟩⟩
      · -- made one
        obtain ⟨ks', rt', rk', j, U', hl'⟩ := join_yes h.c h.u (by have := h.kl; omega) hr (code e.r)
        have hq1 : q1 < C.length := (List.getElem?_eq_some_iff.mp h.l).1
        have hq : q < C.length := (List.getElem?_eq_some_iff.mp h.c).1
        have l2 : (C.set q (.dK (encK ks')))[q1]? = some (.lst L) := by rw [List.getElem?_set_ne h.ne]; exact h.l
        have gl := h.p.len
        have ga := app_at l2 (by omega) (.tup [vd a1, vd b1, .int pos, .int 1])
        have l3 : ((C.set q (.dK (encK ks'))).set q1 (.lst (L ++ [.tup [vd a1, vd b1, .int pos, .int 1]])))[q1]? = some (.lst (L ++ [.tup [vd a1, vd b1, .int pos, .int 1]])) := List.getElem?_set_self (by rw [List.length_set]; exact hq1)
        have gb := app_at l3 (by simp; omega) (.tup [vd a2, vd b2, .int pos, .int 2])
        rw [set_set'] at gb
        simp only [td] at s1 s2
        refine .inr ⟨(C.set q (.dK (encK ks'))).set q1 (.lst (L ++ [.tup [vd a1, vd b1, .int pos, .int 1]] ++ [.tup [vd a2, vd b2, .int pos, .int 2]])), line ++ [⟨a1, b1, e.r ++ [1]⟩, ⟨a2, b2, e.r ++ [2]⟩], js ++ [(t, u, code e.r)], ks', L ++ [.tup [vd a1, vd b1, .int pos, .int 1]] ++ [.tup [vd a2, vd b2, .int pos, .int 2]], rt', rk', some (.str "pair"), some (vd (.th t)), some (vd (.th u)), some (.tup [.str "pair", vd a1, vd a2]), some (.tup [.str "pair", vd b1, vd b2]), ?_, ⟨h.b.join he et eu ht hu, U', ?_, ?_, ?_, h.ne, h.q0, h.q10, ?_, ?_, ?_, ?_⟩, by simp⟩
        · push_cast
          have le4 : 4 ≤ 1000 := by decide
          simp only [sd] at k1 k2
          simp only [fnBody, startD, sSeq, sIf, sAsg, sPut, sRet, sRetN, sDrop, sNx, sPar, sFor, dTest, dBin, dVar, dC, dCB, dCons, dNil, dTup, dLst, dSl, dPN, dPS, dRev, revO, dBM, isLst, dIf, dAnd, dOr, dNot, dTru, truB, dCall, dNeg, dNewK, dNewT, gN, gT, gsN, gsC, iR1, iR2, iSeq, srcOf, itemsOf, List.map_cons, List.map_nil, List.length_cons, List.length_nil, Nat.reduceAdd, Nat.reduceSub, Nat.reduceLeDiff, List.replicate_succ, List.replicate_zero, List.cons_append, List.nil_append, List.getElem?_cons_zero, List.getElem?_cons_succ, List.set_cons_zero, List.set_cons_succ, Res.bind_ok, Res.st_ok, Option.map_some, Option.bind_some, Res.lift_some, oAdd_i, oSub_i, oLt_i, oLe_i, oGt_i, oGe_i, oEq_i, oNe_i, oEq_s, oNe_s, if_true, if_false, reduceIte, Bool.false_eq_true, gInt, gLen2, gLen, Cl.gTup, gList, optS_some, SOut.seq_nx, SOut.seq_rt, SOut.seq_bk, SOut.seq_ct, bodyOut, atI_0, atI_1, atI_2, atI_3, atI_4, atI_5, oSub2_tup, oSub2_fl, Option.orElse_some, g2I, decide_true, decide_false, slO, dDct, dPairs, keyed, Int.reduceAdd, Int.reduceMul, partBody, g, ea, k1, k2, kname, eq_self, Bool.not_true, j, sd, s1, s2, l2, l3, ga, gb, le4, vd_th]
        · refine ⟨by simp [gl], fun i f hf => ?_⟩
          by_cases z : i < line.length
          · rw [List.getElem?_append_left z] at hf
            obtain ⟨p', s', h1, h2⟩ := h.p.at' i f hf
            refine ⟨p', s', by rw [List.append_assoc, List.getElem?_append_left (by rw [gl]; exact z)]; exact h1, h2.imp id fun ⟨y1, g', y2, y3, y4⟩ => ⟨y1, g', y2, ?_, y4⟩⟩
            rw [List.getElem?_append_left (by omega)]; exact y3
          · have hpl : pos < line.length := (List.getElem?_eq_some_iff.mp he).1
            have hpe : (line ++ [⟨a1, b1, e.r ++ [1]⟩, ⟨a2, b2, e.r ++ [2]⟩])[pos]? = some e := by rw [List.getElem?_append_left hpl]; exact he
            rw [List.getElem?_append_right (by omega)] at hf
            rw [List.append_assoc, List.getElem?_append_right (by omega), gl]
            match y : i - line.length with
            | 0 => rw [y] at hf; simp at hf; subst hf; exact ⟨pos, 1, rfl, .inr ⟨by decide, e, by omega, hpe, rfl⟩⟩
            | 1 => rw [y] at hf; simp at hf; subst hf; exact ⟨pos, 2, rfl, .inr ⟨by decide, e, by omega, hpe, rfl⟩⟩
            | m + 2 => rw [y] at hf; simp at hf
        · rw [List.getElem?_set_ne (Ne.symm h.ne)]; exact List.getElem?_set_self hq
        · exact List.getElem?_set_self (by rw [List.length_set]; exact hq1)
        · rw [take_set h.q10, take_set h.q0]; exact h.tk
        · have := h.kl; simp; omega
        · simp; omega
        · rw [List.map_append]
          refine List.nodup_append.mpr ⟨h.nd, by simp, fun a ha b hb => ?_⟩
          intro z
          subst z
          simp at hb
          obtain ⟨x, hx, ex⟩ := List.mem_map.mp ha
          rw [hb] at ex
          simp at ex
          have := h.u.js x.1 x.2.1 x.2.2 hx
          rw [ex.1, ex.2] at this
          exact hr this
    · -- no pairs
      have hpb : decide (kname (kd S e.a) = "pair") = false := by rw [kname_pair]; exact decide_eq_false hp
      have o := one_ok va vb hk C
      have kk : decide (kname (kd S e.a) = kname (kd S e.b)) = true := by rw [kname_eq]; exact decide_eq_true hk
      by_cases hab : e.a = e.b
      · refine .inr ⟨C, line, js, ks, L, rt, rk, some (.str (kname (kd S e.a))), some (vd e.a), some (vd e.b), x9, x10, ?_, ⟨h.b.skip he ⟨0, .inl hab⟩, h.u, h.p, h.c, h.l, h.ne, h.q0, h.q10, h.tk, h.kl, h.ll, h.nd⟩, Nat.le_refl _⟩
        rw [decide_eq_true hab] at o
        push_cast
        simp only [fnBody, startD, sSeq, sIf, sAsg, sPut, sRet, sRetN, sDrop, sNx, sPar, sFor, dTest, dBin, dVar, dC, dCB, dCons, dNil, dTup, dLst, dSl, dPN, dPS, dRev, revO, dBM, isLst, dIf, dAnd, dOr, dNot, dTru, truB, dCall, dNeg, dNewK, dNewT, gN, gT, gsN, gsC, iR1, iR2, iSeq, srcOf, itemsOf, List.map_cons, List.map_nil, List.length_cons, List.length_nil, Nat.reduceAdd, Nat.reduceSub, Nat.reduceLeDiff, List.replicate_succ, List.replicate_zero, List.cons_append, List.nil_append, List.getElem?_cons_zero, List.getElem?_cons_succ, List.set_cons_zero, List.set_cons_succ, Res.bind_ok, Res.st_ok, Option.map_some, Option.bind_some, Res.lift_some, oAdd_i, oSub_i, oLt_i, oLe_i, oGt_i, oGe_i, oEq_i, oNe_i, oEq_s, oNe_s, if_true, if_false, reduceIte, Bool.false_eq_true, gInt, gLen2, gLen, Cl.gTup, gList, optS_some, SOut.seq_nx, SOut.seq_rt, SOut.seq_bk, SOut.seq_ct, bodyOut, atI_0, atI_1, atI_2, atI_3, atI_4, atI_5, oSub2_tup, oSub2_fl, Option.orElse_some, g2I, decide_true, decide_false, slO, dDct, dPairs, keyed, Int.reduceAdd, Int.reduceMul, partBody, g, ea, k1, k2, kk, Bool.not_true, hpb, o]
      · refine .inl ⟨C ++ [o1] ++ [o2], ?_, ?_, h.b.find he (.inr ⟨hp, hab⟩)⟩
        · rw [decide_eq_false hab] at o
          simp only [fnBody, startD, sSeq, sIf, sAsg, sPut, sRet, sRetN, sDrop, sNx, sPar, sFor, dTest, dBin, dVar, dC, dCB, dCons, dNil, dTup, dLst, dSl, dPN, dPS, dRev, revO, dBM, isLst, dIf, dAnd, dOr, dNot, dTru, truB, dCall, dNeg, dNewK, dNewT, gN, gT, gsN, gsC, iR1, iR2, iSeq, srcOf, itemsOf, List.map_cons, List.map_nil, List.length_cons, List.length_nil, Nat.reduceAdd, Nat.reduceSub, Nat.reduceLeDiff, List.replicate_succ, List.replicate_zero, List.cons_append, List.nil_append, List.getElem?_cons_zero, List.getElem?_cons_succ, List.set_cons_zero, List.set_cons_succ, Res.bind_ok, Res.st_ok, Option.map_some, Option.bind_some, Res.lift_some, oAdd_i, oSub_i, oLt_i, oLe_i, oGt_i, oGe_i, oEq_i, oNe_i, oEq_s, oNe_s, if_true, if_false, reduceIte, Bool.false_eq_true, gInt, gLen2, gLen, Cl.gTup, gList, optS_some, SOut.seq_nx, SOut.seq_rt, SOut.seq_bk, SOut.seq_ct, bodyOut, atI_0, atI_1, atI_2, atI_3, atI_4, atI_5, oSub2_tup, oSub2_fl, Option.orElse_some, g2I, decide_true, decide_false, slO, dDct, dPairs, keyed, Int.reduceAdd, Int.reduceMul, partBody, g, ea, k1, k2, kk, Bool.not_true, hpb, o, Bool.not_false, er]
        · rw [List.append_assoc]; exact take_app h.tk _
  · have kk : decide (kname (kd S e.a) = kname (kd S e.b)) = false := by rw [kname_eq]; exact decide_eq_false hk
    refine .inl ⟨C ++ [o1] ++ [o2], ?_, ?_, h.b.find he (.inl hk)⟩
    · simp only [fnBody, startD, sSeq, sIf, sAsg, sPut, sRet, sRetN, sDrop, sNx, sPar, sFor, dTest, dBin, dVar, dC, dCB, dCons, dNil, dTup, dLst, dSl, dPN, dPS, dRev, revO, dBM, isLst, dIf, dAnd, dOr, dNot, dTru, truB, dCall, dNeg, dNewK, dNewT, gN, gT, gsN, gsC, iR1, iR2, iSeq, srcOf, itemsOf, List.map_cons, List.map_nil, List.length_cons, List.length_nil, Nat.reduceAdd, Nat.reduceSub, Nat.reduceLeDiff, List.replicate_succ, List.replicate_zero, List.cons_append, List.nil_append, List.getElem?_cons_zero, List.getElem?_cons_succ, List.set_cons_zero, List.set_cons_succ, Res.bind_ok, Res.st_ok, Option.map_some, Option.bind_some, Res.lift_some, oAdd_i, oSub_i, oLt_i, oLe_i, oGt_i, oGe_i, oEq_i, oNe_i, oEq_s, oNe_s, if_true, if_false, reduceIte, Bool.false_eq_true, gInt, gLen2, gLen, Cl.gTup, gList, optS_some, SOut.seq_nx, SOut.seq_rt, SOut.seq_bk, SOut.seq_ct, bodyOut, atI_0, atI_1, atI_2, atI_3, atI_4, atI_5, oSub2_tup, oSub2_fl, Option.orElse_some, g2I, decide_true, decide_false, slO, dDct, dPairs, keyed, Int.reduceAdd, Int.reduceMul, partBody, g, ea, k1, k2, kk, Bool.not_false, er]
    · rw [List.append_assoc]; exact take_app h.tk _
end
end Lw
set_option maxHeartbeats 4000000
/-! law_k22: the program's parting road, whole; alike. -/
namespace Lw
open PySem Cl L2 Rd
def optD : Option (List Nat) → D
  | none => .non
  | some r => .tup (nats r)
theorem nats_inj : ∀ {a b : List Nat}, nats a = nats b → a = b
  | [], [], _ => rfl
  | [], _ :: _, h => by cases h
  | _ :: _, [], h => by cases h
  | x :: a, y :: b, h => by
    simp only [nats, List.map_cons, List.cons.injEq, D.int.injEq] at h
    rw [nats_inj (a := a) (b := b) h.2, show x = y by omega]
theorem vd_inj {a b : Vl} (h : vd a = vd b) : a = b := by
  cases a <;> cases b <;> simp [vd] at h ⊢
  · omega
  · exact h
  · exact h
  · exact h
theorem td_inj {a b : Th} (h : td a = td b) : a = b := by
  cases a <;> cases b <;> simp [td] at h ⊢
  · exact ⟨vd_inj h.1, vd_inj h.2⟩
  · exact absurd h.1 (by decide +kernel)
  · exact absurd h.1 (by decide +kernel)
  · exact absurd h.1 (by decide +kernel)
  · exact absurd h.1 (by decide +kernel)
theorem map_td_inj : ∀ {a b : List Th}, a.map td = b.map td → a = b
  | [], [], _ => rfl
  | [], _ :: _, h => by cases h
  | _ :: _, [], h => by cases h
  | x :: a, y :: b, h => by
    simp only [List.map_cons, List.cons.injEq] at h
    rw [td_inj h.1, map_td_inj h.2]
theorem sd_inj {a b : List Th} (h : sd a = sd b) : a = b := map_td_inj (D.tup.inj h)
section
variable {S : List Th} {v w : Vl} {q q1 : Nat} {C0 : CH} {rt rk : Nat → Nat}
theorem part_loop (hS : SOk S) (hv : vok S.length v) (hw : vok S.length w) (hn : S.length ≤ 20) : ∀ (f pos : Nat) (C : CH) (line : List Ent) (js : List (Nat × Nat × Nat)) (ks : List (Nat × Nat)) (L : List D) (rt rk : Nat → Nat) (x6 x7 x8 x9 x10 : Option D),
    Ps S v w q q1 C0 C line pos js ks L rt rk → pos ≤ line.length → 1 + 2 * (S.length * S.length) - pos ≤ f → ∃ C' o, C'.take C0.length = C0 ∧ Least S v w o ∧
      (sSeq (sWh partTest partBody) (sRet (dC .non)) [some (sd S), some (vd v), some (vd w), some (.ref q), some (.ref q1), some (.int pos), x6, x7, x8, x9, x10] C = .rt (optD o) C') := by
  intro f
  induction f with
  | zero =>
    intro pos C line js ks L rt rk x6 x7 x8 x9 x10 h hp hf
    have := h.jl hS
    have := h.ll
    have : pos = line.length := by omega
    refine ⟨C, none, h.tk, h.b.none this, ?_⟩
    have t1 : partTest [some (sd S), some (vd v), some (vd w), some (.ref q), some (.ref q1), some (.int pos), x6, x7, x8, x9, x10] C = .ok false C := by
      have hl := h.p.len
      have lt : ¬ (pos : Int) < (L.length : Int) := by omega
      simp only [fnBody, startD, sSeq, sIf, sAsg, sPut, sRet, sRetN, sDrop, sNx, sPar, sFor, dTest, dBin, dVar, dC, dCB, dCons, dNil, dTup, dLst, dSl, dPN, dPS, dRev, revO, dBM, isLst, dIf, dAnd, dOr, dNot, dTru, truB, dCall, dNeg, dNewK, dNewT, gN, gT, gsN, gsC, iR1, iR2, iSeq, srcOf, itemsOf, List.map_cons, List.map_nil, List.length_cons, List.length_nil, Nat.reduceAdd, Nat.reduceSub, Nat.reduceLeDiff, List.replicate_succ, List.replicate_zero, List.cons_append, List.nil_append, List.getElem?_cons_zero, List.getElem?_cons_succ, List.set_cons_zero, List.set_cons_succ, Res.bind_ok, Res.st_ok, Option.map_some, Option.bind_some, Res.lift_some, oAdd_i, oSub_i, oLt_i, oLe_i, oGt_i, oGe_i, oEq_i, oNe_i, oEq_s, oNe_s, if_true, if_false, reduceIte, Bool.false_eq_true, gInt, gLen2, gLen, Cl.gTup, gList, optS_some, SOut.seq_nx, SOut.seq_rt, SOut.seq_bk, SOut.seq_ct, bodyOut, atI_0, atI_1, atI_2, atI_3, atI_4, atI_5, oSub2_tup, oSub2_fl, Option.orElse_some, g2I, decide_true, decide_false, slO, dDct, dPairs, keyed, Int.reduceAdd, Int.reduceMul, partTest, h.l, decide_eq_false lt]
    rw [sSeq_nx (sWh_stop t1)]
    rfl
  | succ f ih =>
    intro pos C line js ks L rt rk x6 x7 x8 x9 x10 h hp hf
    have hl := h.p.len
    by_cases hlt : pos < line.length
    · have lt : (pos : Int) < (L.length : Int) := by omega
      have t1 : partTest [some (sd S), some (vd v), some (vd w), some (.ref q), some (.ref q1), some (.int pos), x6, x7, x8, x9, x10] C = .ok true C := by
        simp only [fnBody, startD, sSeq, sIf, sAsg, sPut, sRet, sRetN, sDrop, sNx, sPar, sFor, dTest, dBin, dVar, dC, dCB, dCons, dNil, dTup, dLst, dSl, dPN, dPS, dRev, revO, dBM, isLst, dIf, dAnd, dOr, dNot, dTru, truB, dCall, dNeg, dNewK, dNewT, gN, gT, gsN, gsC, iR1, iR2, iSeq, srcOf, itemsOf, List.map_cons, List.map_nil, List.length_cons, List.length_nil, Nat.reduceAdd, Nat.reduceSub, Nat.reduceLeDiff, List.replicate_succ, List.replicate_zero, List.cons_append, List.nil_append, List.getElem?_cons_zero, List.getElem?_cons_succ, List.set_cons_zero, List.set_cons_succ, Res.bind_ok, Res.st_ok, Option.map_some, Option.bind_some, Res.lift_some, oAdd_i, oSub_i, oLt_i, oLe_i, oGt_i, oGe_i, oEq_i, oNe_i, oEq_s, oNe_s, if_true, if_false, reduceIte, Bool.false_eq_true, gInt, gLen2, gLen, Cl.gTup, gList, optS_some, SOut.seq_nx, SOut.seq_rt, SOut.seq_bk, SOut.seq_ct, bodyOut, atI_0, atI_1, atI_2, atI_3, atI_4, atI_5, oSub2_tup, oSub2_fl, Option.orElse_some, g2I, decide_true, decide_false, slO, dDct, dPairs, keyed, Int.reduceAdd, Int.reduceMul, partTest, h.l, decide_eq_true lt]
      obtain ⟨e, he⟩ : ∃ e, line[pos]? = some e := ⟨_, List.getElem?_eq_getElem hlt⟩
      rcases part_turn h hS hv hw hn he x6 x7 x8 x9 x10 with ⟨C', e1, tk, le⟩ | ⟨C', line', js', ks', L', rt', rk', y6, y7, y8, y9, y10, e1, h', hg⟩
      · refine ⟨C', some e.r, tk, le, ?_⟩
        rw [sSeq_rt (sWh_out t1 e1 ⟨_, _, rfl⟩)]
        rfl
      · have hp' : pos + 1 ≤ line'.length := by omega
        obtain ⟨C2, o, tk, le, e2⟩ := ih (pos + 1) C' line' js' ks' L' rt' rk' y6 y7 y8 y9 y10 h' hp' (by omega)
        refine ⟨C2, o, tk, le, ?_⟩
        rw [← e2]
        unfold sSeq
        rw [sWh_turn t1 (.inl e1)]
    · have : pos = line.length := by omega
      refine ⟨C, none, h.tk, h.b.none this, ?_⟩
      have t1 : partTest [some (sd S), some (vd v), some (vd w), some (.ref q), some (.ref q1), some (.int pos), x6, x7, x8, x9, x10] C = .ok false C := by
        have lt : ¬ (pos : Int) < (L.length : Int) := by omega
        simp only [fnBody, startD, sSeq, sIf, sAsg, sPut, sRet, sRetN, sDrop, sNx, sPar, sFor, dTest, dBin, dVar, dC, dCB, dCons, dNil, dTup, dLst, dSl, dPN, dPS, dRev, revO, dBM, isLst, dIf, dAnd, dOr, dNot, dTru, truB, dCall, dNeg, dNewK, dNewT, gN, gT, gsN, gsC, iR1, iR2, iSeq, srcOf, itemsOf, List.map_cons, List.map_nil, List.length_cons, List.length_nil, Nat.reduceAdd, Nat.reduceSub, Nat.reduceLeDiff, List.replicate_succ, List.replicate_zero, List.cons_append, List.nil_append, List.getElem?_cons_zero, List.getElem?_cons_succ, List.set_cons_zero, List.set_cons_succ, Res.bind_ok, Res.st_ok, Option.map_some, Option.bind_some, Res.lift_some, oAdd_i, oSub_i, oLt_i, oLe_i, oGt_i, oGe_i, oEq_i, oNe_i, oEq_s, oNe_s, if_true, if_false, reduceIte, Bool.false_eq_true, gInt, gLen2, gLen, Cl.gTup, gList, optS_some, SOut.seq_nx, SOut.seq_rt, SOut.seq_bk, SOut.seq_ct, bodyOut, atI_0, atI_1, atI_2, atI_3, atI_4, atI_5, oSub2_tup, oSub2_fl, Option.orElse_some, g2I, decide_true, decide_false, slO, dDct, dPairs, keyed, Int.reduceAdd, Int.reduceMul, partTest, h.l, decide_eq_false lt]
      rw [sSeq_nx (sWh_stop t1)]
      rfl
theorem part_raw (hS : SOk S) (hv : vok S.length v) (hw : vok S.length w) (hn : S.length ≤ 20) (C : CH) : ∃ C' o, C'.take C.length = C ∧ Least S v w o ∧ fnBody 11 (g_parting_road F_join F_one F_road F_kind) [sd S, vd v, vd w] C = .ok (optD o) C' := by
  have hP : Ps S v w C.length (C ++ [O.dK []]).length C (C ++ [.dK []] ++ [.lst [.tup [vd v, vd w, .int 0, .int 0]]]) [⟨v, w, []⟩] 0 [] [] [.tup [vd v, vd w, .int (0 : Nat), .int (0 : Nat)]] (fun t => t) (fun _ => 0) := by
    refine ⟨Bf.start S v w, Uf.start, ⟨rfl, fun i e he => ?_⟩, app_get, get_new _ _, by simp, Nat.le_refl _, by simp, by rw [List.append_assoc, List.take_left], Nat.le_refl _, rfl, List.Pairwise.nil⟩
    have := (List.getElem?_eq_some_iff.mp he).1
    simp at this
    subst this
    simp at he
    subst he
    exact ⟨0, 0, rfl, .inl ⟨rfl, rfl⟩⟩
  obtain ⟨C', o, tk, le, e⟩ := part_loop hS hv hw hn _ 0 _ _ _ _ _ _ _ none none none none none hP (by simp) (Nat.le_refl _)
  refine ⟨C', o, tk, le, ?_⟩
  rw [part_form]
  have le4 : 4 ≤ 1000 := by decide
  have le1 : 1 ≤ 1000 := by decide
  unfold sSeq at e ⊢
  have e0 : ((0 : Nat) : Int) = 0 := rfl
  rw [e0] at e
  simp only [fnBody, startD, sSeq, sIf, sAsg, sPut, sRet, sRetN, sDrop, sNx, sPar, sFor, dTest, dBin, dVar, dC, dCB, dCons, dNil, dTup, dLst, dSl, dPN, dPS, dRev, revO, dBM, isLst, dIf, dAnd, dOr, dNot, dTru, truB, dCall, dNeg, dNewK, dNewT, gN, gT, gsN, gsC, iR1, iR2, iSeq, srcOf, itemsOf, List.map_cons, List.map_nil, List.length_cons, List.length_nil, Nat.reduceAdd, Nat.reduceSub, Nat.reduceLeDiff, List.replicate_succ, List.replicate_zero, List.cons_append, List.nil_append, List.getElem?_cons_zero, List.getElem?_cons_succ, List.set_cons_zero, List.set_cons_succ, Res.bind_ok, Res.st_ok, Option.map_some, Option.bind_some, Res.lift_some, oAdd_i, oSub_i, oLt_i, oLe_i, oGt_i, oGe_i, oEq_i, oNe_i, oEq_s, oNe_s, if_true, if_false, reduceIte, Bool.false_eq_true, gInt, gLen2, gLen, Cl.gTup, gList, optS_some, SOut.seq_nx, SOut.seq_rt, SOut.seq_bk, SOut.seq_ct, bodyOut, atI_0, atI_1, atI_2, atI_3, atI_4, atI_5, oSub2_tup, oSub2_fl, Option.orElse_some, g2I, decide_true, decide_false, slO, dDct, dPairs, keyed, Int.reduceAdd, Int.reduceMul, le4, le1]
  exact congrArg bodyOut e
end
def R_part (ds : List D) (C : CH) (d : D) (C' : CH) : Prop := ∃ S v w o, ds = [sd S, vd v, vd w] ∧ SOk S ∧ vok S.length v ∧ vok S.length w ∧ S.length ≤ 20 ∧ Least S v w o ∧ d = optD o ∧ C' = C
noncomputable def F_part : List D → CH → Res D := relF R_part
theorem part_eq {S : List Th} {v w : Vl} {o : Option (List Nat)} (hS : SOk S) (hv : vok S.length v) (hw : vok S.length w) (hn : S.length ≤ 20) (h : Least S v w o) (C : CH) : F_part [sd S, vd v, vd w] C = .ok (optD o) C := by
  refine relF_eq ⟨S, v, w, o, rfl, hS, hv, hw, hn, h, rfl, rfl⟩ ?_
  rintro d2 C2 ⟨S', v', w', o', e, _, _, _, _, h', rfl, rfl⟩
  simp only [List.cons.injEq, and_true] at e
  obtain ⟨e1, e2, e3⟩ := e
  cases sd_inj e1
  cases vd_inj e2
  cases vd_inj e3
  rw [h.uniq h']
  exact ⟨rfl, rfl⟩
theorem cuts_take {C C2 : CH} {d : D} (wf : Wf C) (h : d.bel C.length = true) (tk : C2.take C.length = C) : Cuts C (.ok d C2) (.ok d C) :=
  .inr (.inr ⟨d, C2, C.length, rfl, by rw [tk], Nat.le_refl _, h, fun o ho => by rw [tk] at ho; exact wf o ho⟩)
theorem bel_opt (k : Nat) (o : Option (List Nat)) : (optD o).bel k = true := by
  cases o with
  | none => simp only [optD, D.bel]
  | some r => rw [optD, D.bel]; exact bels_nats _ _
theorem part_cuts (ds : List D) (C : CH) (wf : Wf C) : Cuts C (fnBody 11 (g_parting_road F_join F_one F_road F_kind) ds C) (F_part ds C) := by
  refine relF_cuts ?_
  rintro d C' ⟨S, v, w, o, rfl, hS, hv, hw, hn, h, rfl, rfl⟩
  obtain ⟨C2, o', tk, le, e⟩ := part_raw hS hv hw hn C'
  cases h.uniq le
  rw [e]
  exact cuts_take wf (bel_opt _ _) tk
noncomputable def F_alike : List D → CH → Res D := fnBody 3 (g_alike F_part)
theorem alike_eq {S : List Th} {v w : Vl} {o : Option (List Nat)} (hS : SOk S) (hv : vok S.length v) (hw : vok S.length w) (hn : S.length ≤ 20) (h : Least S v w o) (C : CH) : F_alike [sd S, vd v, vd w] C = .ok (.bl o.isNone) C := by
  have e := part_eq hS hv hw hn h C
  unfold F_alike
  have e2 : ∀ C, oIs false (optD o) .non C = some (.bl o.isNone, C) := fun C => by cases o <;> rfl
  simp only [fnBody, startD, sSeq, sIf, sAsg, sPut, sRet, sRetN, sDrop, sNx, sPar, sFor, dTest, dBin, dVar, dC, dCB, dCons, dNil, dTup, dLst, dSl, dPN, dPS, dRev, revO, dBM, isLst, dIf, dAnd, dOr, dNot, dTru, truB, dCall, dNeg, dNewK, dNewT, gN, gT, gsN, gsC, iR1, iR2, iSeq, srcOf, itemsOf, List.map_cons, List.map_nil, List.length_cons, List.length_nil, Nat.reduceAdd, Nat.reduceSub, Nat.reduceLeDiff, List.replicate_succ, List.replicate_zero, List.cons_append, List.nil_append, List.getElem?_cons_zero, List.getElem?_cons_succ, List.set_cons_zero, List.set_cons_succ, Res.bind_ok, Res.st_ok, Option.map_some, Option.bind_some, Res.lift_some, oAdd_i, oSub_i, oLt_i, oLe_i, oGt_i, oGe_i, oEq_i, oNe_i, oEq_s, oNe_s, if_true, if_false, reduceIte, Bool.false_eq_true, gInt, gLen2, gLen, Cl.gTup, gList, optS_some, SOut.seq_nx, SOut.seq_rt, SOut.seq_bk, SOut.seq_ct, bodyOut, atI_0, atI_1, atI_2, atI_3, atI_4, atI_5, oSub2_tup, oSub2_fl, Option.orElse_some, g2I, decide_true, decide_false, slO, dDct, dPairs, keyed, Int.reduceAdd, Int.reduceMul, g_alike, e, e2]
end Lw
set_option maxHeartbeats 4000000
/-! law_k22: the law's own least road. -/
namespace Lw
open PySem Cl L2 Rd
def seenOf (js : List (Nat × Nat × Nat)) : List (List Key × D) := js.map fun x => ([Sum.inl (x.1 : Int), Sum.inl (x.2.1 : Int)], .bl true)
theorem key2 {a b c d : Nat} : ([Sum.inl (a : Int), Sum.inl (b : Int)] : List Key) = [Sum.inl (c : Int), Sum.inl (d : Int)] ↔ a = c ∧ b = d := by
  constructor
  · intro h
    simp only [List.cons.injEq, Sum.inl.injEq, and_true] at h
    omega
  · rintro ⟨rfl, rfl⟩; rfl
theorem val_seen (t u : Nat) : ∀ js : List (Nat × Nat × Nat), valD (seenOf js) [Sum.inl (t : Int), Sum.inl (u : Int)] = if (t, u) ∈ js.map (fun x => (x.1, x.2.1)) then some (.bl true) else none
  | [] => rfl
  | x :: r => by
    unfold valD seenOf
    rw [List.map_cons, List.find?_cons]
    by_cases h : x.1 = t ∧ x.2.1 = u
    · rw [decide_eq_true (key2.mpr h)]
      rw [if_pos (by rw [List.map_cons, ← h.1, ← h.2]; exact List.mem_cons_self)]
      rfl
    · rw [decide_eq_false (fun z => h (key2.mp z))]
      have ih := val_seen t u r
      unfold valD seenOf at ih
      rw [ih]
      have : ((t, u) ∈ (x :: r).map fun x => (x.1, x.2.1)) ↔ (t, u) ∈ r.map fun x => (x.1, x.2.1) := by
        rw [List.map_cons, List.mem_cons]
        constructor
        · rintro (e | e)
          · simp only [Prod.mk.injEq] at e; exact absurd ⟨e.1.symm, e.2.symm⟩ h
          · exact e
        · exact .inr
      by_cases z : (t, u) ∈ r.map fun x => (x.1, x.2.1)
      · rw [if_pos z, if_pos (this.mpr z)]
      · rw [if_neg z, if_neg (fun y => z (this.mp y))]
theorem put_seen {t u c : Nat} {js : List (Nat × Nat × Nat)} (h : (t, u) ∉ js.map fun x => (x.1, x.2.1)) : putD (seenOf js) [Sum.inl (t : Int), Sum.inl (u : Int)] (.bl true) = seenOf (js ++ [(t, u, c)]) := by
  have : (seenOf js).any (fun kv => decide (kv.1 = [Sum.inl (t : Int), Sum.inl (u : Int)])) = false := by
    rw [List.any_eq_false]
    intro kv hkv
    obtain ⟨x, hx, e⟩ := List.mem_map.mp hkv
    subst e
    rw [decide_eq_true_eq]
    intro z
    have := key2.mp z
    exact h (List.mem_map.mpr ⟨x, hx, by rw [this.1, this.2]⟩)
  unfold putD
  rw [this, if_neg Bool.false_ne_true]
  unfold seenOf
  rw [List.map_append]
  rfl
theorem nin_seen {C : CH} {q : Nat} {js : List (Nat × Nat × Nat)} (h : C[q]? = some (.dT (seenOf js))) (t u : Nat) : oIn2 true (.tup [.int t, .int u]) (.ref q) C = some (.bl (!decide ((t, u) ∈ js.map fun x => (x.1, x.2.1))), C) := by
  have e1 : oIn true (.tup [.int t, .int u]) (.ref q) C = none := by simp only [oIn, itemsOf, h]; rfl
  have e2 : oDIn true (.tup [.int t, .int u]) (.ref q) C = some (.bl (!decide ((t, u) ∈ js.map fun x => (x.1, x.2.1))), C) := by
    have k : keysOf (.tup [.int t, .int u]) = some [Sum.inl (t : Int), Sum.inl (u : Int)] := rfl
    simp only [oDIn, dGetO, h, k, Option.map_some, val_seen]
    by_cases z : (t, u) ∈ js.map fun x => (x.1, x.2.1)
    · rw [if_pos z, decide_eq_true z]; rfl
    · rw [if_neg z, decide_eq_false z]; rfl
  unfold oIn2 orO
  rw [e1]
  simp only [Option.orElse_none, e2, Option.orElse_some]
theorem set_seen {C : CH} {q : Nat} {js : List (Nat × Nat × Nat)} (h : C[q]? = some (.dT (seenOf js))) (hz : js.length ≤ 1000000) {t u c : Nat} (hn : (t, u) ∉ js.map fun x => (x.1, x.2.1)) : setO (.ref q) (.tup [.int t, .int u]) (.bl true) C = some (C.set q (.dT (seenOf (js ++ [(t, u, c)])))) := by
  have hz2 : (seenOf js).length ≤ 1000000 := by unfold seenOf; rw [List.length_map]; exact hz
  have k : keysOf (.tup [.int t, .int u]) = some [Sum.inl (t : Int), Sum.inl (u : Int)] := rfl
  simp only [setO, h, if_pos hz2, k, Option.map_some, put_seen (c := c) hn]
theorem so_kn (k : Kd) : PyData.strOk (kname k) = true := by cases k <;> decide +kernel
theorem ne_lists {C : CH} {a b : Nat} {x y x' y' : Str} (h1 : C[a]? = some (.lst [.str x, .str y])) (h2 : C[b]? = some (.lst [.str x', .str y'])) (s1 : PyData.strOk x = true) (s2 : PyData.strOk y = true) (s3 : PyData.strOk x' = true) (s4 : PyData.strOk y' = true) :
    oNe (.ref a) (.ref b) C = some (.bl (!(decide (x = x') && decide (y = y'))), C) := by
  have p1 : py C 66 (.ref a) = some (.list [.str x, .str y]) := by simp only [py, h1, List.mapM_cons, List.mapM_nil, s1, s2, if_true]; rfl
  have p2 : py C 66 (.ref b) = some (.list [.str x', .str y']) := by simp only [py, h2, List.mapM_cons, List.mapM_nil, s3, s4, if_true]; rfl
  have sh : ∀ x y, PyData.strOk x = true → PyData.strOk y = true → SeqAt.shaped (.list [.str x, .str y]) = true := fun x y h h' => by
    simp [SeqAt.shaped, PyData.canLay0, PyData.canLayAll0, h, h', PyData.depth, PyData.depthAll]
  show (eqP C (.ref a) (.ref b)).map _ = _
  unfold eqP
  rw [p1, p2]
  simp only [Option.bind_some, sh x y s1 s2, sh x' y' s3 s4, Bool.and_self, if_true, Option.map_some]
  simp [PyData.eqv, PyData.eqvAll, Bool.beq_eq_decide_eq]
def entD (e : Ent) : D := .tup [vd e.a, vd e.b, .tup (nats e.r)]
noncomputable def lbody : Fs := (sSeq (sIf (dTest (dBin oGe (dVar 3) (dCB gLen2 (dCons (dVar 4) dNil)))) (sRet (dC .non)) sNx)
  (sSeq (sAsg (gT 3 (gsC (gN 7) (gsC (gN 8) (gsC (gN 9) gsN)))) (dBin oSub2 (dVar 4) (dVar 3)))
  (sSeq (sAsg (gN 6) (dLst (dCons (dCall 2 F_lkind (dCons (dVar 0) (dCons (dVar 7) dNil))) (dCons (dCall 2 F_lkind (dCons (dVar 0) (dCons (dVar 8) dNil))) dNil))))
  (sIf (dTest (dBin oNe (dVar 6) (dLst (dCons (dC (.str "pair")) (dCons (dC (.str "pair")) dNil))))) (sIf (dOr (dTest (dBin oNe (dBin oSub2 (dVar 6) (dC (.int 0))) (dBin oSub2 (dVar 6) (dC (.int 1))))) (dTest (dBin oNe (dVar 7) (dVar 8)))) (sRet (dVar 9)) sNx) (sIf (dTest (dBin (oIn2 true) (dTup (dCons (dBin oSub2 (dVar 7) (dC (.int 1))) (dCons (dBin oSub2 (dVar 8) (dC (.int 1))) dNil))) (dVar 5))) (sSeq (sPut (dC (.bl true)) (dVar 5) (dTup (dCons (dBin oSub2 (dVar 7) (dC (.int 1))) (dCons (dBin oSub2 (dVar 8) (dC (.int 1))) dNil))))
  (sSeq (sDrop (dBM isLst gApp (dVar 4) (dCons (dTup (dCons (dBin oSub2 (dBin oSub2 (dVar 0) (dBin oSub2 (dVar 7) (dC (.int 1)))) (dC (.int 1))) (dCons (dBin oSub2 (dBin oSub2 (dVar 0) (dBin oSub2 (dVar 8) (dC (.int 1)))) (dC (.int 1))) (dCons (dBin oAdd (dVar 9) (dTup (dCons (dC (.int 1)) dNil))) dNil)))) dNil)))
  (sDrop (dBM isLst gApp (dVar 4) (dCons (dTup (dCons (dBin oSub2 (dBin oSub2 (dVar 0) (dBin oSub2 (dVar 7) (dC (.int 1)))) (dC (.int 2))) (dCons (dBin oSub2 (dBin oSub2 (dVar 0) (dBin oSub2 (dVar 8) (dC (.int 1)))) (dC (.int 2))) (dCons (dBin oAdd (dVar 9) (dTup (dCons (dC (.int 2)) dNil))) dNil)))) dNil))))) sNx)))))
theorem least_form : g__law_least F_lkind = (sSeq (sPar 4 5 (dCons (dLst (dCons (dTup (dCons (dVar 1) (dCons (dVar 2) (dCons (dTup dNil) dNil)))) dNil)) (dCons dNewT dNil)))
  (sSeq (sFor (iR1 (dCons (dC (.int 200)) dNil)) (gN 3) lbody) (sRet (dC (.str "long"))))) := rfl
structure Ls (S : List Th) (v w : Vl) (q q1 : Nat) (C0 C : CH) (line : List Ent) (pos : Nat) (js : List (Nat × Nat × Nat)) : Prop where
  b : Bf S v w line pos js
  c : C[q]? = some (.dT (seenOf js))
  l : C[q1]? = some (.lst (line.map entD))
  ne : q ≠ q1
  q0 : C0.length ≤ q
  q10 : C0.length ≤ q1
  tk : C.take C0.length = C0
  ll : line.length = 1 + 2 * js.length
  nd : (js.map fun x => (x.1, x.2.1)).Nodup
  rl : ∀ e ∈ line, e.r.length ≤ pos
theorem oAdd_tup (a b : List D) (h : a.length + b.length ≤ 1000000) (C : CH) : oAdd (.tup a) (.tup b) C = some (.tup (a ++ b), C) := by
  have e : ∀ g : Int → Int → D, pureO (iI (fun _ _ => true) g) (.tup a) (.tup b) C = none := fun g => rfl
  unfold oAdd orO
  rw [e]
  simp only [pureO, sAdd, tAddO, if_pos h, Option.map_none, Option.orElse_none, Option.map_some, Option.orElse_some]
section
variable {S : List Th} {v w : Vl} {q q1 : Nat} {C0 C : CH} {line : List Ent} {pos : Nat} {js : List (Nat × Nat × Nat)}
theorem Ls.jl (h : Ls S v w q q1 C0 C line pos js) : js.length ≤ S.length * S.length := by
  have := pairs_len S.length _ h.nd fun p hp => by
    obtain ⟨x, hx, e⟩ := List.mem_map.mp hp
    have hk := h.b.pairs x.1 x.2.1 x.2.2 hx
    subst e
    have lt : ∀ t, kd S (.th t) = .pair → t < S.length := fun t z => by
      apply Classical.byContradiction
      intro y
      simp only [kd, List.getElem?_eq_none (by omega : S.length ≤ t)] at z
      cases z
    exact ⟨lt _ hk.1, lt _ hk.2⟩
  rw [List.length_map] at this
  exact this
theorem nats_app (a b : List Nat) : nats a ++ nats b = nats (a ++ b) := by unfold nats; rw [List.map_append]
theorem least_turn (h : Ls S v w q q1 C0 C line pos js) (hS : SOk S) (hv : vok S.length v) (hw : vok S.length w) (hn : S.length ≤ 9) {e : Ent} (he : line[pos]? = some e) (hp200 : pos ≤ 200) (x6 x7 x8 x9 : Option D) :
    (∃ C', lbody [some (sd S), some (vd v), some (vd w), some (.int pos), some (.ref q1), some (.ref q), x6, x7, x8, x9] C = .rt (.tup (nats e.r)) C' ∧ C'.take C0.length = C0 ∧ Least S v w (some e.r)) ∨
    ∃ C' line' js' y6 y7 y8 y9, lbody [some (sd S), some (vd v), some (vd w), some (.int pos), some (.ref q1), some (.ref q), x6, x7, x8, x9] C = .nx [some (sd S), some (vd v), some (vd w), some (.int pos), some (.ref q1), some (.ref q), y6, y7, y8, y9] C' ∧
      Ls S v w q q1 C0 C' line' (pos + 1) js' ∧ line.length ≤ line'.length := by
  have hj := h.jl
  have hjn : js.length ≤ 81 := Nat.le_trans hj (Nat.mul_le_mul hn hn)
  have hln := h.ll
  have hlt : pos < line.length := (List.getElem?_eq_some_iff.mp he).1
  obtain ⟨c1, c2⟩ := h.b.corr e (List.mem_of_getElem? he)
  have va := go_ok hS _ _ _ hv c1
  have vb := go_ok hS _ _ _ hw c2
  have g := oSub2_lst h.l (pos : Int)
  have ea : atI (line.map entD) (pos : Int) = some (.tup [vd e.a, vd e.b, .tup (nats e.r)]) := by rw [atI_n, List.getElem?_map, he]; rfl
  have k1 := lkind_ok va C
  have k2 := lkind_ok vb C
  have hll : (line.map entD).length = line.length := List.length_map _
  have ge : ¬ ((line.map entD).length : Int) ≤ (pos : Int) := by rw [hll]; omega
  have hq1 : q1 < C.length := (List.getElem?_eq_some_iff.mp h.l).1
  have hq : q < C.length := (List.getElem?_eq_some_iff.mp h.c).1
  have le2 : 2 ≤ 1000 := by decide
  have le3 : 3 ≤ 1000 := by decide
  have le1 : 1 ≤ 1000 := by decide
  -- the heap with both rows of kinds
  generalize hK1 : O.lst [.str (kname (kd S e.a)), .str (kname (kd S e.b))] = K1
  generalize hK2 : O.lst [.str "pair", .str "pair"] = K2
  have n1 : (C ++ [K1] ++ [K2])[C.length]? = some (.lst [.str (kname (kd S e.a)), .str (kname (kd S e.b))]) := by rw [app_get, hK1]
  have n2 : (C ++ [K1] ++ [K2])[(C ++ [K1]).length]? = some (.lst [.str "pair", .str "pair"]) := by rw [get_new, hK2]
  have nl := ne_lists n1 n2 (so_kn _) (so_kn _) so_pair so_pair
  rw [kname_pair, kname_pair] at nl
  have gk := oSub2_lst n1
  have tk2 : (C ++ [K1] ++ [K2]).take C0.length = C0 := by rw [List.append_assoc]; exact take_app h.tk _
  have lC : C.length + 1 = (C ++ [K1]).length := by simp
  by_cases hk : kd S e.a = kd S e.b
  · by_cases hp : kd S e.a = .pair
    · obtain ⟨t, a1, a2, et, ht⟩ : ∃ t a1 a2, e.a = .th t ∧ S[t]? = some (.pr a1 a2) := by
        cases ea : e.a with
        | th t =>
          rw [ea] at hp
          simp only [kd] at hp
          split at hp
          · exact ⟨t, _, _, rfl, ‹_›⟩
          · cases hp
        | _ => rw [ea] at hp; cases hp
      obtain ⟨u, b1, b2, eu, hu⟩ : ∃ t a1 a2, e.b = .th t ∧ S[t]? = some (.pr a1 a2) := by
        have hp := hk ▸ hp
        cases ea : e.b with
        | th t =>
          rw [ea] at hp
          simp only [kd] at hp
          split at hp
          · exact ⟨t, _, _, rfl, ‹_›⟩
          · cases hp
        | _ => rw [ea] at hp; cases hp
      have hpb : kd S e.b = .pair := hk ▸ hp
      rw [decide_eq_true hp, decide_eq_true hpb] at nl
      rw [et, eu] at ea
      rw [et] at k1
      rw [eu] at k2
      have s1 := at_store ht
      have s2 := at_store hu
      simp only [vd] at ea k1 k2
      simp only [sd] at k1 k2
      have hK1' : O.lst [.str (kname (kd S (.th t))), .str (kname (kd S (.th u)))] = K1 := by rw [← hK1, et, eu]
      have hc2 : (C ++ [K1] ++ [K2])[q]? = some (.dT (seenOf js)) := get_old (get_old h.c)
      have hl2 : (C ++ [K1] ++ [K2])[q1]? = some (.lst (line.map entD)) := get_old (get_old h.l)
      have ni := nin_seen hc2 t u
      by_cases hm : (t, u) ∈ js.map fun x => (x.1, x.2.1)
      · rw [decide_eq_true hm] at ni
        obtain ⟨x, hx, ex⟩ := List.mem_map.mp hm
        refine .inr ⟨C ++ [K1] ++ [K2], line, js, some (.ref C.length), some (vd (.th t)), some (vd (.th u)), some (.tup (nats e.r)), ?_, ⟨h.b.skip he ?_, hc2, hl2, h.ne, h.q0, h.q10, tk2, h.ll, h.nd, fun f hf => by have := h.rl f hf; omega⟩, Nat.le_refl _⟩
        · simp only [fnBody, startD, sSeq, sIf, sAsg, sPut, sRet, sRetN, sDrop, sNx, sPar, sFor, dTest, dBin, dVar, dC, dCB, dCons, dNil, dTup, dLst, dSl, dPN, dPS, dRev, revO, dBM, isLst, dIf, dAnd, dOr, dNot, dTru, truB, dCall, dNeg, dNewK, dNewT, gN, gT, gsN, gsC, iR1, iR2, iSeq, srcOf, itemsOf, List.map_cons, List.map_nil, List.length_cons, List.length_nil, Nat.reduceAdd, Nat.reduceSub, Nat.reduceLeDiff, List.replicate_succ, List.replicate_zero, List.cons_append, List.nil_append, List.getElem?_cons_zero, List.getElem?_cons_succ, List.set_cons_zero, List.set_cons_succ, Res.bind_ok, Res.st_ok, Option.map_some, Option.bind_some, Res.lift_some, oAdd_i, oSub_i, oLt_i, oLe_i, oGt_i, oGe_i, oEq_i, oNe_i, oEq_s, oNe_s, if_true, if_false, reduceIte, Bool.false_eq_true, gInt, gLen2, gLen, Cl.gTup, gList, optS_some, SOut.seq_nx, SOut.seq_rt, SOut.seq_bk, SOut.seq_ct, bodyOut, atI_0, atI_1, atI_2, atI_3, atI_4, atI_5, oSub2_tup, oSub2_fl, Option.orElse_some, g2I, decide_true, decide_false, slO, dDct, dPairs, keyed, Int.reduceAdd, Int.reduceMul, lbody, h.l, decide_eq_false ge, g, ea, sd, k1, k2, hK1', hK2, le2, nl, Bool.not_true, ni, vd_th, Bool.and_self]
        · simp at ex
          exact ⟨x.2.2, .inr ⟨t, u, et, eu, .base (by rw [← ex.1, ← ex.2]; exact hx) (Nat.le_refl _)⟩⟩
      · rw [decide_eq_false hm] at ni
        have ss := set_seen (c := Rd.code e.r) hc2 (by omega) hm
        have l3 : ((C ++ [K1] ++ [K2]).set q (.dT (seenOf (js ++ [(t, u, Rd.code e.r)]))))[q1]? = some (.lst (line.map entD)) := by rw [List.getElem?_set_ne h.ne]; exact hl2
        have rl := h.rl e (List.mem_of_getElem? he)
        have ln : (nats e.r).length = e.r.length := by unfold nats; rw [List.length_map]
        have ta : ∀ s C, oAdd (.tup (nats e.r)) (.tup [.int s]) C = _ := fun s C => oAdd_tup (nats e.r) [.int s] (by simp [ln]; omega) C
        have ga := app_at l3 (by rw [hll]; omega) (.tup [vd a1, vd b1, .tup (nats e.r ++ [.int 1])])
        have qs : q1 < ((C ++ [K1] ++ [K2]).set q (.dT (seenOf (js ++ [(t, u, Rd.code e.r)])))).length := by rw [List.length_set]; simp; omega
        have l4 : (((C ++ [K1] ++ [K2]).set q (.dT (seenOf (js ++ [(t, u, Rd.code e.r)])))).set q1 (.lst (line.map entD ++ [.tup [vd a1, vd b1, .tup (nats e.r ++ [.int 1])]])))[q1]? = some (.lst (line.map entD ++ [.tup [vd a1, vd b1, .tup (nats e.r ++ [.int 1])]])) := List.getElem?_set_self qs
        have gb := app_at l4 (by simp; omega) (.tup [vd a2, vd b2, .tup (nats e.r ++ [.int 2])])
        rw [set_set'] at gb
        simp only [td] at s1 s2
        refine .inr ⟨((C ++ [K1] ++ [K2]).set q (.dT (seenOf (js ++ [(t, u, Rd.code e.r)])))).set q1 (.lst (line.map entD ++ [.tup [vd a1, vd b1, .tup (nats e.r ++ [.int 1])]] ++ [.tup [vd a2, vd b2, .tup (nats e.r ++ [.int 2])]])), line ++ [⟨a1, b1, e.r ++ [1]⟩, ⟨a2, b2, e.r ++ [2]⟩], js ++ [(t, u, Rd.code e.r)],
          some (.ref C.length), some (vd (.th t)), some (vd (.th u)), some (.tup (nats e.r)), ?_, ⟨h.b.join he et eu ht hu, ?_, ?_, h.ne, h.q0, h.q10, ?_, by simp; omega, ?_, fun f hf => ?_⟩, by simp⟩
        · simp only [fnBody, startD, sSeq, sIf, sAsg, sPut, sRet, sRetN, sDrop, sNx, sPar, sFor, dTest, dBin, dVar, dC, dCB, dCons, dNil, dTup, dLst, dSl, dPN, dPS, dRev, revO, dBM, isLst, dIf, dAnd, dOr, dNot, dTru, truB, dCall, dNeg, dNewK, dNewT, gN, gT, gsN, gsC, iR1, iR2, iSeq, srcOf, itemsOf, List.map_cons, List.map_nil, List.length_cons, List.length_nil, Nat.reduceAdd, Nat.reduceSub, Nat.reduceLeDiff, List.replicate_succ, List.replicate_zero, List.cons_append, List.nil_append, List.getElem?_cons_zero, List.getElem?_cons_succ, List.set_cons_zero, List.set_cons_succ, Res.bind_ok, Res.st_ok, Option.map_some, Option.bind_some, Res.lift_some, oAdd_i, oSub_i, oLt_i, oLe_i, oGt_i, oGe_i, oEq_i, oNe_i, oEq_s, oNe_s, if_true, if_false, reduceIte, Bool.false_eq_true, gInt, gLen2, gLen, Cl.gTup, gList, optS_some, SOut.seq_nx, SOut.seq_rt, SOut.seq_bk, SOut.seq_ct, bodyOut, atI_0, atI_1, atI_2, atI_3, atI_4, atI_5, oSub2_tup, oSub2_fl, Option.orElse_some, g2I, decide_true, decide_false, slO, dDct, dPairs, keyed, Int.reduceAdd, Int.reduceMul, lbody, h.l, decide_eq_false ge, g, ea, sd, k1, k2, hK1', hK2, le1, le2, le3, nl, Bool.not_true, ni, vd_th, Bool.and_self, Bool.not_false, ss, s1, s2, ta, l3, ga, l4, gb]
        · rw [List.getElem?_set_ne (Ne.symm h.ne)]; exact List.getElem?_set_self (by simp; omega)
        · rw [List.getElem?_set_self qs]
          have en : ∀ s : Nat, nats e.r ++ [D.int (s : Int)] = nats (e.r ++ [s]) := fun s => by rw [← nats_app]; rfl
          have en1 := en 1
          have en2 := en 2
          rw [List.map_append, List.append_assoc]
          simp only [List.map_cons, List.map_nil, entD, ← nats_app, List.cons_append, List.nil_append]
          rfl
        · rw [take_set h.q10, take_set h.q0]; exact tk2
        · rw [List.map_append]
          refine List.nodup_append.mpr ⟨h.nd, by simp, fun a ha b hb => ?_⟩
          intro z
          subst z
          simp at hb
          exact hm (hb ▸ ha)
        · rcases List.mem_append.mp hf with hf | hf
          · have := h.rl f hf; omega
          · simp at hf
            rcases hf with rfl | rfl <;> simp <;> omega
    · -- no pairs
      rw [decide_eq_false hp, Bool.false_and] at nl
      have en : decide (kname (kd S e.a) = kname (kd S e.b)) = true := by rw [kname_eq]; exact decide_eq_true hk
      have o := oNe_same (C ++ [K1] ++ [K2]) va vb hk
      by_cases hab : e.a = e.b
      · refine .inr ⟨C ++ [K1] ++ [K2], line, js, some (.ref C.length), some (vd e.a), some (vd e.b), some (.tup (nats e.r)), ?_, ⟨h.b.skip he ⟨0, .inl hab⟩, get_old (get_old h.c), get_old (get_old h.l), h.ne, h.q0, h.q10, tk2, h.ll, h.nd, fun f hf => by have := h.rl f hf; omega⟩, Nat.le_refl _⟩
        rw [decide_eq_true hab] at o
        simp only [fnBody, startD, sSeq, sIf, sAsg, sPut, sRet, sRetN, sDrop, sNx, sPar, sFor, dTest, dBin, dVar, dC, dCB, dCons, dNil, dTup, dLst, dSl, dPN, dPS, dRev, revO, dBM, isLst, dIf, dAnd, dOr, dNot, dTru, truB, dCall, dNeg, dNewK, dNewT, gN, gT, gsN, gsC, iR1, iR2, iSeq, srcOf, itemsOf, List.map_cons, List.map_nil, List.length_cons, List.length_nil, Nat.reduceAdd, Nat.reduceSub, Nat.reduceLeDiff, List.replicate_succ, List.replicate_zero, List.cons_append, List.nil_append, List.getElem?_cons_zero, List.getElem?_cons_succ, List.set_cons_zero, List.set_cons_succ, Res.bind_ok, Res.st_ok, Option.map_some, Option.bind_some, Res.lift_some, oAdd_i, oSub_i, oLt_i, oLe_i, oGt_i, oGe_i, oEq_i, oNe_i, oEq_s, oNe_s, if_true, if_false, reduceIte, Bool.false_eq_true, gInt, gLen2, gLen, Cl.gTup, gList, optS_some, SOut.seq_nx, SOut.seq_rt, SOut.seq_bk, SOut.seq_ct, bodyOut, atI_0, atI_1, atI_2, atI_3, atI_4, atI_5, oSub2_tup, oSub2_fl, Option.orElse_some, g2I, decide_true, decide_false, slO, dDct, dPairs, keyed, Int.reduceAdd, Int.reduceMul, lbody, h.l, decide_eq_false ge, g, ea, k1, k2, hK1, hK2, le2, nl, Bool.not_false, gk, en, Bool.not_true, o]
      · refine .inl ⟨C ++ [K1] ++ [K2], ?_, tk2, h.b.find he (.inr ⟨hp, hab⟩)⟩
        rw [decide_eq_false hab] at o
        simp only [fnBody, startD, sSeq, sIf, sAsg, sPut, sRet, sRetN, sDrop, sNx, sPar, sFor, dTest, dBin, dVar, dC, dCB, dCons, dNil, dTup, dLst, dSl, dPN, dPS, dRev, revO, dBM, isLst, dIf, dAnd, dOr, dNot, dTru, truB, dCall, dNeg, dNewK, dNewT, gN, gT, gsN, gsC, iR1, iR2, iSeq, srcOf, itemsOf, List.map_cons, List.map_nil, List.length_cons, List.length_nil, Nat.reduceAdd, Nat.reduceSub, Nat.reduceLeDiff, List.replicate_succ, List.replicate_zero, List.cons_append, List.nil_append, List.getElem?_cons_zero, List.getElem?_cons_succ, List.set_cons_zero, List.set_cons_succ, Res.bind_ok, Res.st_ok, Option.map_some, Option.bind_some, Res.lift_some, oAdd_i, oSub_i, oLt_i, oLe_i, oGt_i, oGe_i, oEq_i, oNe_i, oEq_s, oNe_s, if_true, if_false, reduceIte, Bool.false_eq_true, gInt, gLen2, gLen, Cl.gTup, gList, optS_some, SOut.seq_nx, SOut.seq_rt, SOut.seq_bk, SOut.seq_ct, bodyOut, atI_0, atI_1, atI_2, atI_3, atI_4, atI_5, oSub2_tup, oSub2_fl, Option.orElse_some, g2I, decide_true, decide_false, slO, dDct, dPairs, keyed, Int.reduceAdd, Int.reduceMul, lbody, h.l, decide_eq_false ge, g, ea, k1, k2, hK1, hK2, le2, nl, Bool.not_false, gk, en, Bool.not_true, o]
  · have e0 : (decide (kd S e.a = .pair) && decide (kd S e.b = .pair)) = false := by
      by_cases hp : kd S e.a = .pair
      · have : kd S e.b ≠ .pair := fun z => hk (hp.trans z.symm)
        rw [decide_eq_false this, Bool.and_false]
      · rw [decide_eq_false hp, Bool.false_and]
    rw [e0] at nl
    have en : decide (kname (kd S e.a) = kname (kd S e.b)) = false := by rw [kname_eq]; exact decide_eq_false hk
    refine .inl ⟨C ++ [K1] ++ [K2], ?_, tk2, h.b.find he (.inl hk)⟩
    simp only [fnBody, startD, sSeq, sIf, sAsg, sPut, sRet, sRetN, sDrop, sNx, sPar, sFor, dTest, dBin, dVar, dC, dCB, dCons, dNil, dTup, dLst, dSl, dPN, dPS, dRev, revO, dBM, isLst, dIf, dAnd, dOr, dNot, dTru, truB, dCall, dNeg, dNewK, dNewT, gN, gT, gsN, gsC, iR1, iR2, iSeq, srcOf, itemsOf, List.map_cons, List.map_nil, List.length_cons, List.length_nil, Nat.reduceAdd, Nat.reduceSub, Nat.reduceLeDiff, List.replicate_succ, List.replicate_zero, List.cons_append, List.nil_append, List.getElem?_cons_zero, List.getElem?_cons_succ, List.set_cons_zero, List.set_cons_succ, Res.bind_ok, Res.st_ok, Option.map_some, Option.bind_some, Res.lift_some, oAdd_i, oSub_i, oLt_i, oLe_i, oGt_i, oGe_i, oEq_i, oNe_i, oEq_s, oNe_s, if_true, if_false, reduceIte, Bool.false_eq_true, gInt, gLen2, gLen, Cl.gTup, gList, optS_some, SOut.seq_nx, SOut.seq_rt, SOut.seq_bk, SOut.seq_ct, bodyOut, atI_0, atI_1, atI_2, atI_3, atI_4, atI_5, oSub2_tup, oSub2_fl, Option.orElse_some, g2I, decide_true, decide_false, slO, dDct, dPairs, keyed, Int.reduceAdd, Int.reduceMul, lbody, h.l, decide_eq_false ge, g, ea, k1, k2, hK1, hK2, le2, nl, Bool.not_false, gk, en]
end
end Lw
set_option maxHeartbeats 4000000
/-! law_k22: the law's own least road, whole; value_at and the law's at. -/
namespace Lw
open PySem Cl L2 Rd
theorem fr_rt {g : Fg} {b : Fs} {d x : D} {ds : List D} {sc sc1 : Sc} {C C2 : CH} (hg : g d sc = some sc1) (hb : b sc1 C = .rt x C2) : fr (fun _ => True) g b (d :: ds) sc C = .rt x C2 := by
  rw [fr, if_pos trivial, hg]
  simp only [optS_some, hb]
theorem rng_drop {n pos : Nat} (h : pos < n) : (rngD 0 n).drop pos = .int ((0 : Int) + (pos : Int)) :: (rngD 0 n).drop (pos + 1) := by
  have hl : pos < (rngD 0 n).length := by simp [rngD]; exact h
  rw [List.drop_eq_getElem_cons hl]
  simp [rngD]
section
variable {S : List Th} {v w : Vl} {q q1 : Nat} {C0 : CH}
theorem least_loop (hS : SOk S) (hv : vok S.length v) (hw : vok S.length w) (hn : S.length ≤ 9) : ∀ (f pos : Nat) (C : CH) (line : List Ent) (js : List (Nat × Nat × Nat)) (x3 x6 x7 x8 x9 : Option D),
    Ls S v w q q1 C0 C line pos js → pos ≤ line.length → 200 - pos ≤ f → ∃ C' o, C'.take C0.length = C0 ∧ Least S v w o ∧ (∀ r, o = some r → r.length ≤ 200) ∧
      fr (fun _ => True) (gN 3) lbody ((rngD 0 200).drop pos) [some (sd S), some (vd v), some (vd w), x3, some (.ref q1), some (.ref q), x6, x7, x8, x9] C = .rt (optD o) C' := by
  intro f
  induction f with
  | zero =>
    intro pos C line js x3 x6 x7 x8 x9 h hp hf
    have := h.jl
    have := h.ll
    have := Nat.mul_le_mul hn hn
    omega
  | succ f ih =>
    intro pos C line js x3 x6 x7 x8 x9 h hp hf
    have hj := h.jl
    have hll := h.ll
    have h81 := Nat.mul_le_mul hn hn
    have hp200 : pos < 200 := by omega
    rw [rng_drop hp200, Int.zero_add]
    by_cases hlt : pos < line.length
    · obtain ⟨e, he⟩ : ∃ e, line[pos]? = some e := ⟨_, List.getElem?_eq_getElem hlt⟩
      rcases least_turn h hS hv hw hn he (by omega) x6 x7 x8 x9 with ⟨C', e1, tk, le⟩ | ⟨C', line', js', y6, y7, y8, y9, e1, h', hg⟩
      · exact ⟨C', some e.r, tk, le, (fun r hr => by cases hr; have := h.rl e (List.mem_of_getElem? he); omega), fr_rt rfl e1⟩
      · obtain ⟨C2, o, tk, le, lb, e2⟩ := ih (pos + 1) C' line' js' (some (.int pos)) y6 y7 y8 y9 h' (by omega) (by omega)
        refine ⟨C2, o, tk, le, lb, ?_⟩
        rw [fr_nx rfl e1]
        exact e2
    · have hpl : pos = line.length := by omega
      refine ⟨C, none, h.tk, h.b.none hpl, (fun r hr => nomatch hr), fr_rt rfl ?_⟩
      have hl2 : (line.map entD).length = line.length := List.length_map _
      have ge : ((line.map entD).length : Int) ≤ (pos : Int) := by rw [hl2]; omega
      simp only [fnBody, startD, sSeq, sIf, sAsg, sPut, sRet, sRetN, sDrop, sNx, sPar, sFor, dTest, dBin, dVar, dC, dCB, dCons, dNil, dTup, dLst, dSl, dPN, dPS, dRev, revO, dBM, isLst, dIf, dAnd, dOr, dNot, dTru, truB, dCall, dNeg, dNewK, dNewT, gN, gT, gsN, gsC, iR1, iR2, iSeq, srcOf, itemsOf, List.map_cons, List.map_nil, List.length_cons, List.length_nil, Nat.reduceAdd, Nat.reduceSub, Nat.reduceLeDiff, List.replicate_succ, List.replicate_zero, List.cons_append, List.nil_append, List.getElem?_cons_zero, List.getElem?_cons_succ, List.set_cons_zero, List.set_cons_succ, Res.bind_ok, Res.st_ok, Option.map_some, Option.bind_some, Res.lift_some, oAdd_i, oSub_i, oLt_i, oLe_i, oGt_i, oGe_i, oEq_i, oNe_i, oEq_s, oNe_s, if_true, if_false, reduceIte, Bool.false_eq_true, gInt, gLen2, gLen, Cl.gTup, gList, optS_some, SOut.seq_nx, SOut.seq_rt, SOut.seq_bk, SOut.seq_ct, bodyOut, atI_0, atI_1, atI_2, atI_3, atI_4, atI_5, oSub2_tup, oSub2_fl, Option.orElse_some, g2I, decide_true, decide_false, slO, dDct, dPairs, keyed, Int.reduceAdd, Int.reduceMul, lbody, h.l, decide_eq_true ge]
      rfl
theorem least_raw (hS : SOk S) (hv : vok S.length v) (hw : vok S.length w) (hn : S.length ≤ 9) (C : CH) : ∃ C' o, C'.take C.length = C ∧ Least S v w o ∧ (∀ r, o = some r → r.length ≤ 200) ∧ fnBody 10 (g__law_least F_lkind) [sd S, vd v, vd w] C = .ok (optD o) C' := by
  have hP : Ls S v w (C ++ [O.lst [entD ⟨v, w, []⟩]]).length C.length C (C ++ [.lst [entD ⟨v, w, []⟩]] ++ [.dT []]) [⟨v, w, []⟩] 0 [] :=
    ⟨Bf.start S v w, get_new _ _, app_get, by simp, by simp, Nat.le_refl _, by rw [List.append_assoc, List.take_left], rfl, List.Pairwise.nil, fun e he => by rw [List.mem_singleton.mp he]; exact Nat.le_refl _⟩
  obtain ⟨C', o, tk, le, lb, e⟩ := least_loop hS hv hw hn 200 0 _ _ _ none none none none none hP (by simp) (Nat.le_refl _)
  rw [List.drop_zero] at e
  refine ⟨C', o, tk, le, lb, ?_⟩
  rw [least_form]
  have bs := rng1_i (j := 200) (by decide) (by decide)
  have le3 : 3 ≤ 1000 := by decide
  have le1 : 1 ≤ 1000 := by decide
  have le0 : 0 ≤ 1000 := by decide
  have e0 : O.lst [.tup [vd v, vd w, .tup []]] = O.lst [entD ⟨v, w, []⟩] := rfl
  have e : fr (fun _ => True) (gN 3) lbody (rngD 0 (200 : Int).toNat) _ _ = _ := e
  simp only [fnBody, startD, sSeq, sIf, sAsg, sPut, sRet, sRetN, sDrop, sNx, sPar, sFor, dTest, dBin, dVar, dC, dCB, dCons, dNil, dTup, dLst, dSl, dPN, dPS, dRev, revO, dBM, isLst, dIf, dAnd, dOr, dNot, dTru, truB, dCall, dNeg, dNewK, dNewT, gN, gT, gsN, gsC, iR1, iR2, iSeq, srcOf, itemsOf, List.map_cons, List.map_nil, List.length_cons, List.length_nil, Nat.reduceAdd, Nat.reduceSub, Nat.reduceLeDiff, List.replicate_succ, List.replicate_zero, List.cons_append, List.nil_append, List.getElem?_cons_zero, List.getElem?_cons_succ, List.set_cons_zero, List.set_cons_succ, Res.bind_ok, Res.st_ok, Option.map_some, Option.bind_some, Res.lift_some, oAdd_i, oSub_i, oLt_i, oLe_i, oGt_i, oGe_i, oEq_i, oNe_i, oEq_s, oNe_s, if_true, if_false, reduceIte, Bool.false_eq_true, gInt, gLen2, gLen, Cl.gTup, gList, optS_some, SOut.seq_nx, SOut.seq_rt, SOut.seq_bk, SOut.seq_ct, bodyOut, atI_0, atI_1, atI_2, atI_3, atI_4, atI_5, oSub2_tup, oSub2_fl, Option.orElse_some, g2I, decide_true, decide_false, slO, dDct, dPairs, keyed, Int.reduceAdd, Int.reduceMul, le0, le1, le3, bs, e0, e]
end
def R_least (ds : List D) (C : CH) (d : D) (C' : CH) : Prop := ∃ S v w o, ds = [sd S, vd v, vd w] ∧ SOk S ∧ vok S.length v ∧ vok S.length w ∧ S.length ≤ 9 ∧ Least S v w o ∧ d = optD o ∧ C' = C
noncomputable def F_least : List D → CH → Res D := relF R_least
theorem least_eq {S : List Th} {v w : Vl} {o : Option (List Nat)} (hS : SOk S) (hv : vok S.length v) (hw : vok S.length w) (hn : S.length ≤ 9) (h : Least S v w o) (C : CH) : F_least [sd S, vd v, vd w] C = .ok (optD o) C := by
  refine relF_eq ⟨S, v, w, o, rfl, hS, hv, hw, hn, h, rfl, rfl⟩ ?_
  rintro d2 C2 ⟨S', v', w', o', e, _, _, _, _, h', rfl, rfl⟩
  simp only [List.cons.injEq, and_true] at e
  obtain ⟨e1, e2, e3⟩ := e
  cases sd_inj e1
  cases vd_inj e2
  cases vd_inj e3
  rw [h.uniq h']
  exact ⟨rfl, rfl⟩
theorem least_cuts (ds : List D) (C : CH) (wf : Wf C) : Cuts C (fnBody 10 (g__law_least F_lkind) ds C) (F_least ds C) := by
  refine relF_cuts ?_
  rintro d C' ⟨S, v, w, o, rfl, hS, hv, hw, hn, h, rfl, rfl⟩
  obtain ⟨C2, o', tk, le, lb, e⟩ := least_raw hS hv hw hn C'
  cases h.uniq le
  rw [e]
  exact cuts_take wf (bel_opt _ _) tk
/-- there is a least road, or none -/
theorem least_ex {S : List Th} {v w : Vl} (hS : SOk S) (hv : vok S.length v) (hw : vok S.length w) (hn : S.length ≤ 9) : ∃ o, Least S v w o ∧ (∀ r, o = some r → r.length ≤ 200) := by
  obtain ⟨_, o, _, h, lb, _⟩ := least_raw hS hv hw hn []
  exact ⟨o, h, lb⟩
/-! ### value_at, the law's at -/
/-- where a road leads: a value, or the number of the step that can't be gone -/
def tell (S : List Th) : Vl → List Nat → Nat → Vl ⊕ Nat
  | v, [], _ => .inl v
  | v, s :: r, k => match ch S s v with
    | some x => tell S x r (k + 1)
    | none => .inr k
section
variable {S : List Th} {CN : Addr}
theorem kd_ch {v : Vl} {s : Nat} (hs : s = 1 ∨ s = 2) : kd S v = .pair ↔ (ch S s v).isSome = true := by
  cases v with
  | th t =>
    simp only [kd, ch]
    split
    · rcases hs with rfl | rfl <;> simp
    · simp
  | _ => simp [kd, ch]
noncomputable def vaBody (CN : Addr) : Fs := (sSeq (sIf (dTest (dBin oNe (dCall 2 F_kind (dCons (dVar 0) (dCons (dVar 1) dNil))) (dC (.str "pair")))) (sRaise CN ["number"] (dCons (dVar 3) dNil)) sNx)
  (sAsg (gN 1) (dBin oSub2 (dBin oSub2 (dVar 0) (dBin oSub2 (dVar 1) (dC (.int 1)))) (dVar 4))))
theorem va_form : g_value_at CN F_kind = sSeq (sFor (iEnu (dCons (dVar 2) dNil)) (gT 2 (gsC (gN 3) (gsC (gN 4) gsN))) (vaBody CN)) (sRet (dVar 1)) := rfl
noncomputable def laBody : Fs := (sSeq (sIf (dTest (dBin oNe (dCall 2 F_lkind (dCons (dVar 0) (dCons (dVar 1) dNil))) (dC (.str "pair")))) (sRet (dVar 3)) sNx)
  (sAsg (gN 1) (dBin oSub2 (dBin oSub2 (dVar 0) (dBin oSub2 (dVar 1) (dC (.int 1)))) (dVar 4))))
theorem la_form : g__law_at F_lkind = sSeq (sFor (iEnu (dCons (dVar 2) dNil)) (gT 2 (gsC (gN 3) (gsC (gN 4) gsN))) laBody) (sRet (dLst (dCons (dVar 1) dNil))) := rfl
theorem kname_dec (k : Kd) (h : k = .pair) : decide (kname k = "pair") = true := by rw [kname_pair]; exact decide_eq_true h
theorem kname_dec2 (k : Kd) (h : ¬ k = .pair) : decide (kname k = "pair") = false := by rw [kname_pair]; exact decide_eq_false h
/-- one step -/
theorem step_at {v x : Vl} {s : Nat} (h : ch S s v = some x) : ∃ t i, v = .th t ∧ atI (S.map td) (t : Int) = some (.tup i) ∧ atI i (s : Int) = some (vd x) := by
  cases v with
  | th t =>
    simp only [ch] at h
    split at h
    · rename_i a b hx
      refine ⟨t, [.str "pair", vd a, vd b], rfl, by rw [at_store hx]; rfl, ?_⟩
      split at h
      · rename_i e; subst e; cases h; rfl
      · split at h
        · rename_i e; subst e; cases h; rfl
        · cases h
    · cases h
  | _ => cases h
theorem ch_ok (hS : SOk S) {v x : Vl} {s : Nat} (h : ch S s v = some x) : vok S.length x := go_ok hS [s] v x (by
  cases v with
  | th t =>
    simp only [ch] at h
    split at h
    · rename_i a b hx; exact (List.getElem?_eq_some_iff.mp hx).1
    · cases h
  | _ => cases h) (by simp [go, h])
theorem va_loop (hS : SOk S) : ∀ (r : List Nat) (k : Nat) (v : Vl) (x2 x3 x4 : Option D) (C : CH), (∀ s ∈ r, s = 1 ∨ s = 2) → vok S.length v → ∃ y3 y4 y1,
    fr (fun _ => True) (gT 2 (gsC (gN 3) (gsC (gN 4) gsN))) (vaBody CN) (enumD k (nats r)) [some (sd S), some (vd v), x2, x3, x4] C = match tell S v r k with
      | .inl z => .nx [some (sd S), some (vd z), x2, y3, y4] C
      | .inr j => .ex ⟨CN, [("number", .int j)]⟩ [some (sd S), y1, x2, y3, y4] C
  | [], k, v, x2, x3, x4, C, _, _ => ⟨x3, x4, none, by rw [nats, List.map_nil, enumD, fr_nil]; rfl⟩
  | s :: r, k, v, x2, x3, x4, C, hr, hv => by
    have hs := hr s List.mem_cons_self
    have k1 := kind_ok hv C
    cases hc : ch S s v with
    | some x =>
      obtain ⟨t, i, rfl, a1, a2⟩ := step_at hc
      have hp : kd S (.th t) = .pair := (kd_ch hs).mpr (by rw [hc]; rfl)
      obtain ⟨y3, y4, y1, e⟩ := va_loop hS r (k + 1) x x2 (some (.int k)) (some (.int s)) C (fun z hz => hr z (List.mem_cons_of_mem _ hz)) (ch_ok hS hc)
      refine ⟨y3, y4, y1, ?_⟩
      rw [tell, hc]
      rw [← e, nats, List.map_cons, enumD]
      refine fr_nx (sc1 := [some (sd S), some (vd (.th t)), x2, some (.int k), some (.int s)]) rfl ?_
      have kk := kname_dec _ hp
      simp only [vd_th, sd] at k1 ⊢
      simp only [fnBody, startD, sSeq, sIf, sAsg, sPut, sRet, sRetN, sDrop, sNx, sPar, sFor, dTest, dBin, dVar, dC, dCB, dCons, dNil, dTup, dLst, dSl, dPN, dPS, dRev, revO, dBM, isLst, dIf, dAnd, dOr, dNot, dTru, truB, dCall, dNeg, dNewK, dNewT, gN, gT, gsN, gsC, iR1, iR2, iSeq, srcOf, itemsOf, List.map_cons, List.map_nil, List.length_cons, List.length_nil, Nat.reduceAdd, Nat.reduceSub, Nat.reduceLeDiff, List.replicate_succ, List.replicate_zero, List.cons_append, List.nil_append, List.getElem?_cons_zero, List.getElem?_cons_succ, List.set_cons_zero, List.set_cons_succ, Res.bind_ok, Res.st_ok, Option.map_some, Option.bind_some, Res.lift_some, oAdd_i, oSub_i, oLt_i, oLe_i, oGt_i, oGe_i, oEq_i, oNe_i, oEq_s, oNe_s, if_true, if_false, reduceIte, Bool.false_eq_true, gInt, gLen2, gLen, Cl.gTup, gList, optS_some, SOut.seq_nx, SOut.seq_rt, SOut.seq_bk, SOut.seq_ct, bodyOut, atI_0, atI_1, atI_2, atI_3, atI_4, atI_5, oSub2_tup, oSub2_fl, Option.orElse_some, g2I, decide_true, decide_false, slO, dDct, dPairs, keyed, Int.reduceAdd, Int.reduceMul, vaBody, k1, kk, Bool.not_true, a1, a2]
    | none =>
      have hp : ¬ kd S v = .pair := fun z => by have := (kd_ch (S := S) hs).mp z; rw [hc] at this; cases this
      refine ⟨some (.int k), some (.int s), some (vd v), ?_⟩
      rw [tell, hc, nats, List.map_cons, enumD, fr, if_pos trivial]
      have kk := kname_dec2 _ hp
      have e1 : vaBody CN [some (sd S), some (vd v), x2, some (.int k), some (.int s)] C = .ex ⟨CN, [("number", .int k)]⟩ [some (sd S), some (vd v), x2, some (.int k), some (.int s)] C := by
        simp only [fnBody, startD, sSeq, sIf, sAsg, sPut, sRet, sRetN, sDrop, sNx, sPar, sFor, dTest, dBin, dVar, dC, dCB, dCons, dNil, dTup, dLst, dSl, dPN, dPS, dRev, revO, dBM, isLst, dIf, dAnd, dOr, dNot, dTru, truB, dCall, dNeg, dNewK, dNewT, gN, gT, gsN, gsC, iR1, iR2, iSeq, srcOf, itemsOf, List.map_cons, List.map_nil, List.length_cons, List.length_nil, Nat.reduceAdd, Nat.reduceSub, Nat.reduceLeDiff, List.replicate_succ, List.replicate_zero, List.cons_append, List.nil_append, List.getElem?_cons_zero, List.getElem?_cons_succ, List.set_cons_zero, List.set_cons_succ, Res.bind_ok, Res.st_ok, Option.map_some, Option.bind_some, Res.lift_some, oAdd_i, oSub_i, oLt_i, oLe_i, oGt_i, oGe_i, oEq_i, oNe_i, oEq_s, oNe_s, if_true, if_false, reduceIte, Bool.false_eq_true, gInt, gLen2, gLen, Cl.gTup, gList, optS_some, SOut.seq_nx, SOut.seq_rt, SOut.seq_bk, SOut.seq_ct, bodyOut, atI_0, atI_1, atI_2, atI_3, atI_4, atI_5, oSub2_tup, oSub2_fl, Option.orElse_some, g2I, decide_true, decide_false, slO, dDct, dPairs, keyed, Int.reduceAdd, Int.reduceMul, vaBody, k1, kk, Bool.not_false, sRaise, rsO, ne_eq, reduceCtorEq, not_false_eq_true, and_self, SOut.seq_ex, List.zip_cons_cons, List.zip_nil_right, List.reverse_cons, List.reverse_nil]
      simp only [fnBody, startD, sSeq, sIf, sAsg, sPut, sRet, sRetN, sDrop, sNx, sPar, sFor, dTest, dBin, dVar, dC, dCB, dCons, dNil, dTup, dLst, dSl, dPN, dPS, dRev, revO, dBM, isLst, dIf, dAnd, dOr, dNot, dTru, truB, dCall, dNeg, dNewK, dNewT, gN, gT, gsN, gsC, iR1, iR2, iSeq, srcOf, itemsOf, List.map_cons, List.map_nil, List.length_cons, List.length_nil, Nat.reduceAdd, Nat.reduceSub, Nat.reduceLeDiff, List.replicate_succ, List.replicate_zero, List.cons_append, List.nil_append, List.getElem?_cons_zero, List.getElem?_cons_succ, List.set_cons_zero, List.set_cons_succ, Res.bind_ok, Res.st_ok, Option.map_some, Option.bind_some, Res.lift_some, oAdd_i, oSub_i, oLt_i, oLe_i, oGt_i, oGe_i, oEq_i, oNe_i, oEq_s, oNe_s, if_true, if_false, reduceIte, Bool.false_eq_true, gInt, gLen2, gLen, Cl.gTup, gList, optS_some, SOut.seq_nx, SOut.seq_rt, SOut.seq_bk, SOut.seq_ct, bodyOut, atI_0, atI_1, atI_2, atI_3, atI_4, atI_5, oSub2_tup, oSub2_fl, Option.orElse_some, g2I, decide_true, decide_false, slO, dDct, dPairs, keyed, Int.reduceAdd, Int.reduceMul]
      rw [e1]
theorem la_loop (hS : SOk S) : ∀ (r : List Nat) (k : Nat) (v : Vl) (x2 x3 x4 : Option D) (C : CH), (∀ s ∈ r, s = 1 ∨ s = 2) → vok S.length v → ∃ y3 y4,
    fr (fun _ => True) (gT 2 (gsC (gN 3) (gsC (gN 4) gsN))) laBody (enumD k (nats r)) [some (sd S), some (vd v), x2, x3, x4] C = match tell S v r k with
      | .inl z => .nx [some (sd S), some (vd z), x2, y3, y4] C
      | .inr j => .rt (.int j) C
  | [], k, v, x2, x3, x4, C, _, _ => ⟨x3, x4, by rw [nats, List.map_nil, enumD, fr_nil]; rfl⟩
  | s :: r, k, v, x2, x3, x4, C, hr, hv => by
    have hs := hr s List.mem_cons_self
    have k1 := lkind_ok hv C
    cases hc : ch S s v with
    | some x =>
      obtain ⟨t, i, rfl, a1, a2⟩ := step_at hc
      have hp : kd S (.th t) = .pair := (kd_ch hs).mpr (by rw [hc]; rfl)
      obtain ⟨y3, y4, e⟩ := la_loop hS r (k + 1) x x2 (some (.int k)) (some (.int s)) C (fun z hz => hr z (List.mem_cons_of_mem _ hz)) (ch_ok hS hc)
      refine ⟨y3, y4, ?_⟩
      rw [tell, hc]
      rw [← e, nats, List.map_cons, enumD]
      refine fr_nx (sc1 := [some (sd S), some (vd (.th t)), x2, some (.int k), some (.int s)]) rfl ?_
      have kk := kname_dec _ hp
      simp only [vd_th, sd] at k1 ⊢
      simp only [fnBody, startD, sSeq, sIf, sAsg, sPut, sRet, sRetN, sDrop, sNx, sPar, sFor, dTest, dBin, dVar, dC, dCB, dCons, dNil, dTup, dLst, dSl, dPN, dPS, dRev, revO, dBM, isLst, dIf, dAnd, dOr, dNot, dTru, truB, dCall, dNeg, dNewK, dNewT, gN, gT, gsN, gsC, iR1, iR2, iSeq, srcOf, itemsOf, List.map_cons, List.map_nil, List.length_cons, List.length_nil, Nat.reduceAdd, Nat.reduceSub, Nat.reduceLeDiff, List.replicate_succ, List.replicate_zero, List.cons_append, List.nil_append, List.getElem?_cons_zero, List.getElem?_cons_succ, List.set_cons_zero, List.set_cons_succ, Res.bind_ok, Res.st_ok, Option.map_some, Option.bind_some, Res.lift_some, oAdd_i, oSub_i, oLt_i, oLe_i, oGt_i, oGe_i, oEq_i, oNe_i, oEq_s, oNe_s, if_true, if_false, reduceIte, Bool.false_eq_true, gInt, gLen2, gLen, Cl.gTup, gList, optS_some, SOut.seq_nx, SOut.seq_rt, SOut.seq_bk, SOut.seq_ct, bodyOut, atI_0, atI_1, atI_2, atI_3, atI_4, atI_5, oSub2_tup, oSub2_fl, Option.orElse_some, g2I, decide_true, decide_false, slO, dDct, dPairs, keyed, Int.reduceAdd, Int.reduceMul, laBody, k1, kk, Bool.not_true, a1, a2]
    | none =>
      have hp : ¬ kd S v = .pair := fun z => by have := (kd_ch (S := S) hs).mp z; rw [hc] at this; cases this
      refine ⟨some (.int k), some (.int s), ?_⟩
      rw [tell, hc, nats, List.map_cons, enumD]
      refine fr_rt (sc1 := [some (sd S), some (vd v), x2, some (.int k), some (.int s)]) rfl ?_
      have kk := kname_dec2 _ hp
      simp only [fnBody, startD, sSeq, sIf, sAsg, sPut, sRet, sRetN, sDrop, sNx, sPar, sFor, dTest, dBin, dVar, dC, dCB, dCons, dNil, dTup, dLst, dSl, dPN, dPS, dRev, revO, dBM, isLst, dIf, dAnd, dOr, dNot, dTru, truB, dCall, dNeg, dNewK, dNewT, gN, gT, gsN, gsC, iR1, iR2, iSeq, srcOf, itemsOf, List.map_cons, List.map_nil, List.length_cons, List.length_nil, Nat.reduceAdd, Nat.reduceSub, Nat.reduceLeDiff, List.replicate_succ, List.replicate_zero, List.cons_append, List.nil_append, List.getElem?_cons_zero, List.getElem?_cons_succ, List.set_cons_zero, List.set_cons_succ, Res.bind_ok, Res.st_ok, Option.map_some, Option.bind_some, Res.lift_some, oAdd_i, oSub_i, oLt_i, oLe_i, oGt_i, oGe_i, oEq_i, oNe_i, oEq_s, oNe_s, if_true, if_false, reduceIte, Bool.false_eq_true, gInt, gLen2, gLen, Cl.gTup, gList, optS_some, SOut.seq_nx, SOut.seq_rt, SOut.seq_bk, SOut.seq_ct, bodyOut, atI_0, atI_1, atI_2, atI_3, atI_4, atI_5, oSub2_tup, oSub2_fl, Option.orElse_some, g2I, decide_true, decide_false, slO, dDct, dPairs, keyed, Int.reduceAdd, Int.reduceMul, laBody, k1, kk, Bool.not_false]
noncomputable def F_va (CN : Addr) : List D → CH → Res D := fnBody 5 (g_value_at CN F_kind)
theorem va_ok (hS : SOk S) {v : Vl} {r : List Nat} (hr : ∀ s ∈ r, s = 1 ∨ s = 2) (hv : vok S.length v) (C : CH) : F_va CN [sd S, vd v, .tup (nats r)] C = match tell S v r 0 with
    | .inl z => .ok (vd z) C
    | .inr j => .ex ⟨CN, [("number", .int j)]⟩ C := by
  obtain ⟨y3, y4, y1, e⟩ := va_loop (CN := CN) hS r 0 v (some (.tup (nats r))) none none C hr hv
  unfold F_va
  rw [va_form]
  cases ht : tell S v r 0 with
  | inl z =>
    rw [ht] at e
    simp only [fnBody, startD, sSeq, sIf, sAsg, sPut, sRet, sRetN, sDrop, sNx, sPar, sFor, dTest, dBin, dVar, dC, dCB, dCons, dNil, dTup, dLst, dSl, dPN, dPS, dRev, revO, dBM, isLst, dIf, dAnd, dOr, dNot, dTru, truB, dCall, dNeg, dNewK, dNewT, gN, gT, gsN, gsC, iR1, iR2, iSeq, srcOf, itemsOf, List.map_cons, List.map_nil, List.length_cons, List.length_nil, Nat.reduceAdd, Nat.reduceSub, Nat.reduceLeDiff, List.replicate_succ, List.replicate_zero, List.cons_append, List.nil_append, List.getElem?_cons_zero, List.getElem?_cons_succ, List.set_cons_zero, List.set_cons_succ, Res.bind_ok, Res.st_ok, Option.map_some, Option.bind_some, Res.lift_some, oAdd_i, oSub_i, oLt_i, oLe_i, oGt_i, oGe_i, oEq_i, oNe_i, oEq_s, oNe_s, if_true, if_false, reduceIte, Bool.false_eq_true, gInt, gLen2, gLen, Cl.gTup, gList, optS_some, SOut.seq_nx, SOut.seq_rt, SOut.seq_bk, SOut.seq_ct, bodyOut, atI_0, atI_1, atI_2, atI_3, atI_4, atI_5, oSub2_tup, oSub2_fl, Option.orElse_some, g2I, decide_true, decide_false, slO, dDct, dPairs, keyed, Int.reduceAdd, Int.reduceMul, iEnu, enuO, e]
  | inr j =>
    rw [ht] at e
    simp only [fnBody, startD, sSeq, sIf, sAsg, sPut, sRet, sRetN, sDrop, sNx, sPar, sFor, dTest, dBin, dVar, dC, dCB, dCons, dNil, dTup, dLst, dSl, dPN, dPS, dRev, revO, dBM, isLst, dIf, dAnd, dOr, dNot, dTru, truB, dCall, dNeg, dNewK, dNewT, gN, gT, gsN, gsC, iR1, iR2, iSeq, srcOf, itemsOf, List.map_cons, List.map_nil, List.length_cons, List.length_nil, Nat.reduceAdd, Nat.reduceSub, Nat.reduceLeDiff, List.replicate_succ, List.replicate_zero, List.cons_append, List.nil_append, List.getElem?_cons_zero, List.getElem?_cons_succ, List.set_cons_zero, List.set_cons_succ, Res.bind_ok, Res.st_ok, Option.map_some, Option.bind_some, Res.lift_some, oAdd_i, oSub_i, oLt_i, oLe_i, oGt_i, oGe_i, oEq_i, oNe_i, oEq_s, oNe_s, if_true, if_false, reduceIte, Bool.false_eq_true, gInt, gLen2, gLen, Cl.gTup, gList, optS_some, SOut.seq_nx, SOut.seq_rt, SOut.seq_bk, SOut.seq_ct, bodyOut, atI_0, atI_1, atI_2, atI_3, atI_4, atI_5, oSub2_tup, oSub2_fl, Option.orElse_some, g2I, decide_true, decide_false, slO, dDct, dPairs, keyed, Int.reduceAdd, Int.reduceMul, iEnu, enuO, e, SOut.seq_ex]
noncomputable def F_la : List D → CH → Res D := fnBody 5 (g__law_at F_lkind)
/-- what both tell -/
def tolD (C : CH) : Vl ⊕ Nat → Res D
  | .inl z => .ok (.ref C.length) (C ++ [.lst [vd z]])
  | .inr j => .ok (.int j) C
theorem la_ok (hS : SOk S) {v : Vl} {r : List Nat} (hr : ∀ s ∈ r, s = 1 ∨ s = 2) (hv : vok S.length v) (C : CH) : F_la [sd S, vd v, .tup (nats r)] C = tolD C (tell S v r 0) := by
  obtain ⟨y3, y4, e⟩ := la_loop hS r 0 v (some (.tup (nats r))) none none C hr hv
  have le1 : 1 ≤ 1000 := by decide
  unfold F_la
  rw [la_form]
  cases ht : tell S v r 0 with
  | inl z =>
    rw [ht] at e
    simp only [fnBody, startD, sSeq, sIf, sAsg, sPut, sRet, sRetN, sDrop, sNx, sPar, sFor, dTest, dBin, dVar, dC, dCB, dCons, dNil, dTup, dLst, dSl, dPN, dPS, dRev, revO, dBM, isLst, dIf, dAnd, dOr, dNot, dTru, truB, dCall, dNeg, dNewK, dNewT, gN, gT, gsN, gsC, iR1, iR2, iSeq, srcOf, itemsOf, List.map_cons, List.map_nil, List.length_cons, List.length_nil, Nat.reduceAdd, Nat.reduceSub, Nat.reduceLeDiff, List.replicate_succ, List.replicate_zero, List.cons_append, List.nil_append, List.getElem?_cons_zero, List.getElem?_cons_succ, List.set_cons_zero, List.set_cons_succ, Res.bind_ok, Res.st_ok, Option.map_some, Option.bind_some, Res.lift_some, oAdd_i, oSub_i, oLt_i, oLe_i, oGt_i, oGe_i, oEq_i, oNe_i, oEq_s, oNe_s, if_true, if_false, reduceIte, Bool.false_eq_true, gInt, gLen2, gLen, Cl.gTup, gList, optS_some, SOut.seq_nx, SOut.seq_rt, SOut.seq_bk, SOut.seq_ct, bodyOut, atI_0, atI_1, atI_2, atI_3, atI_4, atI_5, oSub2_tup, oSub2_fl, Option.orElse_some, g2I, decide_true, decide_false, slO, dDct, dPairs, keyed, Int.reduceAdd, Int.reduceMul, iEnu, enuO, e, le1, tolD]
  | inr j =>
    rw [ht] at e
    simp only [fnBody, startD, sSeq, sIf, sAsg, sPut, sRet, sRetN, sDrop, sNx, sPar, sFor, dTest, dBin, dVar, dC, dCB, dCons, dNil, dTup, dLst, dSl, dPN, dPS, dRev, revO, dBM, isLst, dIf, dAnd, dOr, dNot, dTru, truB, dCall, dNeg, dNewK, dNewT, gN, gT, gsN, gsC, iR1, iR2, iSeq, srcOf, itemsOf, List.map_cons, List.map_nil, List.length_cons, List.length_nil, Nat.reduceAdd, Nat.reduceSub, Nat.reduceLeDiff, List.replicate_succ, List.replicate_zero, List.cons_append, List.nil_append, List.getElem?_cons_zero, List.getElem?_cons_succ, List.set_cons_zero, List.set_cons_succ, Res.bind_ok, Res.st_ok, Option.map_some, Option.bind_some, Res.lift_some, oAdd_i, oSub_i, oLt_i, oLe_i, oGt_i, oGe_i, oEq_i, oNe_i, oEq_s, oNe_s, if_true, if_false, reduceIte, Bool.false_eq_true, gInt, gLen2, gLen, Cl.gTup, gList, optS_some, SOut.seq_nx, SOut.seq_rt, SOut.seq_bk, SOut.seq_ct, bodyOut, atI_0, atI_1, atI_2, atI_3, atI_4, atI_5, oSub2_tup, oSub2_fl, Option.orElse_some, g2I, decide_true, decide_false, slO, dDct, dPairs, keyed, Int.reduceAdd, Int.reduceMul, iEnu, enuO, e, tolD]
noncomputable def F_told (CN : Addr) : List D → CH → Res D := fnBody 5 (g__law_told_at CN (F_va CN))
theorem told_ok (hS : SOk S) {v : Vl} {r : List Nat} (hr : ∀ s ∈ r, s = 1 ∨ s = 2) (hv : vok S.length v) (C : CH) : F_told CN [sd S, vd v, .tup (nats r)] C = tolD C (tell S v r 0) := by
  have e := va_ok (CN := CN) hS hr hv C
  have le1 : 1 ≤ 1000 := by decide
  unfold F_told
  cases ht : tell S v r 0 with
  | inl z =>
    rw [ht] at e
    simp only [fnBody, startD, sSeq, sIf, sAsg, sPut, sRet, sRetN, sDrop, sNx, sPar, sFor, dTest, dBin, dVar, dC, dCB, dCons, dNil, dTup, dLst, dSl, dPN, dPS, dRev, revO, dBM, isLst, dIf, dAnd, dOr, dNot, dTru, truB, dCall, dNeg, dNewK, dNewT, gN, gT, gsN, gsC, iR1, iR2, iSeq, srcOf, itemsOf, List.map_cons, List.map_nil, List.length_cons, List.length_nil, Nat.reduceAdd, Nat.reduceSub, Nat.reduceLeDiff, List.replicate_succ, List.replicate_zero, List.cons_append, List.nil_append, List.getElem?_cons_zero, List.getElem?_cons_succ, List.set_cons_zero, List.set_cons_succ, Res.bind_ok, Res.st_ok, Option.map_some, Option.bind_some, Res.lift_some, oAdd_i, oSub_i, oLt_i, oLe_i, oGt_i, oGe_i, oEq_i, oNe_i, oEq_s, oNe_s, if_true, if_false, reduceIte, Bool.false_eq_true, gInt, gLen2, gLen, Cl.gTup, gList, optS_some, SOut.seq_nx, SOut.seq_rt, SOut.seq_bk, SOut.seq_ct, bodyOut, atI_0, atI_1, atI_2, atI_3, atI_4, atI_5, oSub2_tup, oSub2_fl, Option.orElse_some, g2I, decide_true, decide_false, slO, dDct, dPairs, keyed, Int.reduceAdd, Int.reduceMul, g__law_told_at, sTryAs, e, le1, tolD]
  | inr j =>
    rw [ht] at e
    have lk2 : List.lookup ("number" : Str) [(("number" : Str), D.int j)] = some (.int j) := by
      rw [List.lookup_cons, beq_self_eq_true]
    have ne : ¬ ([(("number" : Str), D.int j)] : List (Str × D)) = [] := by intro z; cases z
    simp only [fnBody, startD, sSeq, sIf, sAsg, sPut, sRet, sRetN, sDrop, sNx, sPar, sFor, dTest, dBin, dVar, dC, dCB, dCons, dNil, dTup, dLst, dSl, dPN, dPS, dRev, revO, dBM, isLst, dIf, dAnd, dOr, dNot, dTru, truB, dCall, dNeg, dNewK, dNewT, gN, gT, gsN, gsC, iR1, iR2, iSeq, srcOf, itemsOf, List.map_cons, List.map_nil, List.length_cons, List.length_nil, Nat.reduceAdd, Nat.reduceSub, Nat.reduceLeDiff, List.replicate_succ, List.replicate_zero, List.cons_append, List.nil_append, List.getElem?_cons_zero, List.getElem?_cons_succ, List.set_cons_zero, List.set_cons_succ, Res.bind_ok, Res.st_ok, Option.map_some, Option.bind_some, Res.lift_some, oAdd_i, oSub_i, oLt_i, oLe_i, oGt_i, oGe_i, oEq_i, oNe_i, oEq_s, oNe_s, if_true, if_false, reduceIte, Bool.false_eq_true, gInt, gLen2, gLen, Cl.gTup, gList, optS_some, SOut.seq_nx, SOut.seq_rt, SOut.seq_bk, SOut.seq_ct, bodyOut, atI_0, atI_1, atI_2, atI_3, atI_4, atI_5, oSub2_tup, oSub2_fl, Option.orElse_some, g2I, decide_true, decide_false, slO, dDct, dPairs, keyed, Int.reduceAdd, Int.reduceMul, g__law_told_at, sTryAs, e, Res.bind_ex, Res.st_ex, ne, slotX, dXf, xfO, and_self, List.zip_cons_cons, List.zip_nil_right, lk2, postX, allA_c, tolD]
end
end Lw
set_option maxHeartbeats 4000000
namespace Lw
open PySem Cl L2
theorem oMul2_i {i j : Int} (C : CH) (h : bMul i j = true) : oMul2 (.int i) (.int j) C = some (.int (i * j), C) := by
  unfold oMul2 orO
  rw [oMul_i C h]
  rfl

/-! ### draws -/
def mD (l s : Int) (c : Nat) (p : Int) : List (Key × D) := [(.inr "left", .int l), (.inr "seed", .int s), (.inr "cells", .ref c), (.inr "spot", .int p), (.inr "next", .int 0)]
theorem mD_left (l s : Int) (c : Nat) (p : Int) : valD (mD l s c p) (.inr "left") = some (.int l) := rfl
theorem mD_seed (l s : Int) (c : Nat) (p : Int) : valD (mD l s c p) (.inr "seed") = some (.int s) := rfl
theorem mD_cells (l s : Int) (c : Nat) (p : Int) : valD (mD l s c p) (.inr "cells") = some (.ref c) := rfl
theorem mD_spot (l s : Int) (c : Nat) (p : Int) : valD (mD l s c p) (.inr "spot") = some (.int p) := rfl
theorem mD_put_left (l s : Int) (c : Nat) (p x : Int) : putD (mD l s c p) (.inr "left") (.int x) = mD x s c p := rfl
theorem mD_put_spot (l s : Int) (c : Nat) (p x : Int) : putD (mD l s c p) (.inr "spot") (.int x) = mD l s c x := rfl
theorem mD_len (l s : Int) (c : Nat) (p : Int) : (mD l s c p).length ≤ 1000000 := by show 5 ≤ 1000000; decide
theorem kS (x : Str) : keyOf (.str x) = some (.inr x) := rfl
theorem setO_m {C : CH} {r : Nat} {kvs : List (Key × D)} (h : C[r]? = some (.dK kvs)) (hz : kvs.length ≤ 1000000) {i v : D} {k : Key} (hk : keyOf i = some k) : setO (.ref r) i v C = some (C.set r (.dK (putD kvs k v))) := by
  simp only [setO, h, if_pos hz, hk, Option.map_some]
section
variable {C : CH} {r c : Nat} {l s p b : Int}
theorem draw_left (hC : C[r]? = some (.dK (mD l s c p))) (hl : 0 < l) (hb : 0 < b) (hb2 : b < 1073741824) : fnBody 8 g__law_draw [.ref r, .int b] C = .ok (.int (l % b)) (C.set r (.dK (mD (l / b) s c p))) := by
  have hd : bDiv l b = true := bD _ _ hb hb2
  have g1 := oSub2_dK hC (kS "left")
  have s1 : ∀ v, setO (.ref r) (.str "left") v C = _ := fun v => setO_m hC (mD_len _ _ _ _) (kS "left")
  simp only [fnBody, startD, sSeq, sIf, sAsg, sPut, sRet, sRetN, sDrop, sNx, sPar, sFor, dTest, dBin, dVar, dC, dCB, dCons, dNil, dTup, dLst, dSl, dPN, dPS, dRev, revO, dBM, isLst, dIf, dAnd, dOr, dNot, dTru, truB, dCall, dNeg, dNewK, dNewT, gN, gT, gsN, gsC, iR1, iR2, iSeq, srcOf, itemsOf, List.map_cons, List.map_nil, List.length_cons, List.length_nil, Nat.reduceAdd, Nat.reduceSub, Nat.reduceLeDiff, List.replicate_succ, List.replicate_zero, List.cons_append, List.nil_append, List.getElem?_cons_zero, List.getElem?_cons_succ, List.set_cons_zero, List.set_cons_succ, Res.bind_ok, Res.st_ok, Option.map_some, Option.bind_some, Res.lift_some, oAdd_i, oSub_i, oLt_i, oLe_i, oGt_i, oGe_i, oEq_i, oNe_i, oEq_s, oNe_s, if_true, if_false, reduceIte, Bool.false_eq_true, gInt, gLen2, gLen, Cl.gTup, gList, optS_some, SOut.seq_nx, SOut.seq_rt, SOut.seq_bk, SOut.seq_ct, bodyOut, atI_0, atI_1, atI_2, atI_3, atI_4, atI_5, oSub2_tup, oSub2_fl, Option.orElse_some, g2I, decide_true, decide_false, slO, dDct, dPairs, keyed, Int.reduceAdd, Int.reduceMul, g__law_draw, g1, mD_left, decide_eq_true hl, oMod_i _ hb, oDiv_i _ hd, s1, mD_put_left]
def mix (s p z b : Int) : Int := ((((z * (2 * p + 3) + (s + 40503 * p * p)) % 2147483647 * ((z * (2 * p + 3) + (s + 40503 * p * p)) % 2147483647) + 69621 * p + s) % 2147483629 * 48271 + p) % 2147483647 / 11) % b
theorem draw_mix {cl : List D} {z : Int} (hC : C[r]? = some (.dK (mD l s c p))) (hc : C[c]? = some (.lst cl)) (hl : ¬ 0 < l) (hb : 0 < b) (h0 : 0 ≤ p) (hp : p < 1152921504606846976) (hz : atI cl (p % cl.length) = some (.int z)) :
    fnBody 8 g__law_draw [.ref r, .int b] C = .ok (.int (mix s p z b)) (C.set r (.dK (mD l s c (p + 1)))) := by
  have rl : r < C.length := (List.getElem?_eq_some_iff.mp hC).1
  have g1 := oSub2_dK hC (kS "left")
  have g2 := oSub2_dK hC (kS "spot")
  have s1 : ∀ v, setO (.ref r) (.str "spot") v C = _ := fun v => setO_m hC (mD_len _ _ _ _) (kS "spot")
  have hC2 : (C.set r (.dK (mD l s c (p + 1))))[r]? = some (.dK (mD l s c (p + 1))) := List.getElem?_set_self rl
  have g3 := oSub2_dK hC2 (kS "cells")
  have g4 := oSub2_dK hC2 (kS "seed")
  have rc : r ≠ c := by
    intro e
    subst e
    rw [hC] at hc
    cases hc
  have hc2 : (C.set r (.dK (mD l s c (p + 1))))[c]? = some (.lst cl) := by rw [List.getElem?_set_ne rc]; exact hc
  have hlen : 0 < (cl.length : Int) := by
    cases cl with
    | nil => simp [atI, ixN] at hz
    | cons x xs => simp
  have g5 := oSub2_lst hc2 (p % cl.length)
  have b1 : bMul 40503 p = true := bM _ _ (by decide) (by decide)
  have b2 : bMul (40503 * p) p = true := bM2 _ _ (by omega) (by omega)
  have b3 : bMul 2 p = true := bM _ _ (by decide) (by decide)
  have b4 : bMul z (2 * p + 3) = true := bM2 _ _ (by omega) (by omega)
  have m1 : (0 : Int) < 2147483647 := by decide
  have m2 : (0 : Int) < 2147483629 := by decide
  have m3 := Int.emod_nonneg (z * (2 * p + 3) + (s + 40503 * p * p)) (b := 2147483647) (by decide)
  have m4 := Int.emod_lt_of_pos (z * (2 * p + 3) + (s + 40503 * p * p)) m1
  have b5 : bMul ((z * (2 * p + 3) + (s + 40503 * p * p)) % 2147483647) ((z * (2 * p + 3) + (s + 40503 * p * p)) % 2147483647) = true := bM _ _ (by omega) (by omega)
  have b6 : bMul 69621 p = true := bM _ _ (by decide) (by decide)
  have b7 : bMul ((((z * (2 * p + 3) + (s + 40503 * p * p)) % 2147483647) * ((z * (2 * p + 3) + (s + 40503 * p * p)) % 2147483647) + 69621 * p + s) % 2147483629) 48271 = true := bM2 _ _ (by decide) (by decide)
  have d1 : ∀ x, bDiv x 11 = true := fun x => bD _ _ (by decide) (by decide)
  simp only [fnBody, startD, sSeq, sIf, sAsg, sPut, sRet, sRetN, sDrop, sNx, sPar, sFor, dTest, dBin, dVar, dC, dCB, dCons, dNil, dTup, dLst, dSl, dPN, dPS, dRev, revO, dBM, isLst, dIf, dAnd, dOr, dNot, dTru, truB, dCall, dNeg, dNewK, dNewT, gN, gT, gsN, gsC, iR1, iR2, iSeq, srcOf, itemsOf, List.map_cons, List.map_nil, List.length_cons, List.length_nil, Nat.reduceAdd, Nat.reduceSub, Nat.reduceLeDiff, List.replicate_succ, List.replicate_zero, List.cons_append, List.nil_append, List.getElem?_cons_zero, List.getElem?_cons_succ, List.set_cons_zero, List.set_cons_succ, Res.bind_ok, Res.st_ok, Option.map_some, Option.bind_some, Res.lift_some, oAdd_i, oSub_i, oLt_i, oLe_i, oGt_i, oGe_i, oEq_i, oNe_i, oEq_s, oNe_s, if_true, if_false, reduceIte, Bool.false_eq_true, gInt, gLen2, gLen, Cl.gTup, gList, optS_some, SOut.seq_nx, SOut.seq_rt, SOut.seq_bk, SOut.seq_ct, bodyOut, atI_0, atI_1, atI_2, atI_3, atI_4, atI_5, oSub2_tup, oSub2_fl, Option.orElse_some, g2I, decide_true, decide_false, slO, dDct, dPairs, keyed, Int.reduceAdd, Int.reduceMul, g__law_draw, g1, g2, mD_left, mD_spot, decide_eq_false hl, s1, mD_put_spot, g3, g4, mD_cells, mD_seed, oMul2_i _ b1, oMul2_i _ b2, oMul2_i _ b3, oMul2_i _ b4, oMul2_i _ b5, oMul2_i _ b6, oMul2_i _ b7, hc2, g5, oMod_i _ hlen, hz, oMod_i _ m1, oMod_i _ m2, oMod_i _ hb, oDiv_i _ (d1 _), mix]

end
/-! ### the draws' state, whatever it holds -/
def AllInt (cl : List D) : Prop := ∀ d ∈ cl, ∃ z, d = .int z
def MOk (C : CH) (r b : Nat) (n : Int) : Prop := ∃ l s c p cl, C[r]? = some (.dK (mD l s c p)) ∧ C[c]? = some (.lst cl) ∧ r < b ∧ c < b ∧ cl ≠ [] ∧ AllInt cl ∧ 0 ≤ p ∧ p ≤ n
theorem MOk.app {C : CH} {r b : Nat} {n : Int} (h : MOk C r b n) (o : O) : MOk (C ++ [o]) r b n := by
  obtain ⟨l, s, c, p, cl, h1, h2, r3⟩ := h
  exact ⟨l, s, c, p, cl, get_old h1, get_old h2, r3⟩
theorem MOk.mono {C : CH} {r b b' : Nat} {n n' : Int} (h : MOk C r b n) (hb : b ≤ b') (hn : n ≤ n') : MOk C r b' n' := by
  obtain ⟨l, s, c, p, cl, h1, h2, h3, h4, h5, h6, h7, h8⟩ := h
  exact ⟨l, s, c, p, cl, h1, h2, by omega, by omega, h5, h6, h7, by omega⟩
theorem MOk.wr {C : CH} {r b q : Nat} {n : Int} (h : MOk C r b n) (hq : b ≤ q) (o : O) : MOk (C.set q o) r b n := by
  obtain ⟨l, s, c, p, cl, h1, h2, h3, h4, r5⟩ := h
  exact ⟨l, s, c, p, cl, by rw [List.getElem?_set_ne (by omega)]; exact h1, by rw [List.getElem?_set_ne (by omega)]; exact h2, h3, h4, r5⟩
theorem MOk.rb {C : CH} {r b : Nat} {n : Int} (h : MOk C r b n) : r < b := by
  obtain ⟨l, s, c, p, cl, h1, h2, h3, r5⟩ := h
  exact h3
theorem MOk.lt {C : CH} {r b : Nat} {n : Int} (h : MOk C r b n) : r < C.length := by
  obtain ⟨l, s, c, p, cl, h1, r5⟩ := h
  exact (List.getElem?_eq_some_iff.mp h1).1
theorem get_wr {C : CH} {r q b : Nat} {o : O} (h : r < b) (hq : b ≤ q) : (C.set r o)[q]? = C[q]? := List.getElem?_set_ne (by omega)
theorem cell_at {cl : List D} {p : Int} (hc : cl ≠ []) (h : AllInt cl) (h0 : 0 ≤ p) : ∃ z, atI cl (p % cl.length) = some (.int z) := by
  have hl : 0 < (cl.length : Int) := by
    cases cl with
    | nil => exact absurd rfl hc
    | cons x xs => simp
  have h1 := Int.emod_nonneg p (b := cl.length) (by omega)
  have h2 := Int.emod_lt_of_pos p hl
  have e : p % cl.length = ((p % cl.length).toNat : Int) := by omega
  rw [e, atI_n]
  have h3 : (p % cl.length).toNat < cl.length := by omega
  rw [List.getElem?_eq_getElem h3]
  obtain ⟨z, hz⟩ := h _ (List.getElem_mem h3)
  exact ⟨z, by rw [hz]⟩
noncomputable def F_draw : List D → CH → Res D := fnBody 8 g__law_draw
theorem draw_ok {C : CH} {r q : Nat} {n b : Int} (h : MOk C r q n) (hn : n < 1000000) (hb : 0 < b) (hb2 : b < 1073741824) : ∃ v o, F_draw [.ref r, .int b] C = .ok (.int v) (C.set r o) ∧ 0 ≤ v ∧ v < b ∧ MOk (C.set r o) r q (n + 1) := by
  obtain ⟨l, s, c, p, cl, h1, h2, h3, h4, h5, h6, h7, h8⟩ := h
  have rl := (List.getElem?_eq_some_iff.mp h1).1
  have rc : r ≠ c := by intro e; subst e; rw [h1] at h2; cases h2
  by_cases hl : 0 < l
  · refine ⟨_, _, draw_left h1 hl hb hb2, Int.emod_nonneg _ (by omega), Int.emod_lt_of_pos _ hb, l / b, s, c, p, cl, List.getElem?_set_self rl, by rw [List.getElem?_set_ne rc]; exact h2, h3, h4, h5, h6, h7, by omega⟩
  · obtain ⟨z, hz⟩ := cell_at h5 h6 h7
    refine ⟨_, _, draw_mix h1 h2 hl hb h7 (by omega) hz, Int.emod_nonneg _ (by omega), Int.emod_lt_of_pos _ hb, l, s, c, p + 1, cl, List.getElem?_set_self rl, by rw [List.getElem?_set_ne rc]; exact h2, h3, h4, h5, h6, by omega, by omega⟩
noncomputable def F_of : List D → CH → Res D := fnBody 2 (g__law_of F_draw)
theorem of_ok {C : CH} {r b q : Nat} {n : Int} {ds : List D} (h : MOk C r b n) (hn : n < 1000000) (hq : C[q]? = some (.lst ds)) (hbq : b ≤ q) (h0 : ds ≠ []) (hl : ds.length < 1000000) :
    ∃ o x, F_of [.ref r, .ref q] C = .ok x (C.set r o) ∧ x ∈ ds ∧ MOk (C.set r o) r b (n + 1) := by
  have hp : 0 < (ds.length : Int) := by
    cases ds with
    | nil => exact absurd rfl h0
    | cons x xs => simp
  obtain ⟨v, o, e, v0, v1, m⟩ := draw_ok h hn hp (by omega)
  have hq2 : (C.set r o)[q]? = some (.lst ds) := by rw [get_wr h.rb hbq]; exact hq
  have hv : v.toNat < ds.length := by omega
  have ea : atI ds v = some ds[v.toNat] := by rw [atI_of v0]; exact List.getElem?_eq_getElem hv
  refine ⟨o, ds[v.toNat], ?_, List.getElem_mem hv, m⟩
  unfold F_of
  simp only [fnBody, startD, sSeq, sIf, sAsg, sPut, sRet, sRetN, sDrop, sNx, sPar, sFor, dTest, dBin, dVar, dC, dCB, dCons, dNil, dTup, dLst, dSl, dPN, dPS, dRev, revO, dBM, isLst, dIf, dAnd, dOr, dNot, dTru, truB, dCall, dNeg, dNewK, dNewT, gN, gT, gsN, gsC, iR1, iR2, iSeq, srcOf, itemsOf, List.map_cons, List.map_nil, List.length_cons, List.length_nil, Nat.reduceAdd, Nat.reduceSub, Nat.reduceLeDiff, List.replicate_succ, List.replicate_zero, List.cons_append, List.nil_append, List.getElem?_cons_zero, List.getElem?_cons_succ, List.set_cons_zero, List.set_cons_succ, Res.bind_ok, Res.st_ok, Option.map_some, Option.bind_some, Res.lift_some, oAdd_i, oSub_i, oLt_i, oLe_i, oGt_i, oGe_i, oEq_i, oNe_i, oEq_s, oNe_s, if_true, if_false, reduceIte, Bool.false_eq_true, gInt, gLen2, gLen, Cl.gTup, gList, optS_some, SOut.seq_nx, SOut.seq_rt, SOut.seq_bk, SOut.seq_ct, bodyOut, atI_0, atI_1, atI_2, atI_3, atI_4, atI_5, oSub2_tup, oSub2_fl, Option.orElse_some, g2I, decide_true, decide_false, slO, dDct, dPairs, keyed, Int.reduceAdd, Int.reduceMul, g__law_of, hq, e, oSub2_lst hq2, ea]
/-! ### the beginning of the draws -/
theorem intsAll (ns : List Int) : AllInt (intsD ns) := by
  intro d hd
  obtain ⟨z, _, e⟩ := List.mem_map.mp hd
  exact ⟨z, e.symm⟩
theorem cut_intsD (ns : List Int) (lo hi : Option Int) : ∃ ms, cutD (intsD ns) lo hi = intsD ms ∧ ms.length ≤ ns.length := by
  refine ⟨(ns.drop (HT.sIx (intsD ns).length 0 lo)).take (HT.sIx (intsD ns).length (intsD ns).length hi - HT.sIx (intsD ns).length 0 lo), ?_, ?_⟩
  · unfold cutD intsD
    rw [← List.map_drop, ← List.map_take]
  · rw [List.length_take, List.length_drop]; omega
noncomputable def F_begun : List D → CH → Res D := fnBody 6 g__law_begun
theorem oAdd_lst {C : CH} {n m : Nat} {xs ys : List D} (h1 : C[n]? = some (.lst xs)) (h2 : C[m]? = some (.lst ys)) (hz : xs.length + ys.length ≤ 1000000) : oAdd (.ref n) (.ref m) C = some (.ref C.length, C ++ [.lst (xs ++ ys)]) := by
  have e : ∀ g : Int → Int → D, pureO (iI (fun _ _ => true) g) (.ref n) (.ref m) C = none := fun g => rfl
  unfold oAdd orO
  rw [e]
  simp only [pureO, sAdd, tAddO, lAddO, h1, h2, if_pos hz, Option.map_none, Option.orElse_none]
theorem emod_seed (z : Int) : 0 < (2147483647 : Int) := by decide
theorem begun_ok {ns : List Int} {k : Int} (C : CH) (hl : ns.length ≤ 63) (k0 : 0 ≤ k) (k3 : k < 100) : ∃ r C', F_begun [.fl (intsD ns), .int k] C = .ok (.ref r) C' ∧ MOk C' r C'.length 0 := by
  obtain ⟨m1, e1, l1⟩ := cut_intsD ns (some k) none
  obtain ⟨m2, e2, l2⟩ := cut_intsD ns none (some k)
  have lm1 : (intsD m1).length ≤ 63 := by unfold intsD; rw [List.length_map]; omega
  have lm2 : (intsD m2).length ≤ 63 := by unfold intsD; rw [List.length_map]; omega
  -- cells
  have a1 : (C ++ [O.lst (intsD m1)] ++ [O.lst (intsD m2)])[C.length]? = some (.lst (intsD m1)) := app_get
  have a2 : (C ++ [O.lst (intsD m1)] ++ [O.lst (intsD m2)])[(C ++ [O.lst (intsD m1)]).length]? = some (.lst (intsD m2)) := get_new _ _
  have a3 := oAdd_lst a1 a2 (by omega)
  -- great
  have hlc : ∀ C0 : CH, lc (fun _ => True) (gN 5) (dTest (dBin oGe (dVar 5) (dBin oPow (dC (.int 10)) (dC (.int 18))))) (dVar 5) C0.length (wipeD [some (.fl (intsD ns)), some (.int k), some (.ref (C ++ [O.lst (intsD m1)] ++ [O.lst (intsD m2)]).length), none, none, none] [5]) (intsD ns) (C0 ++ [.lst []]) =
      some (.ref C0.length, C0 ++ [.lst ((intsD ns).filter fun d => match d with | .int z => decide (10 ^ 18 ≤ z) | _ => false)]) := by
    intro C0
    have h := lc_pure (chk := fun _ => True) (g := gN 5) (t := dTest (dBin oGe (dVar 5) (dBin oPow (dC (.int 10)) (dC (.int 18))))) (f := dVar 5) (sc := wipeD [some (.fl (intsD ns)), some (.int k), some (.ref (C ++ [O.lst (intsD m1)] ++ [O.lst (intsD m2)]).length), none, none, none] [5]) (C0 := C0)
      (bt := fun d => match d with | .int z => decide (10 ^ 18 ≤ z) | _ => false) (hd := id) (intsD ns) [] (fun _ => trivial) ?_ (by unfold intsD; rw [List.length_map]; simp; omega)
    · rw [List.map_id, List.nil_append] at h
      exact h
    · intro d hd acc
      obtain ⟨z, rfl⟩ := intsAll ns d hd
      have ep : ∀ C, oPow (.int 10) (.int 18) C = some (.int (10 ^ 18), C) := fun C => oPow_i C ⟨by decide, by decide, by decide⟩
      refine ⟨_, rfl, ?_, fun _ => ?_⟩
      · simp only [fnBody, startD, sSeq, sIf, sAsg, sPut, sRet, sRetN, sDrop, sNx, sPar, sFor, dTest, dBin, dVar, dC, dCB, dCons, dNil, dTup, dLst, dSl, dPN, dPS, dRev, revO, dBM, isLst, dIf, dAnd, dOr, dNot, dTru, truB, dCall, dNeg, dNewK, dNewT, gN, gT, gsN, gsC, iR1, iR2, iSeq, srcOf, itemsOf, List.map_cons, List.map_nil, List.length_cons, List.length_nil, Nat.reduceAdd, Nat.reduceSub, Nat.reduceLeDiff, List.replicate_succ, List.replicate_zero, List.cons_append, List.nil_append, List.getElem?_cons_zero, List.getElem?_cons_succ, List.set_cons_zero, List.set_cons_succ, Res.bind_ok, Res.st_ok, Option.map_some, Option.bind_some, Res.lift_some, oAdd_i, oSub_i, oLt_i, oLe_i, oGt_i, oGe_i, oEq_i, oNe_i, oEq_s, oNe_s, if_true, if_false, reduceIte, Bool.false_eq_true, gInt, gLen2, gLen, Cl.gTup, gList, optS_some, SOut.seq_nx, SOut.seq_rt, SOut.seq_bk, SOut.seq_ct, bodyOut, atI_0, atI_1, atI_2, atI_3, atI_4, atI_5, oSub2_tup, oSub2_fl, Option.orElse_some, g2I, decide_true, decide_false, slO, dDct, dPairs, keyed, Int.reduceAdd, Int.reduceMul, wipeD, ep]
      · simp only [fnBody, startD, sSeq, sIf, sAsg, sPut, sRet, sRetN, sDrop, sNx, sPar, sFor, dTest, dBin, dVar, dC, dCB, dCons, dNil, dTup, dLst, dSl, dPN, dPS, dRev, revO, dBM, isLst, dIf, dAnd, dOr, dNot, dTru, truB, dCall, dNeg, dNewK, dNewT, gN, gT, gsN, gsC, iR1, iR2, iSeq, srcOf, itemsOf, List.map_cons, List.map_nil, List.length_cons, List.length_nil, Nat.reduceAdd, Nat.reduceSub, Nat.reduceLeDiff, List.replicate_succ, List.replicate_zero, List.cons_append, List.nil_append, List.getElem?_cons_zero, List.getElem?_cons_succ, List.set_cons_zero, List.set_cons_succ, Res.bind_ok, Res.st_ok, Option.map_some, Option.bind_some, Res.lift_some, oAdd_i, oSub_i, oLt_i, oLe_i, oGt_i, oGe_i, oEq_i, oNe_i, oEq_s, oNe_s, if_true, if_false, reduceIte, Bool.false_eq_true, gInt, gLen2, gLen, Cl.gTup, gList, optS_some, SOut.seq_nx, SOut.seq_rt, SOut.seq_bk, SOut.seq_ct, bodyOut, atI_0, atI_1, atI_2, atI_3, atI_4, atI_5, oSub2_tup, oSub2_fl, Option.orElse_some, g2I, decide_true, decide_false, slO, dDct, dPairs, keyed, Int.reduceAdd, Int.reduceMul, wipeD, id]
  generalize hG : ((intsD ns).filter fun d => match d with | .int z => decide (10 ^ 18 ≤ z) | _ => false) = gr at hlc
  have grI : AllInt gr := by
    intro d hd
    rw [← hG] at hd
    exact intsAll ns d (List.mem_filter.mp hd).1
  have cInt : AllInt (intsD m1 ++ intsD m2) := by
    intro d hd
    rcases List.mem_append.mp hd with h | h
    · exact intsAll _ d h
    · exact intsAll _ d h
  generalize hB : C ++ [O.lst (intsD m1)] ++ [O.lst (intsD m2)] = CB at a1 a2 a3 hlc
  have hc4 : (CB ++ [O.lst (intsD m1 ++ intsD m2)] ++ [O.lst gr])[CB.length]? = some (.lst (intsD m1 ++ intsD m2)) := app_get
  have hg4 : (CB ++ [O.lst (intsD m1 ++ intsD m2)] ++ [O.lst gr])[(CB ++ [O.lst (intsD m1 ++ intsD m2)]).length]? = some (.lst gr) := get_new _ _
  -- the loop
  have hloop : ∀ z0 x0, ∃ z x, fr (fun C' => C'[CB.length]? = some (.lst (intsD m1 ++ intsD m2))) (gN 5) (sAsg (gN 4) (dBin oMod (dCB Cl.gInt (dCons (dBin oAdd (dBin oMul2 (dVar 4) (dC (.int 48271))) (dVar 5)) dNil)) (dC (.int 2147483647)))) (intsD m1 ++ intsD m2)
      [some (.fl (intsD ns)), some (.int k), some (.ref CB.length), some (.ref (CB ++ [O.lst (intsD m1 ++ intsD m2)]).length), some (.int z0), x0] (CB ++ [O.lst (intsD m1 ++ intsD m2)] ++ [O.lst gr]) =
      .nx [some (.fl (intsD ns)), some (.int k), some (.ref CB.length), some (.ref (CB ++ [O.lst (intsD m1 ++ intsD m2)]).length), some (.int z), x] (CB ++ [O.lst (intsD m1 ++ intsD m2)] ++ [O.lst gr]) := by
    intro z0 x0
    obtain ⟨sc', C', e, z, x, rfl, rfl⟩ := fr_inv (chk := fun C' => C'[CB.length]? = some (.lst (intsD m1 ++ intsD m2))) (g := gN 5) (b := sAsg (gN 4) (dBin oMod (dCB Cl.gInt (dCons (dBin oAdd (dBin oMul2 (dVar 4) (dC (.int 48271))) (dVar 5)) dNil)) (dC (.int 2147483647)))) (intsD m1 ++ intsD m2)
      (fun i sc C' => ∃ z x, sc = [some (.fl (intsD ns)), some (.int k), some (.ref CB.length), some (.ref (CB ++ [O.lst (intsD m1 ++ intsD m2)]).length), some (.int z), x] ∧ C' = CB ++ [O.lst (intsD m1 ++ intsD m2)] ++ [O.lst gr])
      _ _ ⟨z0, x0, rfl, rfl⟩ (fun i sc C' ⟨z, x, _, e⟩ => by rw [e]; exact hc4) (fun i d sc C' hd ⟨z, x, e1, e2⟩ => by
        subst e1 e2
        obtain ⟨y, rfl⟩ := cInt d (List.mem_of_getElem? hd)
        have b1 : bMul z 48271 = true := bM2 _ _ (by decide) (by decide)
        have p1 : (0 : Int) < 2147483647 := by decide
        refine ⟨_, rfl, _, _, .inl ?_, (z * 48271 + y) % 2147483647, some (.int y), rfl, rfl⟩
        simp only [fnBody, startD, sSeq, sIf, sAsg, sPut, sRet, sRetN, sDrop, sNx, sPar, sFor, dTest, dBin, dVar, dC, dCB, dCons, dNil, dTup, dLst, dSl, dPN, dPS, dRev, revO, dBM, isLst, dIf, dAnd, dOr, dNot, dTru, truB, dCall, dNeg, dNewK, dNewT, gN, gT, gsN, gsC, iR1, iR2, iSeq, srcOf, itemsOf, List.map_cons, List.map_nil, List.length_cons, List.length_nil, Nat.reduceAdd, Nat.reduceSub, Nat.reduceLeDiff, List.replicate_succ, List.replicate_zero, List.cons_append, List.nil_append, List.getElem?_cons_zero, List.getElem?_cons_succ, List.set_cons_zero, List.set_cons_succ, Res.bind_ok, Res.st_ok, Option.map_some, Option.bind_some, Res.lift_some, oAdd_i, oSub_i, oLt_i, oLe_i, oGt_i, oGe_i, oEq_i, oNe_i, oEq_s, oNe_s, if_true, if_false, reduceIte, Bool.false_eq_true, gInt, gLen2, gLen, Cl.gTup, gList, optS_some, SOut.seq_nx, SOut.seq_rt, SOut.seq_bk, SOut.seq_ct, bodyOut, atI_0, atI_1, atI_2, atI_3, atI_4, atI_5, oSub2_tup, oSub2_fl, Option.orElse_some, g2I, decide_true, decide_false, slO, dDct, dPairs, keyed, Int.reduceAdd, Int.reduceMul, oMul2_i _ b1, oMod_i _ p1])
    exact ⟨z, x, e⟩
  obtain ⟨z, x, hloop⟩ := hloop (59 + 10 * k) none
  have b0 : bMul 10 k = true := bM _ _ (by decide) (by decide)
  have b2 : bMul 43 k = true := bM _ _ (by decide) (by decide)
  -- the dict
  generalize hC4 : CB ++ [O.lst (intsD m1 ++ intsD m2)] ++ [O.lst gr] = C4 at *
  have hg5 := get_old (o := .dK []) hg4
  have hleft : ∃ l : Int, (if decide (k < (gr.length : Int)) = true then Res.lift (oSub2 (.ref (CB ++ [O.lst (intsD m1 ++ intsD m2)]).length) (.int k) (C4 ++ [.dK []])) else .ok (.int 0) (C4 ++ [.dK []])) = .ok (.int l) (C4 ++ [.dK []]) := by
    by_cases hk : k < gr.length
    · have hk2 : k.toNat < gr.length := by omega
      have ea : atI gr k = some gr[k.toNat] := by rw [atI_of k0]; exact List.getElem?_eq_getElem hk2
      obtain ⟨l, el⟩ := grI _ (List.getElem_mem hk2)
      rw [el] at ea
      refine ⟨l, ?_⟩
      simp only [fnBody, startD, sSeq, sIf, sAsg, sPut, sRet, sRetN, sDrop, sNx, sPar, sFor, dTest, dBin, dVar, dC, dCB, dCons, dNil, dTup, dLst, dSl, dPN, dPS, dRev, revO, dBM, isLst, dIf, dAnd, dOr, dNot, dTru, truB, dCall, dNeg, dNewK, dNewT, gN, gT, gsN, gsC, iR1, iR2, iSeq, srcOf, itemsOf, List.map_cons, List.map_nil, List.length_cons, List.length_nil, Nat.reduceAdd, Nat.reduceSub, Nat.reduceLeDiff, List.replicate_succ, List.replicate_zero, List.cons_append, List.nil_append, List.getElem?_cons_zero, List.getElem?_cons_succ, List.set_cons_zero, List.set_cons_succ, Res.bind_ok, Res.st_ok, Option.map_some, Option.bind_some, Res.lift_some, oAdd_i, oSub_i, oLt_i, oLe_i, oGt_i, oGe_i, oEq_i, oNe_i, oEq_s, oNe_s, if_true, if_false, reduceIte, Bool.false_eq_true, gInt, gLen2, gLen, Cl.gTup, gList, optS_some, SOut.seq_nx, SOut.seq_rt, SOut.seq_bk, SOut.seq_ct, bodyOut, atI_0, atI_1, atI_2, atI_3, atI_4, atI_5, oSub2_tup, oSub2_fl, Option.orElse_some, g2I, decide_true, decide_false, slO, dDct, dPairs, keyed, Int.reduceAdd, Int.reduceMul, decide_eq_true hk, oSub2_lst hg5, ea]
    · refine ⟨0, ?_⟩
      simp only [fnBody, startD, sSeq, sIf, sAsg, sPut, sRet, sRetN, sDrop, sNx, sPar, sFor, dTest, dBin, dVar, dC, dCB, dCons, dNil, dTup, dLst, dSl, dPN, dPS, dRev, revO, dBM, isLst, dIf, dAnd, dOr, dNot, dTru, truB, dCall, dNeg, dNewK, dNewT, gN, gT, gsN, gsC, iR1, iR2, iSeq, srcOf, itemsOf, List.map_cons, List.map_nil, List.length_cons, List.length_nil, Nat.reduceAdd, Nat.reduceSub, Nat.reduceLeDiff, List.replicate_succ, List.replicate_zero, List.cons_append, List.nil_append, List.getElem?_cons_zero, List.getElem?_cons_succ, List.set_cons_zero, List.set_cons_succ, Res.bind_ok, Res.st_ok, Option.map_some, Option.bind_some, Res.lift_some, oAdd_i, oSub_i, oLt_i, oLe_i, oGt_i, oGe_i, oEq_i, oNe_i, oEq_s, oNe_s, if_true, if_false, reduceIte, Bool.false_eq_true, gInt, gLen2, gLen, Cl.gTup, gList, optS_some, SOut.seq_nx, SOut.seq_rt, SOut.seq_bk, SOut.seq_ct, bodyOut, atI_0, atI_1, atI_2, atI_3, atI_4, atI_5, oSub2_tup, oSub2_fl, Option.orElse_some, g2I, decide_true, decide_false, slO, dDct, dPairs, keyed, Int.reduceAdd, Int.reduceMul, decide_eq_false hk]
  obtain ⟨l, hleft⟩ := hleft
  have hc5 : (C4 ++ [O.dK []])[CB.length]? = some (.lst (intsD m1 ++ intsD m2)) := get_old hc4
  have hc6 : (C4 ++ [O.dK []] ++ [O.lst [.int (43 * k + 17)]])[CB.length]? = some (.lst (intsD m1 ++ intsD m2)) := get_old hc5
  have a4 := oAdd_lst hc6 (get_new (C4 ++ [O.dK []]) (O.lst [.int (43 * k + 17)])) (by simp; omega)
  have hd7 : (C4 ++ [O.dK []] ++ [O.lst [.int (43 * k + 17)]] ++ [O.lst (intsD m1 ++ intsD m2 ++ [.int (43 * k + 17)])])[C4.length]? = some (.dK []) := get_old app_get
  have hmd : ∀ c : Nat, mergeD [] [(Sum.inr "left", .int l), (Sum.inr "seed", .int z), (Sum.inr "cells", .ref c), (Sum.inr "spot", .int 0), (Sum.inr "next", .int 0)] = mD l z c 0 := fun c => rfl
  refine ⟨C4.length, (C4 ++ [O.dK []] ++ [O.lst [.int (43 * k + 17)]] ++ [O.lst (intsD m1 ++ intsD m2 ++ [.int (43 * k + 17)])]).set C4.length (.dK (mD l z (C4 ++ [O.dK []] ++ [O.lst [.int (43 * k + 17)]]).length 0)), ?_, ?_⟩
  · unfold F_begun
    simp only [fnBody, startD, sSeq, sIf, sAsg, sPut, sRet, sRetN, sDrop, sNx, sPar, sFor, dTest, dBin, dVar, dC, dCB, dCons, dNil, dTup, dLst, dSl, dPN, dPS, dRev, revO, dBM, isLst, dIf, dAnd, dOr, dNot, dTru, truB, dCall, dNeg, dNewK, dNewT, gN, gT, gsN, gsC, iR1, iR2, iSeq, srcOf, itemsOf, List.map_cons, List.map_nil, List.length_cons, List.length_nil, Nat.reduceAdd, Nat.reduceSub, Nat.reduceLeDiff, List.replicate_succ, List.replicate_zero, List.cons_append, List.nil_append, List.getElem?_cons_zero, List.getElem?_cons_succ, List.set_cons_zero, List.set_cons_succ, Res.bind_ok, Res.st_ok, Option.map_some, Option.bind_some, Res.lift_some, oAdd_i, oSub_i, oLt_i, oLe_i, oGt_i, oGe_i, oEq_i, oNe_i, oEq_s, oNe_s, if_true, if_false, reduceIte, Bool.false_eq_true, gInt, gLen2, gLen, Cl.gTup, gList, optS_some, SOut.seq_nx, SOut.seq_rt, SOut.seq_bk, SOut.seq_ct, bodyOut, atI_0, atI_1, atI_2, atI_3, atI_4, atI_5, oSub2_tup, oSub2_fl, Option.orElse_some, g2I, decide_true, decide_false, slO, dDct, dPairs, keyed, Int.reduceAdd, Int.reduceMul, g__law_begun, e1, e2, hB, a3, dLc, hlc, hC4, oMul2_i _ b0, hc4, hloop, hg5, hleft, oMul2_i _ b2, hc5, a4, hd7, kS, hmd]
  · refine ⟨l, z, (C4 ++ [O.dK []] ++ [O.lst [.int (43 * k + 17)]]).length, 0, intsD m1 ++ intsD m2 ++ [.int (43 * k + 17)], List.getElem?_set_self (by simp), ?_, by simp, by simp, by simp, ?_, by omega, by omega⟩
    · rw [List.getElem?_set_ne (by simp)]
      exact get_new _ _
    · intro d hd
      rcases List.mem_append.mp hd with h | h
      · exact cInt d h
      · exact ⟨_, List.mem_singleton.mp h⟩
end Lw
set_option maxHeartbeats 4000000
/-! law_k22: drawn values, stores. -/
namespace Lw
open PySem Cl L2 Rd
/-- what stands in C stands in C', but for r -/
def Kp (r : Nat) (C C' : CH) : Prop := ∀ (j : Nat) (o : O), j ≠ r → C[j]? = some o → C'[j]? = some o
theorem Kp.refl (r : Nat) (C : CH) : Kp r C C := fun _ _ _ h => h
theorem Kp.trans {r : Nat} {C C1 C2 : CH} (a : Kp r C C1) (b : Kp r C1 C2) : Kp r C C2 := fun j o h e => b j o h (a j o h e)
theorem Kp.set (r : Nat) (C : CH) (o : O) : Kp r C (C.set r o) := fun j x h e => by rw [List.getElem?_set_ne (Ne.symm h)]; exact e
theorem Kp.app (r : Nat) (C : CH) (o : O) : Kp r C (C ++ [o]) := fun j x h e => get_old e
theorem MOk.le {C : CH} {r b : Nat} {n n' : Int} (h : MOk C r b n) (hn : n ≤ n') : MOk C r b n' := h.mono (Nat.le_refl _) hn
noncomputable def F_value : List D → CH → Res D := fnBody 3 (g__law_value F_of F_draw)
noncomputable def drawnVals : List D := [.tup [], .bl true, .bl false, .int 1, .int 0, .int 2, .tup [.str "name", .str "x"], .tup [.str "name", .str "y"], .int (10 ^ 29)]
theorem drawn_vl {x : D} (n : Nat) (h : x ∈ [D.tup [], .bl true, .bl false, .int 1, .int 0, .int 2, .tup [.str "name", .str "x"], .tup [.str "name", .str "y"], .int (10 ^ (29 : Int).toNat)]) : ∃ v, x = vd v ∧ vok n v := by
  simp only [List.mem_cons, List.not_mem_nil, or_false] at h
  rcases h with rfl | rfl | rfl | rfl | rfl | rfl | rfl | rfl | rfl
  · exact ⟨.nil, rfl, trivial⟩
  · exact ⟨.bl true, rfl, trivial⟩
  · exact ⟨.bl false, rfl, trivial⟩
  · exact ⟨.nu 1, rfl, by decide, by decide⟩
  · exact ⟨.nu 0, rfl, by decide, by decide⟩
  · exact ⟨.nu 2, rfl, by decide, by decide⟩
  · exact ⟨.nm "x", rfl, .inl rfl⟩
  · exact ⟨.nm "y", rfl, .inr rfl⟩
  · exact ⟨.nu (10 ^ (29 : Int).toNat), rfl, by decide, by decide⟩
section
variable {C : CH} {r b : Nat} {N : Int}
theorem value_ok (m : MOk C r b N) (hb : b ≤ C.length) (hN : N < 900000) {n : Nat} (h0 : 0 < n) (hn : n ≤ 1000) :
    ∃ C' v, F_value [.ref r, .int n] C = .ok (vd v) C' ∧ vok n v ∧ MOk C' r b (N + 2) ∧ Kp r C C' ∧ C.length ≤ C'.length := by
  obtain ⟨w, o, e1, w0, w1, m1⟩ := draw_ok m (b := 8) (by omega) (by decide) (by decide)
  have le2 : 2 ≤ 1000 := by decide
  by_cases h5 : w < 5
  · obtain ⟨t, o2, e2, t0, t1, m2⟩ := draw_ok m1 (b := (n : Int)) (by omega) (by omega) (by omega)
    refine ⟨_, .th t.toNat, ?_, by show t.toNat < n; omega, m2.le (by omega), (Kp.set r C o).trans (Kp.set r _ o2), by simp⟩
    have et : ((t.toNat : Nat) : Int) = t := by omega
    unfold F_value
    simp only [fnBody, startD, sSeq, sIf, sAsg, sPut, sRet, sRetN, sDrop, sNx, sPar, sFor, dTest, dBin, dVar, dC, dCB, dCons, dNil, dTup, dLst, dSl, dPN, dPS, dRev, revO, dBM, isLst, dIf, dAnd, dOr, dNot, dTru, truB, dCall, dNeg, dNewK, dNewT, gN, gT, gsN, gsC, iR1, iR2, iSeq, srcOf, itemsOf, List.map_cons, List.map_nil, List.length_cons, List.length_nil, Nat.reduceAdd, Nat.reduceSub, Nat.reduceLeDiff, List.replicate_succ, List.replicate_zero, List.cons_append, List.nil_append, List.getElem?_cons_zero, List.getElem?_cons_succ, List.set_cons_zero, List.set_cons_succ, Res.bind_ok, Res.st_ok, Option.map_some, Option.bind_some, Res.lift_some, oAdd_i, oSub_i, oLt_i, oLe_i, oGt_i, oGe_i, oEq_i, oNe_i, oEq_s, oNe_s, if_true, if_false, reduceIte, Bool.false_eq_true, gInt, gLen2, gLen, Cl.gTup, gList, optS_some, SOut.seq_nx, SOut.seq_rt, SOut.seq_bk, SOut.seq_ct, bodyOut, atI_0, atI_1, atI_2, atI_3, atI_4, atI_5, oSub2_tup, oSub2_fl, Option.orElse_some, g2I, decide_true, decide_false, slO, dDct, dPairs, keyed, Int.reduceAdd, Int.reduceMul, g__law_value, e1, decide_eq_true h5, e2, le2, vd_th, et]
  · have ep : ∀ C, oPow (.int 10) (.int 29) C = some (.int (10 ^ (29 : Int).toNat), C) := fun C => oPow_i C ⟨by decide, by decide, by decide⟩
    generalize hI : O.lst [.tup [], .bl true, .bl false, .int 1, .int 0, .int 2, .tup [.str "name", .str "x"], .tup [.str "name", .str "y"], .int (10 ^ (29 : Int).toNat)] = I
    have hq : (C.set r o ++ [I])[(C.set r o).length]? = some (.lst [.tup [], .bl true, .bl false, .int 1, .int 0, .int 2, .tup [.str "name", .str "x"], .tup [.str "name", .str "y"], .int (10 ^ (29 : Int).toNat)]) := by rw [get_new, hI]
    obtain ⟨o3, x, e3, hx, m3⟩ := of_ok (m1.app I) (by omega) hq (by rw [List.length_set]; exact hb) (by simp) (by simp)
    obtain ⟨v, rfl, hv⟩ := drawn_vl n hx
    refine ⟨_, v, ?_, hv, m3.le (by omega), (Kp.set r C o).trans ((Kp.app r _ I).trans (Kp.set r _ o3)), by simp⟩
    have le9 : 9 ≤ 1000 := by decide
    have le0 : 0 ≤ 1000 := by decide
    unfold F_value
    simp only [fnBody, startD, sSeq, sIf, sAsg, sPut, sRet, sRetN, sDrop, sNx, sPar, sFor, dTest, dBin, dVar, dC, dCB, dCons, dNil, dTup, dLst, dSl, dPN, dPS, dRev, revO, dBM, isLst, dIf, dAnd, dOr, dNot, dTru, truB, dCall, dNeg, dNewK, dNewT, gN, gT, gsN, gsC, iR1, iR2, iSeq, srcOf, itemsOf, List.map_cons, List.map_nil, List.length_cons, List.length_nil, Nat.reduceAdd, Nat.reduceSub, Nat.reduceLeDiff, List.replicate_succ, List.replicate_zero, List.cons_append, List.nil_append, List.getElem?_cons_zero, List.getElem?_cons_succ, List.set_cons_zero, List.set_cons_succ, Res.bind_ok, Res.st_ok, Option.map_some, Option.bind_some, Res.lift_some, oAdd_i, oSub_i, oLt_i, oLe_i, oGt_i, oGe_i, oEq_i, oNe_i, oEq_s, oNe_s, if_true, if_false, reduceIte, Bool.false_eq_true, gInt, gLen2, gLen, Cl.gTup, gList, optS_some, SOut.seq_nx, SOut.seq_rt, SOut.seq_bk, SOut.seq_ct, bodyOut, atI_0, atI_1, atI_2, atI_3, atI_4, atI_5, oSub2_tup, oSub2_fl, Option.orElse_some, g2I, decide_true, decide_false, slO, dDct, dPairs, keyed, Int.reduceAdd, Int.reduceMul, g__law_value, e1, decide_eq_false h5, ep, le0, le2, le9, hI, e3]
/-- all pairs' parts are fine -/
def POk (n : Nat) (S : List Th) : Prop := ∀ a c, Th.pr a c ∈ S → vok n a ∧ vok n c
theorem POk.snoc {n : Nat} {S : List Th} (h : POk n S) {x : Th} (hx : ∀ a c, x = .pr a c → vok n a ∧ vok n c) : POk n (S ++ [x]) := fun a c hm => by
  rcases List.mem_append.mp hm with hm | hm
  · exact h a c hm
  · exact hx a c (List.mem_singleton.mp hm).symm
noncomputable def F_store : List D → CH → Res D := fnBody 6 (g__law_store F_draw F_value F_of)
noncomputable def stE : Fs := (sIf (dTest (dBin oEq (dVar 4) (dC (.int 8)))) (sDrop (dBM isLst gApp (dVar 2) (dCons (dCall 2 F_of (dCons (dVar 0) (dCons (dLst (dCons (dTup (dCons (dC (.str "fn")) (dCons (dTup (dCons (dC (.int 0)) dNil)) (dCons (dTup dNil) dNil)))) (dCons (dTup (dCons (dC (.str "kept")) (dCons (dTup dNil) (dCons (dTup dNil) dNil)))) dNil))) dNil))) dNil))) (sDrop (dBM isLst gApp (dVar 2) (dCons (dTup (dCons (dC (.str "pair")) (dCons (dCall 2 F_of (dCons (dVar 0) (dCons (dLst (dCons (dC (.int 1)) (dCons (dC (.int 1)) (dCons (dTup dNil) (dCons (dCall 2 F_value (dCons (dVar 0) (dCons (dVar 1) dNil))) dNil))))) dNil))) (dCons (dCall 2 F_value (dCons (dVar 0) (dCons (dVar 1) dNil))) dNil)))) dNil))))
noncomputable def stBody : Fs := (sSeq (sAsg (gN 4) (dCall 2 F_draw (dCons (dVar 0) (dCons (dC (.int 9)) dNil))))
  (sIf (dAnd (dTest (dBin oLt (dVar 4) (dC (.int 4)))) (dTest (dBin oGt (dVar 3) (dC (.int 0))))) (sSeq (sAsg (gN 5) (dBin oSub2 (dVar 2) (dCall 2 F_draw (dCons (dVar 0) (dCons (dVar 3) dNil)))))
  (sSeq (sIf (dAnd (dTest (dBin oEq (dBin oSub2 (dVar 5) (dC (.int 0))) (dC (.str "pair")))) (dTest (dBin oEq (dCall 2 F_draw (dCons (dVar 0) (dCons (dC (.int 2)) dNil))) (dC (.int 0))))) (sAsg (gN 5) (dTup (dCons (dC (.str "pair")) (dCons (dBin oSub2 (dVar 5) (dC (.int 1))) (dCons (dCall 2 F_value (dCons (dVar 0) (dCons (dVar 1) dNil))) dNil))))) sNx)
  (sDrop (dBM isLst gApp (dVar 2) (dCons (dVar 5) dNil))))) stE))
theorem store_form : g__law_store F_draw F_value F_of = sSeq (sAsg (gN 2) (dLst dNil)) (sSeq (sFor (iR1 (dCons (dVar 1) dNil)) (gN 3) stBody) (sRet (dCB Cl.gTup (dCons (dVar 2) dNil)))) := rfl
/-- the building of a store: the row at q -/
structure Sb (C0 C : CH) (r b q n : Nat) (N : Int) (S : List Th) : Prop where
  m : MOk C r b N
  k : Kp r C0 C
  l : C[q]? = some (.lst (S.map td))
  bq : b ≤ q
  bl : b ≤ C.length
  p : POk n S
  q0 : C0.length ≤ q
theorem Sb.rq {C0 C : CH} {r b q n : Nat} {N : Int} {S : List Th} (h : Sb C0 C r b q n N S) : q ≠ r := by have := h.m.rb; have := h.bq; omega
theorem Sb.to {C0 C C' : CH} {r b q n : Nat} {N N' : Int} {S : List Th} (h : Sb C0 C r b q n N S) (m : MOk C' r b N') (k : Kp r C C') (hl : C.length ≤ C'.length) : Sb C0 C' r b q n N' S :=
  ⟨m, h.k.trans k, k _ _ h.rq h.l, h.bq, Nat.le_trans h.bl hl, h.p, h.q0⟩
theorem Sb.push {C0 C : CH} {r b q n : Nat} {N : Int} {S : List Th} (h : Sb C0 C r b q n N S) {x : Th} (hx : ∀ a c, x = .pr a c → vok n a ∧ vok n c) : Sb C0 (C.set q (.lst (S.map td ++ [td x]))) r b q n N (S ++ [x]) := by
  refine ⟨h.m.wr h.bq _, fun j o hj e => ?_, ?_, h.bq, by rw [List.length_set]; exact h.bl, h.p.snoc hx, h.q0⟩
  · have : j < C0.length := (List.getElem?_eq_some_iff.mp e).1
    rw [List.getElem?_set_ne (by have := h.q0; omega)]
    exact h.k j o hj e
  · rw [List.getElem?_set_self (List.getElem?_eq_some_iff.mp h.l).1, List.map_append]; rfl
theorem st_turn {C0 C : CH} {r b q n : Nat} {N : Int} {S : List Th} (h : Sb C0 C r b q n N S) (hN : N < 800000) (h0 : 0 < n) (hn : n ≤ 1000) (hS : S.length < 1000) (x4 x5 : Option D) :
    ∃ C' x y4 y5, stBody [some (.ref r), some (.int n), some (.ref q), some (.int (S.length : Nat)), x4, x5] C = .nx [some (.ref r), some (.int n), some (.ref q), some (.int (S.length : Nat)), y4, y5] C' ∧ Sb C0 C' r b q n (N + 8) (S ++ [x]) := by
  obtain ⟨w, o, e1, w0, w1, m1⟩ := draw_ok h.m (b := 9) (by omega) (by decide) (by decide)
  have h1 := h.to m1 (Kp.set r C o) (by simp)
  have le0 : 0 ≤ 1000 := by decide
  have le1 : 1 ≤ 1000 := by decide
  have le2 : 2 ≤ 1000 := by decide
  have le3 : 3 ≤ 1000 := by decide
  have le4 : 4 ≤ 1000 := by decide
  by_cases hc : w < 4 ∧ 0 < S.length
  · obtain ⟨hw, hk⟩ := hc
    have hk' : (0 : Int) < (S.length : Nat) := by omega
    obtain ⟨t, o2, e2, t0, t1, m2⟩ := draw_ok h1.m (b := (S.length : Nat)) (by omega) (by omega) (by omega)
    have h2 := h1.to m2 (Kp.set r _ o2) (by simp)
    have htl : t.toNat < S.length := by omega
    obtain ⟨x, hx⟩ : ∃ x, S[t.toNat]? = some x := ⟨_, List.getElem?_eq_getElem htl⟩
    have et : ((t.toNat : Nat) : Int) = t := by omega
    have ea := at_store hx
    rw [et] at ea
    have g2 := oSub2_lst h2.l t
    cases x with
    | pr a c =>
      have hp := h.p a c (List.mem_of_getElem? hx)
      obtain ⟨d, o3, e3, d0, d1, m3⟩ := draw_ok h2.m (b := 2) (by omega) (by decide) (by decide)
      have h3 := h2.to m3 (Kp.set r _ o3) (by simp)
      simp only [td] at ea
      by_cases hd : d = 0
      · obtain ⟨C4, v, e4, hv, m4, k4, l4⟩ := value_ok h3.m h3.bl (by omega) h0 hn
        have h4 := h3.to m4 k4 l4
        have ga := app_at h4.l (by rw [List.length_map]; omega) (.tup [.str "pair", vd a, vd v])
        refine ⟨_, .pr a v, some (.int w), some (.tup [.str "pair", vd a, vd v]), ?_, ((h4.push (x := .pr a v) fun a' c' e => by cases e; exact ⟨hp.1, hv⟩).to ((h4.push (x := .pr a v) fun a' c' e => by cases e; exact ⟨hp.1, hv⟩).m.le (by omega)) (Kp.refl _ _) (Nat.le_refl _))⟩
        simp only [fnBody, startD, sSeq, sIf, sAsg, sPut, sRet, sRetN, sDrop, sNx, sPar, sFor, dTest, dBin, dVar, dC, dCB, dCons, dNil, dTup, dLst, dSl, dPN, dPS, dRev, revO, dBM, isLst, dIf, dAnd, dOr, dNot, dTru, truB, dCall, dNeg, dNewK, dNewT, gN, gT, gsN, gsC, iR1, iR2, iSeq, srcOf, itemsOf, List.map_cons, List.map_nil, List.length_cons, List.length_nil, Nat.reduceAdd, Nat.reduceSub, Nat.reduceLeDiff, List.replicate_succ, List.replicate_zero, List.cons_append, List.nil_append, List.getElem?_cons_zero, List.getElem?_cons_succ, List.set_cons_zero, List.set_cons_succ, Res.bind_ok, Res.st_ok, Option.map_some, Option.bind_some, Res.lift_some, oAdd_i, oSub_i, oLt_i, oLe_i, oGt_i, oGe_i, oEq_i, oNe_i, oEq_s, oNe_s, if_true, if_false, reduceIte, Bool.false_eq_true, gInt, gLen2, gLen, Cl.gTup, gList, optS_some, SOut.seq_nx, SOut.seq_rt, SOut.seq_bk, SOut.seq_ct, bodyOut, atI_0, atI_1, atI_2, atI_3, atI_4, atI_5, oSub2_tup, oSub2_fl, Option.orElse_some, g2I, decide_true, decide_false, slO, dDct, dPairs, keyed, Int.reduceAdd, Int.reduceMul, stBody, e1, decide_eq_true hw, decide_eq_true hk', e2, g2, ea, se3, e3, decide_eq_true hd, e4, le3, h4.l, ga, td]
      · have ga := app_at h3.l (by rw [List.length_map]; omega) (.tup [.str "pair", vd a, vd c])
        refine ⟨_, .pr a c, some (.int w), some (.tup [.str "pair", vd a, vd c]), ?_, ((h3.push (x := .pr a c) fun a' c' e => by cases e; exact hp).to ((h3.push (x := .pr a c) fun a' c' e => by cases e; exact hp).m.le (by omega)) (Kp.refl _ _) (Nat.le_refl _))⟩
        simp only [fnBody, startD, sSeq, sIf, sAsg, sPut, sRet, sRetN, sDrop, sNx, sPar, sFor, dTest, dBin, dVar, dC, dCB, dCons, dNil, dTup, dLst, dSl, dPN, dPS, dRev, revO, dBM, isLst, dIf, dAnd, dOr, dNot, dTru, truB, dCall, dNeg, dNewK, dNewT, gN, gT, gsN, gsC, iR1, iR2, iSeq, srcOf, itemsOf, List.map_cons, List.map_nil, List.length_cons, List.length_nil, Nat.reduceAdd, Nat.reduceSub, Nat.reduceLeDiff, List.replicate_succ, List.replicate_zero, List.cons_append, List.nil_append, List.getElem?_cons_zero, List.getElem?_cons_succ, List.set_cons_zero, List.set_cons_succ, Res.bind_ok, Res.st_ok, Option.map_some, Option.bind_some, Res.lift_some, oAdd_i, oSub_i, oLt_i, oLe_i, oGt_i, oGe_i, oEq_i, oNe_i, oEq_s, oNe_s, if_true, if_false, reduceIte, Bool.false_eq_true, gInt, gLen2, gLen, Cl.gTup, gList, optS_some, SOut.seq_nx, SOut.seq_rt, SOut.seq_bk, SOut.seq_ct, bodyOut, atI_0, atI_1, atI_2, atI_3, atI_4, atI_5, oSub2_tup, oSub2_fl, Option.orElse_some, g2I, decide_true, decide_false, slO, dDct, dPairs, keyed, Int.reduceAdd, Int.reduceMul, stBody, e1, decide_eq_true hw, decide_eq_true hk', e2, g2, ea, se3, e3, decide_eq_false hd, h3.l, ga, td]
    | fa =>
      simp only [td] at ea
      have ga := app_at h2.l (by rw [List.length_map]; omega) (td .fa)
      refine ⟨_, .fa, some (.int w), some (td .fa), ?_, ((h2.push (x := .fa) fun a' c' e => by cases e).to ((h2.push (x := .fa) fun a' c' e => by cases e).m.le (by omega)) (Kp.refl _ _) (Nat.le_refl _))⟩
      simp only [td] at ga ⊢
      simp only [fnBody, startD, sSeq, sIf, sAsg, sPut, sRet, sRetN, sDrop, sNx, sPar, sFor, dTest, dBin, dVar, dC, dCB, dCons, dNil, dTup, dLst, dSl, dPN, dPS, dRev, revO, dBM, isLst, dIf, dAnd, dOr, dNot, dTru, truB, dCall, dNeg, dNewK, dNewT, gN, gT, gsN, gsC, iR1, iR2, iSeq, srcOf, itemsOf, List.map_cons, List.map_nil, List.length_cons, List.length_nil, Nat.reduceAdd, Nat.reduceSub, Nat.reduceLeDiff, List.replicate_succ, List.replicate_zero, List.cons_append, List.nil_append, List.getElem?_cons_zero, List.getElem?_cons_succ, List.set_cons_zero, List.set_cons_succ, Res.bind_ok, Res.st_ok, Option.map_some, Option.bind_some, Res.lift_some, oAdd_i, oSub_i, oLt_i, oLe_i, oGt_i, oGe_i, oEq_i, oNe_i, oEq_s, oNe_s, if_true, if_false, reduceIte, Bool.false_eq_true, gInt, gLen2, gLen, Cl.gTup, gList, optS_some, SOut.seq_nx, SOut.seq_rt, SOut.seq_bk, SOut.seq_ct, bodyOut, atI_0, atI_1, atI_2, atI_3, atI_4, atI_5, oSub2_tup, oSub2_fl, Option.orElse_some, g2I, decide_true, decide_false, slO, dDct, dPairs, keyed, Int.reduceAdd, Int.reduceMul, stBody, e1, decide_eq_true hw, decide_eq_true hk', e2, g2, ea, se1, h2.l, ga]
    | fb =>
      simp only [td] at ea
      have ga := app_at h2.l (by rw [List.length_map]; omega) (td .fb)
      refine ⟨_, .fb, some (.int w), some (td .fb), ?_, ((h2.push (x := .fb) fun a' c' e => by cases e).to ((h2.push (x := .fb) fun a' c' e => by cases e).m.le (by omega)) (Kp.refl _ _) (Nat.le_refl _))⟩
      simp only [td] at ga ⊢
      simp only [fnBody, startD, sSeq, sIf, sAsg, sPut, sRet, sRetN, sDrop, sNx, sPar, sFor, dTest, dBin, dVar, dC, dCB, dCons, dNil, dTup, dLst, dSl, dPN, dPS, dRev, revO, dBM, isLst, dIf, dAnd, dOr, dNot, dTru, truB, dCall, dNeg, dNewK, dNewT, gN, gT, gsN, gsC, iR1, iR2, iSeq, srcOf, itemsOf, List.map_cons, List.map_nil, List.length_cons, List.length_nil, Nat.reduceAdd, Nat.reduceSub, Nat.reduceLeDiff, List.replicate_succ, List.replicate_zero, List.cons_append, List.nil_append, List.getElem?_cons_zero, List.getElem?_cons_succ, List.set_cons_zero, List.set_cons_succ, Res.bind_ok, Res.st_ok, Option.map_some, Option.bind_some, Res.lift_some, oAdd_i, oSub_i, oLt_i, oLe_i, oGt_i, oGe_i, oEq_i, oNe_i, oEq_s, oNe_s, if_true, if_false, reduceIte, Bool.false_eq_true, gInt, gLen2, gLen, Cl.gTup, gList, optS_some, SOut.seq_nx, SOut.seq_rt, SOut.seq_bk, SOut.seq_ct, bodyOut, atI_0, atI_1, atI_2, atI_3, atI_4, atI_5, oSub2_tup, oSub2_fl, Option.orElse_some, g2I, decide_true, decide_false, slO, dDct, dPairs, keyed, Int.reduceAdd, Int.reduceMul, stBody, e1, decide_eq_true hw, decide_eq_true hk', e2, g2, ea, se2, h2.l, ga]
  · have hcond : dAnd (dTest (dBin oLt (dVar 4) (dC (.int 4)))) (dTest (dBin oGt (dVar 3) (dC (.int 0)))) [some (.ref r), some (.int n), some (.ref q), some (.int (S.length : Nat)), some (.int w), x5] (C.set r o) = .ok false (C.set r o) := by
      by_cases hw : w < 4
      · have hk : ¬ (0 : Int) < (S.length : Nat) := fun z => hc ⟨hw, by omega⟩
        simp only [fnBody, startD, sSeq, sIf, sAsg, sPut, sRet, sRetN, sDrop, sNx, sPar, sFor, dTest, dBin, dVar, dC, dCB, dCons, dNil, dTup, dLst, dSl, dPN, dPS, dRev, revO, dBM, isLst, dIf, dAnd, dOr, dNot, dTru, truB, dCall, dNeg, dNewK, dNewT, gN, gT, gsN, gsC, iR1, iR2, iSeq, srcOf, itemsOf, List.map_cons, List.map_nil, List.length_cons, List.length_nil, Nat.reduceAdd, Nat.reduceSub, Nat.reduceLeDiff, List.replicate_succ, List.replicate_zero, List.cons_append, List.nil_append, List.getElem?_cons_zero, List.getElem?_cons_succ, List.set_cons_zero, List.set_cons_succ, Res.bind_ok, Res.st_ok, Option.map_some, Option.bind_some, Res.lift_some, oAdd_i, oSub_i, oLt_i, oLe_i, oGt_i, oGe_i, oEq_i, oNe_i, oEq_s, oNe_s, if_true, if_false, reduceIte, Bool.false_eq_true, gInt, gLen2, gLen, Cl.gTup, gList, optS_some, SOut.seq_nx, SOut.seq_rt, SOut.seq_bk, SOut.seq_ct, bodyOut, atI_0, atI_1, atI_2, atI_3, atI_4, atI_5, oSub2_tup, oSub2_fl, Option.orElse_some, g2I, decide_true, decide_false, slO, dDct, dPairs, keyed, Int.reduceAdd, Int.reduceMul, decide_eq_true hw, decide_eq_false hk]
      · simp only [fnBody, startD, sSeq, sIf, sAsg, sPut, sRet, sRetN, sDrop, sNx, sPar, sFor, dTest, dBin, dVar, dC, dCB, dCons, dNil, dTup, dLst, dSl, dPN, dPS, dRev, revO, dBM, isLst, dIf, dAnd, dOr, dNot, dTru, truB, dCall, dNeg, dNewK, dNewT, gN, gT, gsN, gsC, iR1, iR2, iSeq, srcOf, itemsOf, List.map_cons, List.map_nil, List.length_cons, List.length_nil, Nat.reduceAdd, Nat.reduceSub, Nat.reduceLeDiff, List.replicate_succ, List.replicate_zero, List.cons_append, List.nil_append, List.getElem?_cons_zero, List.getElem?_cons_succ, List.set_cons_zero, List.set_cons_succ, Res.bind_ok, Res.st_ok, Option.map_some, Option.bind_some, Res.lift_some, oAdd_i, oSub_i, oLt_i, oLe_i, oGt_i, oGe_i, oEq_i, oNe_i, oEq_s, oNe_s, if_true, if_false, reduceIte, Bool.false_eq_true, gInt, gLen2, gLen, Cl.gTup, gList, optS_some, SOut.seq_nx, SOut.seq_rt, SOut.seq_bk, SOut.seq_ct, bodyOut, atI_0, atI_1, atI_2, atI_3, atI_4, atI_5, oSub2_tup, oSub2_fl, Option.orElse_some, g2I, decide_true, decide_false, slO, dDct, dPairs, keyed, Int.reduceAdd, Int.reduceMul, decide_eq_false hw]
    by_cases h8 : w = 8
    · generalize hI : O.lst [td .fa, td .fb] = I
      have hq : (C.set r o ++ [I])[(C.set r o).length]? = some (.lst [td .fa, td .fb]) := by rw [get_new, hI]
      have h2 := h1.to (h1.m.app I) (Kp.app r _ I) (by simp)
      obtain ⟨o3, x, e3, hx, m3⟩ := of_ok h2.m (by omega) hq h1.bl (by simp) (by simp)
      have h3 := h2.to m3 (Kp.set r _ o3) (by simp)
      obtain ⟨y, rfl, hy⟩ : ∃ y, x = td y ∧ ∀ a c, y ≠ .pr a c := by
        simp only [List.mem_cons, List.not_mem_nil, or_false] at hx
        rcases hx with rfl | rfl
        · exact ⟨.fa, rfl, fun a c e => by cases e⟩
        · exact ⟨.fb, rfl, fun a c e => by cases e⟩
      have ga := app_at h3.l (by rw [List.length_map]; omega) (td y)
      refine ⟨_, y, some (.int w), x5, ?_, ((h3.push (x := y) fun a' c' e => absurd e (hy a' c')).to ((h3.push (x := y) fun a' c' e => absurd e (hy a' c')).m.le (by omega)) (Kp.refl _ _) (Nat.le_refl _))⟩
      have hI' : O.lst [.tup [.str "fn", .tup [.int 0], .tup []], .tup [.str "kept", .tup [], .tup []]] = I := hI
      have s1 : stBody [some (.ref r), some (.int n), some (.ref q), some (.int (S.length : Nat)), x4, x5] C = stE [some (.ref r), some (.int n), some (.ref q), some (.int (S.length : Nat)), some (.int w), x5] (C.set r o) := by
        unfold stBody
        rw [sSeq_nx (sc1 := [some (.ref r), some (.int n), some (.ref q), some (.int (S.length : Nat)), some (.int w), x5]) (C1 := C.set r o) (by simp only [fnBody, startD, sSeq, sIf, sAsg, sPut, sRet, sRetN, sDrop, sNx, sPar, sFor, dTest, dBin, dVar, dC, dCB, dCons, dNil, dTup, dLst, dSl, dPN, dPS, dRev, revO, dBM, isLst, dIf, dAnd, dOr, dNot, dTru, truB, dCall, dNeg, dNewK, dNewT, gN, gT, gsN, gsC, iR1, iR2, iSeq, srcOf, itemsOf, List.map_cons, List.map_nil, List.length_cons, List.length_nil, Nat.reduceAdd, Nat.reduceSub, Nat.reduceLeDiff, List.replicate_succ, List.replicate_zero, List.cons_append, List.nil_append, List.getElem?_cons_zero, List.getElem?_cons_succ, List.set_cons_zero, List.set_cons_succ, Res.bind_ok, Res.st_ok, Option.map_some, Option.bind_some, Res.lift_some, oAdd_i, oSub_i, oLt_i, oLe_i, oGt_i, oGe_i, oEq_i, oNe_i, oEq_s, oNe_s, if_true, if_false, reduceIte, Bool.false_eq_true, gInt, gLen2, gLen, Cl.gTup, gList, optS_some, SOut.seq_nx, SOut.seq_rt, SOut.seq_bk, SOut.seq_ct, bodyOut, atI_0, atI_1, atI_2, atI_3, atI_4, atI_5, oSub2_tup, oSub2_fl, Option.orElse_some, g2I, decide_true, decide_false, slO, dDct, dPairs, keyed, Int.reduceAdd, Int.reduceMul, e1]), sIf_f hcond]
      rw [s1]
      simp only [fnBody, startD, sSeq, sIf, sAsg, sPut, sRet, sRetN, sDrop, sNx, sPar, sFor, dTest, dBin, dVar, dC, dCB, dCons, dNil, dTup, dLst, dSl, dPN, dPS, dRev, revO, dBM, isLst, dIf, dAnd, dOr, dNot, dTru, truB, dCall, dNeg, dNewK, dNewT, gN, gT, gsN, gsC, iR1, iR2, iSeq, srcOf, itemsOf, List.map_cons, List.map_nil, List.length_cons, List.length_nil, Nat.reduceAdd, Nat.reduceSub, Nat.reduceLeDiff, List.replicate_succ, List.replicate_zero, List.cons_append, List.nil_append, List.getElem?_cons_zero, List.getElem?_cons_succ, List.set_cons_zero, List.set_cons_succ, Res.bind_ok, Res.st_ok, Option.map_some, Option.bind_some, Res.lift_some, oAdd_i, oSub_i, oLt_i, oLe_i, oGt_i, oGe_i, oEq_i, oNe_i, oEq_s, oNe_s, if_true, if_false, reduceIte, Bool.false_eq_true, gInt, gLen2, gLen, Cl.gTup, gList, optS_some, SOut.seq_nx, SOut.seq_rt, SOut.seq_bk, SOut.seq_ct, bodyOut, atI_0, atI_1, atI_2, atI_3, atI_4, atI_5, oSub2_tup, oSub2_fl, Option.orElse_some, g2I, decide_true, decide_false, slO, dDct, dPairs, keyed, Int.reduceAdd, Int.reduceMul, stE, decide_eq_true h8, le0, le1, le2, le3, h1.l, hI', e3, ga]
    · obtain ⟨C2, v, e2, hv, m2, k2, l2⟩ := value_ok h1.m h1.bl (by omega) h0 hn
      have h2 := h1.to m2 k2 l2
      generalize hI : O.lst [.int 1, .int 1, .tup [], vd v] = I
      have hq : (C2 ++ [I])[C2.length]? = some (.lst [.int 1, .int 1, .tup [], vd v]) := by rw [get_new, hI]
      have h3 := h2.to (h2.m.app I) (Kp.app r _ I) (by simp)
      obtain ⟨o4, x, e4, hx, m4⟩ := of_ok h3.m (by omega) hq h2.bl (by simp) (by simp)
      have h4 := h3.to m4 (Kp.set r _ o4) (by simp)
      obtain ⟨y, rfl, hy⟩ : ∃ y, x = vd y ∧ vok n y := by
        simp only [List.mem_cons, List.not_mem_nil, or_false] at hx
        rcases hx with rfl | rfl | rfl | rfl
        · exact ⟨.nu 1, rfl, by decide, by decide⟩
        · exact ⟨.nu 1, rfl, by decide, by decide⟩
        · exact ⟨.nil, rfl, trivial⟩
        · exact ⟨v, rfl, hv⟩
      obtain ⟨C5, u, e5, hu, m5, k5, l5⟩ := value_ok h4.m h4.bl (by omega) h0 hn
      have h5 := h4.to m5 k5 l5
      have ga := app_at h5.l (by rw [List.length_map]; omega) (.tup [.str "pair", vd y, vd u])
      refine ⟨_, .pr y u, some (.int w), x5, ?_, ((h5.push (x := .pr y u) fun a' c' e => by cases e; exact ⟨hy, hu⟩).to ((h5.push (x := .pr y u) fun a' c' e => by cases e; exact ⟨hy, hu⟩).m.le (by omega)) (Kp.refl _ _) (Nat.le_refl _))⟩
      have s1 : stBody [some (.ref r), some (.int n), some (.ref q), some (.int (S.length : Nat)), x4, x5] C = stE [some (.ref r), some (.int n), some (.ref q), some (.int (S.length : Nat)), some (.int w), x5] (C.set r o) := by
        unfold stBody
        rw [sSeq_nx (sc1 := [some (.ref r), some (.int n), some (.ref q), some (.int (S.length : Nat)), some (.int w), x5]) (C1 := C.set r o) (by simp only [fnBody, startD, sSeq, sIf, sAsg, sPut, sRet, sRetN, sDrop, sNx, sPar, sFor, dTest, dBin, dVar, dC, dCB, dCons, dNil, dTup, dLst, dSl, dPN, dPS, dRev, revO, dBM, isLst, dIf, dAnd, dOr, dNot, dTru, truB, dCall, dNeg, dNewK, dNewT, gN, gT, gsN, gsC, iR1, iR2, iSeq, srcOf, itemsOf, List.map_cons, List.map_nil, List.length_cons, List.length_nil, Nat.reduceAdd, Nat.reduceSub, Nat.reduceLeDiff, List.replicate_succ, List.replicate_zero, List.cons_append, List.nil_append, List.getElem?_cons_zero, List.getElem?_cons_succ, List.set_cons_zero, List.set_cons_succ, Res.bind_ok, Res.st_ok, Option.map_some, Option.bind_some, Res.lift_some, oAdd_i, oSub_i, oLt_i, oLe_i, oGt_i, oGe_i, oEq_i, oNe_i, oEq_s, oNe_s, if_true, if_false, reduceIte, Bool.false_eq_true, gInt, gLen2, gLen, Cl.gTup, gList, optS_some, SOut.seq_nx, SOut.seq_rt, SOut.seq_bk, SOut.seq_ct, bodyOut, atI_0, atI_1, atI_2, atI_3, atI_4, atI_5, oSub2_tup, oSub2_fl, Option.orElse_some, g2I, decide_true, decide_false, slO, dDct, dPairs, keyed, Int.reduceAdd, Int.reduceMul, e1]), sIf_f hcond]
      rw [s1]
      simp only [fnBody, startD, sSeq, sIf, sAsg, sPut, sRet, sRetN, sDrop, sNx, sPar, sFor, dTest, dBin, dVar, dC, dCB, dCons, dNil, dTup, dLst, dSl, dPN, dPS, dRev, revO, dBM, isLst, dIf, dAnd, dOr, dNot, dTru, truB, dCall, dNeg, dNewK, dNewT, gN, gT, gsN, gsC, iR1, iR2, iSeq, srcOf, itemsOf, List.map_cons, List.map_nil, List.length_cons, List.length_nil, Nat.reduceAdd, Nat.reduceSub, Nat.reduceLeDiff, List.replicate_succ, List.replicate_zero, List.cons_append, List.nil_append, List.getElem?_cons_zero, List.getElem?_cons_succ, List.set_cons_zero, List.set_cons_succ, Res.bind_ok, Res.st_ok, Option.map_some, Option.bind_some, Res.lift_some, oAdd_i, oSub_i, oLt_i, oLe_i, oGt_i, oGe_i, oEq_i, oNe_i, oEq_s, oNe_s, if_true, if_false, reduceIte, Bool.false_eq_true, gInt, gLen2, gLen, Cl.gTup, gList, optS_some, SOut.seq_nx, SOut.seq_rt, SOut.seq_bk, SOut.seq_ct, bodyOut, atI_0, atI_1, atI_2, atI_3, atI_4, atI_5, oSub2_tup, oSub2_fl, Option.orElse_some, g2I, decide_true, decide_false, slO, dDct, dPairs, keyed, Int.reduceAdd, Int.reduceMul, stE, decide_eq_false h8, le0, le3, le4, h1.l, e2, hI, e4, e5, ga, h5.l, td]
theorem store_ok (m : MOk C r b N) (hb : b ≤ C.length) (hN : N < 700000) {n : Nat} (h0 : 0 < n) (hn : n ≤ 100) :
    ∃ C' S, F_store [.ref r, .int n] C = .ok (sd S) C' ∧ S.length = n ∧ SOk S ∧ MOk C' r b (N + 800) ∧ Kp r C C' ∧ C.length ≤ C'.length := by
  have hS0 : Sb C (C ++ [O.lst []]) r b C.length n N [] := ⟨m.app _, Kp.app r C _, get_new _ _, hb, by simp; omega, (fun a c h => nomatch h), Nat.le_refl _⟩
  have hl : (rngD 0 n).length = n := by simp [rngD]
  obtain ⟨sc', C', e, S, x3, x4, x5, rfl, hB, hSl, hCl⟩ := fr_inv (chk := fun _ => True) (g := gN 3) (rngD 0 n)
    (fun i sc C' => ∃ S x3 x4 x5, sc = [some (.ref r), some (.int n), some (.ref C.length), x3, x4, x5] ∧ Sb C C' r b C.length n (N + 8 * i) S ∧ S.length = i ∧ C.length ≤ C'.length)
    [some (.ref r), some (.int n), some (.ref C.length), none, none, none] (C ++ [O.lst []]) ⟨[], none, none, none, rfl, by simpa using hS0, rfl, by simp⟩ (fun _ _ _ _ => trivial) (fun i d sc C2 hd ⟨S, x3, x4, x5, e1, hB, hSl, hCl⟩ => by
      subst e1
      have hi : i < n := by rw [← hl]; exact (List.getElem?_eq_some_iff.mp hd).1
      have ed : d = .int (S.length : Nat) := by
        rw [rngD, List.getElem?_map, List.getElem?_range hi] at hd
        have hd := Option.some.inj hd
        dsimp only at hd
        rw [← hd, hSl, Int.zero_add]
      subst ed
      obtain ⟨C3, x, y4, y5, e3, h3⟩ := st_turn hB (by omega) h0 (by omega) (by omega) x4 x5
      have hc3 : C.length ≤ C3.length := by have := (List.getElem?_eq_some_iff.mp h3.l).1; omega
      exact ⟨_, rfl, _, C3, .inl e3, S ++ [x], _, y4, y5, rfl, h3.to (h3.m.le (by push_cast; omega)) (Kp.refl _ _) (Nat.le_refl _), by simp [hSl], hc3⟩)
  have bs := rng1_i (j := (n : Int)) (by omega) (by omega)
  rw [hl] at hB hSl
  have le0 : 0 ≤ 1000 := by decide
  refine ⟨C', S, ?_, hSl, by rw [SOk, hSl]; exact hB.p, hB.m.le (by omega), hB.k, hCl⟩
  unfold F_store
  rw [store_form]
  have hn2 : (n : Int).toNat = n := by omega
  simp only [fnBody, startD, sSeq, sIf, sAsg, sPut, sRet, sRetN, sDrop, sNx, sPar, sFor, dTest, dBin, dVar, dC, dCB, dCons, dNil, dTup, dLst, dSl, dPN, dPS, dRev, revO, dBM, isLst, dIf, dAnd, dOr, dNot, dTru, truB, dCall, dNeg, dNewK, dNewT, gN, gT, gsN, gsC, iR1, iR2, iSeq, srcOf, itemsOf, List.map_cons, List.map_nil, List.length_cons, List.length_nil, Nat.reduceAdd, Nat.reduceSub, Nat.reduceLeDiff, List.replicate_succ, List.replicate_zero, List.cons_append, List.nil_append, List.getElem?_cons_zero, List.getElem?_cons_succ, List.set_cons_zero, List.set_cons_succ, Res.bind_ok, Res.st_ok, Option.map_some, Option.bind_some, Res.lift_some, oAdd_i, oSub_i, oLt_i, oLe_i, oGt_i, oGe_i, oEq_i, oNe_i, oEq_s, oNe_s, if_true, if_false, reduceIte, Bool.false_eq_true, gInt, gLen2, gLen, Cl.gTup, gList, optS_some, SOut.seq_nx, SOut.seq_rt, SOut.seq_bk, SOut.seq_ct, bodyOut, atI_0, atI_1, atI_2, atI_3, atI_4, atI_5, oSub2_tup, oSub2_fl, Option.orElse_some, g2I, decide_true, decide_false, slO, dDct, dPairs, keyed, Int.reduceAdd, Int.reduceMul, le0, bs, hn2, e, hB.l, sd]
end
end Lw
set_option maxHeartbeats 4000000
/-! law_k22: rings; stores moved about. -/
namespace Rd
open PySem
def ren (f : Nat → Nat) : Vl → Vl
  | .th t => .th (f t)
  | v => v
def renT (f : Nat → Nat) : Th → Th
  | .pr a b => .pr (ren f a) (ren f b)
  | x => x
structure Mv (f : Nat → Nat) (S S' : List Th) : Prop where
  at' : ∀ (t : Nat) (x : Th), S[t]? = some x → S'[f t]? = some (renT f x)
  inj : ∀ t u, t < S.length → u < S.length → f t = f u → t = u
end Rd
namespace Lw
open PySem Cl L2 Rd
section
variable {f : Nat → Nat} {S S' : List Th}
theorem _root_.Rd.Mv.kd (M : Mv f S S') {v : Vl} (h : vok S.length v) : kd S' (ren f v) = kd S v := by
  cases v with
  | th t =>
    obtain ⟨x, hx⟩ : ∃ x, S[t]? = some x := ⟨_, List.getElem?_eq_getElem h⟩
    have := M.at' t x hx
    cases x <;> simp [Rd.kd, ren, hx, this, renT]
  | _ => rfl
theorem _root_.Rd.Mv.ch (M : Mv f S S') {v : Vl} (h : vok S.length v) (s : Nat) : ch S' s (ren f v) = (ch S s v).map (ren f) := by
  cases v with
  | th t =>
    obtain ⟨x, hx⟩ : ∃ x, S[t]? = some x := ⟨_, List.getElem?_eq_getElem h⟩
    have := M.at' t x hx
    cases x with
    | pr a b =>
      simp only [Rd.ch, ren, hx, this, renT]
      split
      · rfl
      · split <;> rfl
    | _ => simp [Rd.ch, ren, hx, this, renT]
  | _ => rfl
theorem _root_.Rd.Mv.go (M : Mv f S S') (hS : SOk S) : ∀ (r : List Nat) (v : Vl), vok S.length v → go S' (ren f v) r = (go S v r).map (ren f)
  | [], v, _ => rfl
  | s :: r, v, h => by
    show ((Rd.ch S' s (ren f v)).bind fun x => Rd.go S' x r) = ((Rd.ch S s v).bind fun x => Rd.go S x r).map (ren f)
    rw [M.ch h]
    cases e : Rd.ch S s v with
    | none => rfl
    | some x => exact M.go hS r x (ch_ok hS e)
theorem _root_.Rd.Mv.inj' (M : Mv f S S') {v w : Vl} (h : vok S.length v) (h' : vok S.length w) (e : ren f v = ren f w) : v = w := by
  cases v <;> cases w <;> simp [ren] at e ⊢
  · exact M.inj _ _ h h' e
  all_goals exact e
theorem _root_.Rd.Mv.df (M : Mv f S S') {v w : Vl} (h : vok S.length v) (h' : vok S.length w) : df S' (ren f v) (ren f w) ↔ df S v w := by
  unfold Rd.df
  rw [M.kd h, M.kd h']
  constructor
  · rintro (z | ⟨z1, z2⟩)
    · exact .inl z
    · exact .inr ⟨z1, fun e => z2 (by rw [e])⟩
  · rintro (z | ⟨z1, z2⟩)
    · exact .inl z
    · exact .inr ⟨z1, fun e => z2 (M.inj' h h' e)⟩
theorem _root_.Rd.Mv.bad (M : Mv f S S') (hS : SOk S) {v w : Vl} (h : vok S.length v) (h' : vok S.length w) (r : List Nat) : Bad S' (ren f v) (ren f w) r ↔ Bad S v w r := by
  unfold Bad
  rw [M.go hS r v h, M.go hS r w h']
  constructor
  · rintro ⟨a, b, e1, e2, d⟩
    cases q1 : Rd.go S v r with
    | none => rw [q1] at e1; cases e1
    | some x =>
      cases q2 : Rd.go S w r with
      | none => rw [q2] at e2; cases e2
      | some y =>
        rw [q1] at e1
        rw [q2] at e2
        cases e1
        cases e2
        exact ⟨x, y, rfl, rfl, (M.df (go_ok hS r v x h q1) (go_ok hS r w y h' q2)).mp d⟩
  · rintro ⟨a, b, e1, e2, d⟩
    exact ⟨ren f a, ren f b, by rw [e1]; rfl, by rw [e2]; rfl, (M.df (go_ok hS r v a h e1) (go_ok hS r w b h' e2)).mpr d⟩
theorem _root_.Rd.Mv.least (M : Mv f S S') (hS : SOk S) {v w : Vl} (h : vok S.length v) (h' : vok S.length w) {o : Option (List Nat)} (l : Least S v w o) : Least S' (ren f v) (ren f w) o := by
  cases o with
  | none => exact fun r z => l r ((M.bad hS h h' r).mp z)
  | some r => exact ⟨(M.bad hS h h' r).mpr l.1, fun p z => l.2 p ((M.bad hS h h' p).mp z)⟩
end
/-! ### rings -/
noncomputable def F_rings : List D → CH → Res D := fnBody 10 (g__law_rings F_draw F_of)
def ringT (side : Int) (t : Nat) : Th := if side = 0 then .pr (.nu 1) (.th t) else .pr (.th t) (.nu 1)
noncomputable def rgBody : Fs := sSeq (sAsg (gN 9) (dTup (dCons (dC (.str "thing")) (dCons (dBin oAdd (dVar 5) (dBin oMod (dCB Cl.gInt (dCons (dBin oAdd (dVar 7) (dC (.int 1))) dNil)) (dVar 6))) dNil))))
  (sDrop (dBM isLst gApp (dVar 3) (dCons (dIf (dTest (dBin oEq (dVar 4) (dC (.int 0)))) (dTup (dCons (dC (.str "pair")) (dCons (dC (.int 1)) (dCons (dVar 9) dNil)))) (dTup (dCons (dC (.str "pair")) (dCons (dVar 9) (dCons (dC (.int 1)) dNil))))) dNil)))
noncomputable def rgRest : Fs := (sSeq (sIf (dTest (dBin oEq (dCall 2 F_draw (dCons (dVar 0) (dCons (dC (.int 2)) dNil))) (dC (.int 0)))) (sSeq (sAsg (gN 8) (dCall 2 F_draw (dCons (dVar 0) (dCons (dBin oAdd (dVar 1) (dVar 2)) dNil))))
  (sPut (dBin oAdd (dTup (dCons (dC (.str "pair")) dNil)) (dCall 2 F_of (dCons (dVar 0) (dCons (dLst (dCons (dTup (dCons (dC (.int 2)) (dCons (dBin oSub2 (dBin oSub2 (dVar 3) (dVar 8)) (dC (.int 2))) dNil))) (dCons (dTup (dCons (dBin oSub2 (dBin oSub2 (dVar 3) (dVar 8)) (dC (.int 1))) (dCons (dC (.bl true)) dNil))) (dCons (dTup (dCons (dBin oSub2 (dBin oSub2 (dVar 3) (dVar 8)) (dC (.int 1))) (dCons (dC (.int 1)) dNil))) dNil)))) dNil)))) (dVar 3) (dVar 8))) sNx)
  (sRet (dTup (dCons (dCB Cl.gTup (dCons (dVar 3) dNil)) (dCons (dTup (dCons (dC (.str "thing")) (dCons (dC (.int 0)) dNil))) (dCons (dTup (dCons (dC (.str "thing")) (dCons (dVar 1) dNil))) dNil))))))
theorem rings_form : g__law_rings F_draw F_of = (sSeq (sPar 1 2 (dCons (dBin oAdd (dC (.int 1)) (dCall 2 F_draw (dCons (dVar 0) (dCons (dC (.int 3)) dNil)))) (dCons (dBin oAdd (dC (.int 1)) (dCall 2 F_draw (dCons (dVar 0) (dCons (dC (.int 4)) dNil)))) dNil)))
  (sSeq (sPar 3 4 (dCons (dLst dNil) (dCons (dCall 2 F_draw (dCons (dVar 0) (dCons (dC (.int 2)) dNil))) dNil)))
  (sSeq (sFor (iSeq (dTup (dCons (dTup (dCons (dC (.int 0)) (dCons (dVar 1) dNil))) (dCons (dTup (dCons (dVar 1) (dCons (dVar 2) dNil))) dNil)))) (gT 2 (gsC (gN 5) (gsC (gN 6) gsN))) (sFor (iR1 (dCons (dVar 6) dNil)) (gN 7) rgBody)) rgRest))) := rfl
def AllP (S : List Th) : Prop := ∀ x ∈ S, ∃ a c, x = Th.pr a c
section
variable {C0 C : CH} {r b q n : Nat} {N : Int} {S : List Th}
theorem ring_in (h : Sb C0 C r b q n N S) (ha : AllP S) {one two side first many : Int} (h0 : 0 ≤ first) (h1 : 0 < many) (h2 : first + many ≤ n) (hS : S.length ≤ 100) (hm : many ≤ 100) (x7 x8 x9 : Option D) : ∃ C' S' y7 y9,
    sFor (iR1 (dCons (dVar 6) dNil)) (gN 7) rgBody [some (.ref r), some (.int one), some (.int two), some (.ref q), some (.int side), some (.int first), some (.int many), x7, x8, x9] C =
      .nx [some (.ref r), some (.int one), some (.int two), some (.ref q), some (.int side), some (.int first), some (.int many), y7, x8, y9] C' ∧ Sb C0 C' r b q n N S' ∧ AllP S' ∧ S'.length = S.length + many.toNat ∧ C'.length = C.length := by
  have hl : (rngD 0 many.toNat).length = many.toNat := by simp [rngD]
  obtain ⟨sc', C', e, S', y7, y9, rfl, hB, hA, hSl, hCl⟩ := fr_inv (chk := fun _ => True) (g := gN 7) (b := rgBody) (rngD 0 many.toNat)
    (fun i sc C' => ∃ S' y7 y9, sc = [some (.ref r), some (.int one), some (.int two), some (.ref q), some (.int side), some (.int first), some (.int many), y7, x8, y9] ∧ Sb C0 C' r b q n N S' ∧ AllP S' ∧ S'.length = S.length + i ∧ C'.length = C.length)
    _ C ⟨S, x7, x9, rfl, h, ha, rfl, rfl⟩ (fun _ _ _ _ => trivial) (fun i d sc C2 hd ⟨S', y7, y9, e1, hB, hA, hSl, hCl⟩ => by
      subst e1
      have hi : i < many.toNat := by rw [← hl]; exact (List.getElem?_eq_some_iff.mp hd).1
      have ed : d = .int (i : Int) := by
        rw [rngD, List.getElem?_map, List.getElem?_range hi] at hd
        have hd := Option.some.inj hd
        dsimp only at hd
        rw [← hd, Int.zero_add]
      subst ed
      have m0 := Int.emod_nonneg ((i : Int) + 1) (b := many) (by omega)
      have m1 := Int.emod_lt_of_pos ((i : Int) + 1) h1
      have et : (((first + ((i : Int) + 1) % many).toNat : Nat) : Int) = first + ((i : Int) + 1) % many := by omega
      have hx : ∀ a c, ringT side (first + ((i : Int) + 1) % many).toNat = .pr a c → vok n a ∧ vok n c := fun a c e => by
        unfold ringT at e
        split at e
        · cases e; exact ⟨⟨by decide, by decide⟩, by show _ < n; omega⟩
        · cases e; exact ⟨by show _ < n; omega, ⟨by decide, by decide⟩⟩
      have ga := app_at hB.l (by rw [List.length_map]; omega) (td (ringT side (first + ((i : Int) + 1) % many).toNat))
      refine ⟨_, rfl, _, _, .inl ?_, S' ++ [ringT side (first + ((i : Int) + 1) % many).toNat], some (.int i), some (.tup [.str "thing", .int (first + ((i : Int) + 1) % many)]), rfl, hB.push hx, fun y hy => ?_, by simp [hSl]; omega, by rw [List.length_set]; exact hCl⟩
      · have le2 : 2 ≤ 1000 := by decide
        have le3 : 3 ≤ 1000 := by decide
        by_cases hs : side = 0
        · unfold ringT at ga ⊢
          rw [if_pos hs] at ga ⊢
          simp only [td, vd, et] at ga ⊢
          simp only [fnBody, startD, sSeq, sIf, sAsg, sPut, sRet, sRetN, sDrop, sNx, sPar, sFor, dTest, dBin, dVar, dC, dCB, dCons, dNil, dTup, dLst, dSl, dPN, dPS, dRev, revO, dBM, isLst, dIf, dAnd, dOr, dNot, dTru, truB, dCall, dNeg, dNewK, dNewT, gN, gT, gsN, gsC, iR1, iR2, iSeq, srcOf, itemsOf, List.map_cons, List.map_nil, List.length_cons, List.length_nil, Nat.reduceAdd, Nat.reduceSub, Nat.reduceLeDiff, List.replicate_succ, List.replicate_zero, List.cons_append, List.nil_append, List.getElem?_cons_zero, List.getElem?_cons_succ, List.set_cons_zero, List.set_cons_succ, Res.bind_ok, Res.st_ok, Option.map_some, Option.bind_some, Res.lift_some, oAdd_i, oSub_i, oLt_i, oLe_i, oGt_i, oGe_i, oEq_i, oNe_i, oEq_s, oNe_s, if_true, if_false, reduceIte, Bool.false_eq_true, gInt, gLen2, gLen, Cl.gTup, gList, optS_some, SOut.seq_nx, SOut.seq_rt, SOut.seq_bk, SOut.seq_ct, bodyOut, atI_0, atI_1, atI_2, atI_3, atI_4, atI_5, oSub2_tup, oSub2_fl, Option.orElse_some, g2I, decide_true, decide_false, slO, dDct, dPairs, keyed, Int.reduceAdd, Int.reduceMul, rgBody, oMod_i _ h1, le2, le3, decide_eq_true hs, hB.l, ga]
        · unfold ringT at ga ⊢
          rw [if_neg hs] at ga ⊢
          simp only [td, vd, et] at ga ⊢
          simp only [fnBody, startD, sSeq, sIf, sAsg, sPut, sRet, sRetN, sDrop, sNx, sPar, sFor, dTest, dBin, dVar, dC, dCB, dCons, dNil, dTup, dLst, dSl, dPN, dPS, dRev, revO, dBM, isLst, dIf, dAnd, dOr, dNot, dTru, truB, dCall, dNeg, dNewK, dNewT, gN, gT, gsN, gsC, iR1, iR2, iSeq, srcOf, itemsOf, List.map_cons, List.map_nil, List.length_cons, List.length_nil, Nat.reduceAdd, Nat.reduceSub, Nat.reduceLeDiff, List.replicate_succ, List.replicate_zero, List.cons_append, List.nil_append, List.getElem?_cons_zero, List.getElem?_cons_succ, List.set_cons_zero, List.set_cons_succ, Res.bind_ok, Res.st_ok, Option.map_some, Option.bind_some, Res.lift_some, oAdd_i, oSub_i, oLt_i, oLe_i, oGt_i, oGe_i, oEq_i, oNe_i, oEq_s, oNe_s, if_true, if_false, reduceIte, Bool.false_eq_true, gInt, gLen2, gLen, Cl.gTup, gList, optS_some, SOut.seq_nx, SOut.seq_rt, SOut.seq_bk, SOut.seq_ct, bodyOut, atI_0, atI_1, atI_2, atI_3, atI_4, atI_5, oSub2_tup, oSub2_fl, Option.orElse_some, g2I, decide_true, decide_false, slO, dDct, dPairs, keyed, Int.reduceAdd, Int.reduceMul, rgBody, oMod_i _ h1, le2, le3, decide_eq_false hs, hB.l, ga]
      · rcases List.mem_append.mp hy with hy | hy
        · exact hA y hy
        · rw [List.mem_singleton.mp hy]
          unfold ringT
          split
          · exact ⟨_, _, rfl⟩
          · exact ⟨_, _, rfl⟩)
  rw [hl] at hSl
  refine ⟨C', S', y7, y9, ?_, hB, hA, hSl, hCl⟩
  have bs := rng1_i (j := many) (by omega) (by omega)
  simp only [fnBody, startD, sSeq, sIf, sAsg, sPut, sRet, sRetN, sDrop, sNx, sPar, sFor, dTest, dBin, dVar, dC, dCB, dCons, dNil, dTup, dLst, dSl, dPN, dPS, dRev, revO, dBM, isLst, dIf, dAnd, dOr, dNot, dTru, truB, dCall, dNeg, dNewK, dNewT, gN, gT, gsN, gsC, iR1, iR2, iSeq, srcOf, itemsOf, List.map_cons, List.map_nil, List.length_cons, List.length_nil, Nat.reduceAdd, Nat.reduceSub, Nat.reduceLeDiff, List.replicate_succ, List.replicate_zero, List.cons_append, List.nil_append, List.getElem?_cons_zero, List.getElem?_cons_succ, List.set_cons_zero, List.set_cons_succ, Res.bind_ok, Res.st_ok, Option.map_some, Option.bind_some, Res.lift_some, oAdd_i, oSub_i, oLt_i, oLe_i, oGt_i, oGe_i, oEq_i, oNe_i, oEq_s, oNe_s, if_true, if_false, reduceIte, Bool.false_eq_true, gInt, gLen2, gLen, Cl.gTup, gList, optS_some, SOut.seq_nx, SOut.seq_rt, SOut.seq_bk, SOut.seq_ct, bodyOut, atI_0, atI_1, atI_2, atI_3, atI_4, atI_5, oSub2_tup, oSub2_fl, Option.orElse_some, g2I, decide_true, decide_false, slO, dDct, dPairs, keyed, Int.reduceAdd, Int.reduceMul, bs]
  exact e
theorem rings_ok {C : CH} {r b : Nat} {N : Int} (m : MOk C r b N) (hb : b ≤ C.length) (hN : N < 700000) :
    ∃ C' S t u, F_rings [.ref r] C = .ok (.tup [sd S, vd (.th t), vd (.th u)]) C' ∧ S.length ≤ 7 ∧ t < S.length ∧ u < S.length ∧ SOk S ∧ MOk C' r b (N + 6) ∧ Kp r C C' ∧ C.length ≤ C'.length := by
  obtain ⟨d1, o1, e1, d10, d11, m1⟩ := draw_ok m (b := 3) (by omega) (by decide) (by decide)
  obtain ⟨d2, o2, e2, d20, d21, m2⟩ := draw_ok m1 (b := 4) (by omega) (by decide) (by decide)
  generalize hC2 : (C.set r o1).set r o2 = C2 at m2 e2
  have l2 : C2.length = C.length := by rw [← hC2]; simp
  have k2 : Kp r C C2 := by rw [← hC2]; exact (Kp.set r C o1).trans (Kp.set r _ o2)
  obtain ⟨side, o3, e3, s0, s1, m3⟩ := draw_ok (m2.app (O.lst [])) (b := 2) (by omega) (by decide) (by decide)
  generalize hn : (1 + d1 + (1 + d2)).toNat = n
  have hS0 : Sb C ((C2 ++ [O.lst []]).set r o3) r b C2.length n (N + 1 + 1 + 1) [] :=
    ⟨m3, k2.trans ((Kp.app r C2 _).trans (Kp.set r _ o3)), by rw [List.getElem?_set_ne (by have := m2.lt; omega)]; exact get_new _ _, by omega, by simp; omega, (fun a c h => nomatch h), by omega⟩
  obtain ⟨C3, S3, y7, y9, f1, hB3, hA3, l3, cl3⟩ := ring_in hS0 (fun x hx => nomatch hx) (one := 1 + d1) (two := 1 + d2) (side := side) (first := 0) (many := 1 + d1) (by omega) (by omega) (by omega) (by simp) (by omega) none none none
  obtain ⟨C4, S4, z7, z9, f2, hB4, hA4, l4, cl4⟩ := ring_in hB3 hA3 (one := 1 + d1) (two := 1 + d2) (side := side) (first := 1 + d1) (many := 1 + d2) (by omega) (by omega) (by omega) (by simp at l3; omega) (by omega) y7 none y9
  have hlen : S4.length = n := by simp at l3; omega
  have le0 : 0 ≤ 1000 := by decide
  have le1 : 1 ≤ 1000 := by decide
  have le2 : 2 ≤ 1000 := by decide
  have le3 : 3 ≤ 1000 := by decide
  have ef : fr (fun _ => True) (gT 2 (gsC (gN 5) (gsC (gN 6) gsN))) (sFor (iR1 (dCons (dVar 6) dNil)) (gN 7) rgBody) [.tup [.int 0, .int (1 + d1)], .tup [.int (1 + d1), .int (1 + d2)]] [some (.ref r), some (.int (1 + d1)), some (.int (1 + d2)), some (.ref C2.length), some (.int side), none, none, none, none, none] ((C2 ++ [O.lst []]).set r o3) =
      .nx [some (.ref r), some (.int (1 + d1)), some (.int (1 + d2)), some (.ref C2.length), some (.int side), some (.int (1 + d1)), some (.int (1 + d2)), z7, none, z9] C4 := by
    rw [fr_nx rfl f1, fr_nx rfl f2, fr_nil]
  -- the end
  have hend : ∃ C' S, rgRest [some (.ref r), some (.int (1 + d1)), some (.int (1 + d2)), some (.ref C2.length), some (.int side), some (.int (1 + d1)), some (.int (1 + d2)), z7, none, z9] C4 = .rt (.tup [sd S, vd (.th 0), vd (.th (1 + d1).toNat)]) C' ∧ S.length = n ∧ POk n S ∧ MOk C' r b (N + 6) ∧ Kp r C C' ∧ C.length ≤ C'.length := by
    have et : (((1 + d1).toNat : Nat) : Int) = 1 + d1 := by omega
    have e0 : ((0 : Nat) : Int) = 0 := rfl
    obtain ⟨d5, o5, e5, d50, d51, m5⟩ := draw_ok hB4.m (b := 2) (by omega) (by decide) (by decide)
    have h5 := hB4.to m5 (Kp.set r _ o5) (by simp)
    have cl5 : (C4.set r o5).length = C2.length + 1 := by rw [List.length_set, cl4, cl3]; simp
    by_cases hd : d5 = 0
    · obtain ⟨sp, o6, e6, sp0, sp1, m6⟩ := draw_ok h5.m (b := 1 + d1 + (1 + d2)) (by omega) (by omega) (by omega)
      have h6 := h5.to m6 (Kp.set r _ o6) (by simp)
      have hsp : sp.toNat < S4.length := by omega
      obtain ⟨x, hx⟩ : ∃ x, S4[sp.toNat]? = some x := ⟨_, List.getElem?_eq_getElem hsp⟩
      obtain ⟨a, c, rfl⟩ := hA4 x (List.mem_of_getElem? hx)
      have hp := hB4.p a c (List.mem_of_getElem? hx)
      have es : ((sp.toNat : Nat) : Int) = sp := by omega
      have ea := at_store hx
      rw [es] at ea
      simp only [td] at ea
      have g6 := oSub2_lst h6.l sp
      generalize hI : O.lst [.tup [.int 2, vd c], .tup [vd a, .bl true], .tup [vd a, .int 1]] = I
      have cl6 : ((C4.set r o5).set r o6).length = C2.length + 1 := by rw [List.length_set]; exact cl5
      have hq : ((C4.set r o5).set r o6 ++ [I])[((C4.set r o5).set r o6).length]? = some (.lst [.tup [.int 2, vd c], .tup [vd a, .bl true], .tup [vd a, .int 1]]) := by rw [get_new, hI]
      have h7 := h6.to (h6.m.app I) (Kp.app r _ I) (by simp)
      obtain ⟨o8, y, e8, hy, m8⟩ := of_ok h7.m (by omega) hq h6.bl (by simp) (by simp)
      have h8 := h7.to m8 (Kp.set r _ o8) (by simp)
      obtain ⟨a', c', rfl, hp'⟩ : ∃ a' c', y = .tup [vd a', vd c'] ∧ (vok n a' ∧ vok n c') := by
        simp only [List.mem_cons, List.not_mem_nil, or_false] at hy
        rcases hy with rfl | rfl | rfl
        · exact ⟨.nu 2, c, rfl, ⟨by decide, by decide⟩, hp.2⟩
        · exact ⟨a, .bl true, rfl, hp.1, trivial⟩
        · exact ⟨a, .nu 1, rfl, hp.1, ⟨by decide, by decide⟩⟩
      have ta : ∀ C, oAdd (.tup [.str "pair"]) (.tup [vd a', vd c']) C = _ := fun C => oAdd_tup [.str "pair"] [vd a', vd c'] (by simp) C
      have hix : ixN (S4.map td).length sp = some sp.toNat := by
        unfold ixN
        rw [List.length_map, if_pos sp0, if_pos (by omega)]
      have ss : setO (.ref C2.length) (.int sp) (.tup [.str "pair", vd a', vd c']) (((C4.set r o5).set r o6 ++ [I]).set r o8) = some ((((C4.set r o5).set r o6 ++ [I]).set r o8).set C2.length (.lst ((S4.map td).set sp.toNat (.tup [.str "pair", vd a', vd c'])))) := by
        simp only [setO, h8.l, hix, Option.map_some]
      have es2 : (S4.map td).set sp.toNat (.tup [.str "pair", vd a', vd c']) = (S4.set sp.toNat (.pr a' c')).map td := by rw [List.map_set]; rfl
      rw [es2] at ss
      have l9 : ((((C4.set r o5).set r o6 ++ [I]).set r o8).set C2.length (.lst ((S4.set sp.toNat (.pr a' c')).map td)))[C2.length]? = some (.lst ((S4.set sp.toNat (.pr a' c')).map td)) := List.getElem?_set_self (List.getElem?_eq_some_iff.mp h8.l).1
      refine ⟨(((C4.set r o5).set r o6 ++ [I]).set r o8).set C2.length (.lst ((S4.set sp.toNat (.pr a' c')).map td)), S4.set sp.toNat (.pr a' c'), ?_, by rw [List.length_set]; exact hlen, fun p1 p2 hm => ?_, (h8.m.wr (show b ≤ C2.length by omega) _).le (by omega), fun j o hj e => ?_, ?_⟩
      · simp only [fnBody, startD, sSeq, sIf, sAsg, sPut, sRet, sRetN, sDrop, sNx, sPar, sFor, dTest, dBin, dVar, dC, dCB, dCons, dNil, dTup, dLst, dSl, dPN, dPS, dRev, revO, dBM, isLst, dIf, dAnd, dOr, dNot, dTru, truB, dCall, dNeg, dNewK, dNewT, gN, gT, gsN, gsC, iR1, iR2, iSeq, srcOf, itemsOf, List.map_cons, List.map_nil, List.length_cons, List.length_nil, Nat.reduceAdd, Nat.reduceSub, Nat.reduceLeDiff, List.replicate_succ, List.replicate_zero, List.cons_append, List.nil_append, List.getElem?_cons_zero, List.getElem?_cons_succ, List.set_cons_zero, List.set_cons_succ, Res.bind_ok, Res.st_ok, Option.map_some, Option.bind_some, Res.lift_some, oAdd_i, oSub_i, oLt_i, oLe_i, oGt_i, oGe_i, oEq_i, oNe_i, oEq_s, oNe_s, if_true, if_false, reduceIte, Bool.false_eq_true, gInt, gLen2, gLen, Cl.gTup, gList, optS_some, SOut.seq_nx, SOut.seq_rt, SOut.seq_bk, SOut.seq_ct, bodyOut, atI_0, atI_1, atI_2, atI_3, atI_4, atI_5, oSub2_tup, oSub2_fl, Option.orElse_some, g2I, decide_true, decide_false, slO, dDct, dPairs, keyed, Int.reduceAdd, Int.reduceMul, rgRest, e5, decide_eq_true hd, e6, g6, ea, le1, le2, le3, hI, e8, ta, ss, l9, sd, vd_th, et, e0]
      · rcases List.mem_or_eq_of_mem_set hm with hm | hm
        · exact hB4.p p1 p2 hm
        · cases hm; exact hp'
      · have : j < C.length := (List.getElem?_eq_some_iff.mp e).1
        rw [List.getElem?_set_ne (by omega)]
        exact h8.k j o hj e
      · simp [cl4, cl3]; omega
    · refine ⟨C4.set r o5, S4, ?_, hlen, hB4.p, h5.m.le (by omega), h5.k, by omega⟩
      simp only [fnBody, startD, sSeq, sIf, sAsg, sPut, sRet, sRetN, sDrop, sNx, sPar, sFor, dTest, dBin, dVar, dC, dCB, dCons, dNil, dTup, dLst, dSl, dPN, dPS, dRev, revO, dBM, isLst, dIf, dAnd, dOr, dNot, dTru, truB, dCall, dNeg, dNewK, dNewT, gN, gT, gsN, gsC, iR1, iR2, iSeq, srcOf, itemsOf, List.map_cons, List.map_nil, List.length_cons, List.length_nil, Nat.reduceAdd, Nat.reduceSub, Nat.reduceLeDiff, List.replicate_succ, List.replicate_zero, List.cons_append, List.nil_append, List.getElem?_cons_zero, List.getElem?_cons_succ, List.set_cons_zero, List.set_cons_succ, Res.bind_ok, Res.st_ok, Option.map_some, Option.bind_some, Res.lift_some, oAdd_i, oSub_i, oLt_i, oLe_i, oGt_i, oGe_i, oEq_i, oNe_i, oEq_s, oNe_s, if_true, if_false, reduceIte, Bool.false_eq_true, gInt, gLen2, gLen, Cl.gTup, gList, optS_some, SOut.seq_nx, SOut.seq_rt, SOut.seq_bk, SOut.seq_ct, bodyOut, atI_0, atI_1, atI_2, atI_3, atI_4, atI_5, oSub2_tup, oSub2_fl, Option.orElse_some, g2I, decide_true, decide_false, slO, dDct, dPairs, keyed, Int.reduceAdd, Int.reduceMul, rgRest, e5, decide_eq_false hd, h5.l, sd, vd_th, le2, le3, et, e0]
  obtain ⟨C', S, er, hSn, hP, hM, hK, hL⟩ := hend
  refine ⟨C', S, 0, (1 + d1).toNat, ?_, by omega, by omega, by omega, by rw [SOk, hSn]; exact hP, hM, hK, hL⟩
  unfold F_rings
  rw [rings_form]
  simp only [fnBody, startD, sSeq, sIf, sAsg, sPut, sRet, sRetN, sDrop, sNx, sPar, sFor, dTest, dBin, dVar, dC, dCB, dCons, dNil, dTup, dLst, dSl, dPN, dPS, dRev, revO, dBM, isLst, dIf, dAnd, dOr, dNot, dTru, truB, dCall, dNeg, dNewK, dNewT, gN, gT, gsN, gsC, iR1, iR2, iSeq, srcOf, itemsOf, List.map_cons, List.map_nil, List.length_cons, List.length_nil, Nat.reduceAdd, Nat.reduceSub, Nat.reduceLeDiff, List.replicate_succ, List.replicate_zero, List.cons_append, List.nil_append, List.getElem?_cons_zero, List.getElem?_cons_succ, List.set_cons_zero, List.set_cons_succ, Res.bind_ok, Res.st_ok, Option.map_some, Option.bind_some, Res.lift_some, oAdd_i, oSub_i, oLt_i, oLe_i, oGt_i, oGe_i, oEq_i, oNe_i, oEq_s, oNe_s, if_true, if_false, reduceIte, Bool.false_eq_true, gInt, gLen2, gLen, Cl.gTup, gList, optS_some, SOut.seq_nx, SOut.seq_rt, SOut.seq_bk, SOut.seq_ct, bodyOut, atI_0, atI_1, atI_2, atI_3, atI_4, atI_5, oSub2_tup, oSub2_fl, Option.orElse_some, g2I, decide_true, decide_false, slO, dDct, dPairs, keyed, Int.reduceAdd, Int.reduceMul, e1, e2, hC2, le0, e3, le2, ef, er]
end
end Lw
set_option maxHeartbeats 4000000
/-! law_k22: stores moved about. -/
namespace Lw
open PySem Cl L2 Rd
theorem Kp.wr {r q : Nat} {C0 C : CH} (h : Kp r C0 C) (hq : C0.length ≤ q) (o : O) : Kp r C0 (C.set q o) := fun j x hj e => by
  have : j < C0.length := (List.getElem?_eq_some_iff.mp e).1
  rw [List.getElem?_set_ne (by omega)]
  exact h j x hj e
/-- a comprehension whose parts make nothing, part by part -/
theorem lc_par {chk : CH → Prop} {g : Fg} {t : Ft} {f : Fe} {sc : Sc} {C0 : CH} (hc : ∀ acc, chk (C0 ++ [.lst acc])) {ds es : List D} (h : Paired (fun d e => ∀ acc, ∃ sc1, g d sc = some sc1 ∧ t sc1 (C0 ++ [.lst acc]) = .ok true (C0 ++ [.lst acc]) ∧ f sc1 (C0 ++ [.lst acc]) = .ok e (C0 ++ [.lst acc])) ds es) :
    ∀ acc : List D, acc.length + ds.length ≤ 1000000 → lc chk g t f C0.length sc ds (C0 ++ [.lst acc]) = some (.ref C0.length, C0 ++ [.lst (acc ++ es)]) := by
  induction h with
  | nil => intro acc _; rw [lc, if_pos (hc acc), List.append_nil]
  | cons r t' ih =>
    rename_i d e ds es
    intro acc hl
    obtain ⟨sc1, e1, e2, e3⟩ := r acc
    have ep : pushD C0.length e (C0 ++ [.lst acc]) = some (C0 ++ [.lst (acc ++ [e])]) := by
      unfold pushD
      rw [get_new]
      simp only [List.length_cons] at hl
      simp only [if_pos (show acc.length ≤ 1000000 by omega), set_new]
    rw [lc, if_pos (hc acc), e1]
    simp only [Option.bind_some, e2, Res.opt_ok, if_true, e3, ep]
    rw [ih (acc ++ [e]) (by simp at hl ⊢; omega), List.append_assoc]
    rfl
theorem rng_nats (n : Nat) : rngD 0 n = nats (List.range n) := by
  unfold rngD nats
  apply List.map_congr_left
  intro i _
  rw [Int.zero_add]
theorem nats_erase : ∀ (l : List Nat) (j : Nat), (nats l).eraseIdx j = nats (l.eraseIdx j)
  | [], j => by simp [nats]
  | x :: l, 0 => rfl
  | x :: l, j + 1 => by
    have := nats_erase l j
    simp only [nats, List.map_cons, List.eraseIdx_cons_succ] at this ⊢
    rw [this]
theorem nats_at (l : List Nat) (j : Nat) : (nats l)[j]? = (l[j]?).map fun (a : Nat) => D.int a := by unfold nats; rw [List.getElem?_map]
theorem nats_len (l : List Nat) : (nats l).length = l.length := by unfold nats; rw [List.length_map]
theorem pop_at {C : CH} {q : Nat} {l : List Nat} {z : Int} (h : C[q]? = some (.lst (nats l))) (z0 : 0 ≤ z) (z1 : z < l.length) (hz : l.length < 1000000) : gPopAt (.ref q) [.int z] C = some (.int (l[z.toNat]'(by omega) : Nat), C.set q (.lst (nats (l.eraseIdx z.toNat)))) := by
  have ok : ck (-(2 ^ 63) ≤ z ∧ z < 2 ^ 63) = true := ck_of ⟨by omega, by omega⟩
  have hix : ixN (nats l).length z = some z.toNat := by
    unfold ixN
    rw [nats_len, if_pos z0, if_pos z1]
  have he : (nats l)[z.toNat]? = some (.int (l[z.toNat]'(by omega) : Nat)) := by
    rw [nats_at, List.getElem?_eq_getElem (by omega)]; rfl
  simp only [gPopAt, h, ok, if_true, hix, Option.bind_some, he, Option.map_some, nats_erase]
theorem oMul2_rep {C : CH} {a : Nat} {x : D} {k : Int} (h : C[a]? = some (.lst [x])) (k0 : 0 ≤ k) (k1 : k < 1000) : oMul2 (.ref a) (.int k) C = some (.ref C.length, C ++ [.lst (List.replicate k.toNat x)]) := by
  have e1 : oMul (.ref a) (.int k) C = none := rfl
  have ok : ck (-(2 ^ 62) ≤ k ∧ k < 2 ^ 62 ∧ [x].length * k.toNat ≤ 1000000) = true := ck_of ⟨by omega, by omega, by simp; omega⟩
  unfold oMul2 orO
  rw [e1]
  simp only [oRep, h, ok, if_true, Option.orElse_none, List.flatten_replicate_singleton]
/-! ### led -/
noncomputable def F_led : List D → CH → Res D := fnBody 2 g__law_led
theorem st6 : subT "tuple" "tuple" = true := by decide
theorem st7 : subT "bool" "tuple" = false := by decide
theorem st8 : subT "int" "tuple" = false := by decide
theorem st9 : subT "str" "tuple" = false := by decide
theorem se6 : decide (("name" : Str) = "thing") = false := by decide +kernel
theorem se7 : decide (("thing" : Str) = "thing") = true := by decide +kernel
theorem led_str (x : Str) (q : Nat) (C : CH) : F_led [.str x, .ref q] C = .ok (.str x) C := by
  have i : gIsi [.str x, .v (.ty "tuple")] C = some (.bl (subT "str" "tuple"), C) := by
    have e : tyD C (.str x) = some "str" := rfl
    simp only [gIsi, e, Option.bind_some, if_pos (show "tuple" ∈ ["bool", "int", "str", "tuple", "list", "dict"] by decide)]
  rw [st9] at i
  unfold F_led
  simp only [fnBody, startD, sSeq, sIf, sAsg, sPut, sRet, sRetN, sDrop, sNx, sPar, sFor, dTest, dBin, dVar, dC, dCB, dCons, dNil, dTup, dLst, dSl, dPN, dPS, dRev, revO, dBM, isLst, dIf, dAnd, dOr, dNot, dTru, truB, dCall, dNeg, dNewK, dNewT, gN, gT, gsN, gsC, iR1, iR2, iSeq, srcOf, itemsOf, List.map_cons, List.map_nil, List.length_cons, List.length_nil, Nat.reduceAdd, Nat.reduceSub, Nat.reduceLeDiff, List.replicate_succ, List.replicate_zero, List.cons_append, List.nil_append, List.getElem?_cons_zero, List.getElem?_cons_succ, List.set_cons_zero, List.set_cons_succ, Res.bind_ok, Res.st_ok, Option.map_some, Option.bind_some, Res.lift_some, oAdd_i, oSub_i, oLt_i, oLe_i, oGt_i, oGe_i, oEq_i, oNe_i, oEq_s, oNe_s, if_true, if_false, reduceIte, Bool.false_eq_true, gInt, gLen2, gLen, Cl.gTup, gList, optS_some, SOut.seq_nx, SOut.seq_rt, SOut.seq_bk, SOut.seq_ct, bodyOut, atI_0, atI_1, atI_2, atI_3, atI_4, atI_5, oSub2_tup, oSub2_fl, Option.orElse_some, g2I, decide_true, decide_false, slO, dDct, dPairs, keyed, Int.reduceAdd, Int.reduceMul, g__law_led, i]
theorem led_ok {C : CH} {q : Nat} {p : List Nat} (h : C[q]? = some (.lst (nats p))) {v : Vl} (hv : vok p.length v) : F_led [vd v, .ref q] C = .ok (vd (ren (fun t => p.getD t 0) v)) C := by
  have i := isi_tuple C v
  have le2 : 2 ≤ 1000 := by decide
  have le0 : 0 ≤ 1000 := by decide
  unfold F_led
  cases v with
  | bl b =>
    rw [show vty (.bl b) = "bool" from rfl, st7] at i
    simp only [fnBody, startD, sSeq, sIf, sAsg, sPut, sRet, sRetN, sDrop, sNx, sPar, sFor, dTest, dBin, dVar, dC, dCB, dCons, dNil, dTup, dLst, dSl, dPN, dPS, dRev, revO, dBM, isLst, dIf, dAnd, dOr, dNot, dTru, truB, dCall, dNeg, dNewK, dNewT, gN, gT, gsN, gsC, iR1, iR2, iSeq, srcOf, itemsOf, List.map_cons, List.map_nil, List.length_cons, List.length_nil, Nat.reduceAdd, Nat.reduceSub, Nat.reduceLeDiff, List.replicate_succ, List.replicate_zero, List.cons_append, List.nil_append, List.getElem?_cons_zero, List.getElem?_cons_succ, List.set_cons_zero, List.set_cons_succ, Res.bind_ok, Res.st_ok, Option.map_some, Option.bind_some, Res.lift_some, oAdd_i, oSub_i, oLt_i, oLe_i, oGt_i, oGe_i, oEq_i, oNe_i, oEq_s, oNe_s, if_true, if_false, reduceIte, Bool.false_eq_true, gInt, gLen2, gLen, Cl.gTup, gList, optS_some, SOut.seq_nx, SOut.seq_rt, SOut.seq_bk, SOut.seq_ct, bodyOut, atI_0, atI_1, atI_2, atI_3, atI_4, atI_5, oSub2_tup, oSub2_fl, Option.orElse_some, g2I, decide_true, decide_false, slO, dDct, dPairs, keyed, Int.reduceAdd, Int.reduceMul, g__law_led, i]
    rfl
  | nu j =>
    rw [show vty (.nu j) = "int" from rfl, st8] at i
    simp only [fnBody, startD, sSeq, sIf, sAsg, sPut, sRet, sRetN, sDrop, sNx, sPar, sFor, dTest, dBin, dVar, dC, dCB, dCons, dNil, dTup, dLst, dSl, dPN, dPS, dRev, revO, dBM, isLst, dIf, dAnd, dOr, dNot, dTru, truB, dCall, dNeg, dNewK, dNewT, gN, gT, gsN, gsC, iR1, iR2, iSeq, srcOf, itemsOf, List.map_cons, List.map_nil, List.length_cons, List.length_nil, Nat.reduceAdd, Nat.reduceSub, Nat.reduceLeDiff, List.replicate_succ, List.replicate_zero, List.cons_append, List.nil_append, List.getElem?_cons_zero, List.getElem?_cons_succ, List.set_cons_zero, List.set_cons_succ, Res.bind_ok, Res.st_ok, Option.map_some, Option.bind_some, Res.lift_some, oAdd_i, oSub_i, oLt_i, oLe_i, oGt_i, oGe_i, oEq_i, oNe_i, oEq_s, oNe_s, if_true, if_false, reduceIte, Bool.false_eq_true, gInt, gLen2, gLen, Cl.gTup, gList, optS_some, SOut.seq_nx, SOut.seq_rt, SOut.seq_bk, SOut.seq_ct, bodyOut, atI_0, atI_1, atI_2, atI_3, atI_4, atI_5, oSub2_tup, oSub2_fl, Option.orElse_some, g2I, decide_true, decide_false, slO, dDct, dPairs, keyed, Int.reduceAdd, Int.reduceMul, g__law_led, i]
    rfl
  | nil =>
    rw [show vty .nil = "tuple" from rfl, st6] at i
    have e := oNe_unit (n := 0) C (v := .nil) trivial (fun b z => by cases z) (fun b z => by cases z)
    rw [decide_eq_true rfl] at e
    have e : oNe (vd .nil) (.tup []) C = _ := e
    simp only [fnBody, startD, sSeq, sIf, sAsg, sPut, sRet, sRetN, sDrop, sNx, sPar, sFor, dTest, dBin, dVar, dC, dCB, dCons, dNil, dTup, dLst, dSl, dPN, dPS, dRev, revO, dBM, isLst, dIf, dAnd, dOr, dNot, dTru, truB, dCall, dNeg, dNewK, dNewT, gN, gT, gsN, gsC, iR1, iR2, iSeq, srcOf, itemsOf, List.map_cons, List.map_nil, List.length_cons, List.length_nil, Nat.reduceAdd, Nat.reduceSub, Nat.reduceLeDiff, List.replicate_succ, List.replicate_zero, List.cons_append, List.nil_append, List.getElem?_cons_zero, List.getElem?_cons_succ, List.set_cons_zero, List.set_cons_succ, Res.bind_ok, Res.st_ok, Option.map_some, Option.bind_some, Res.lift_some, oAdd_i, oSub_i, oLt_i, oLe_i, oGt_i, oGe_i, oEq_i, oNe_i, oEq_s, oNe_s, if_true, if_false, reduceIte, Bool.false_eq_true, gInt, gLen2, gLen, Cl.gTup, gList, optS_some, SOut.seq_nx, SOut.seq_rt, SOut.seq_bk, SOut.seq_ct, bodyOut, atI_0, atI_1, atI_2, atI_3, atI_4, atI_5, oSub2_tup, oSub2_fl, Option.orElse_some, g2I, decide_true, decide_false, slO, dDct, dPairs, keyed, Int.reduceAdd, Int.reduceMul, g__law_led, i, e, le0, Bool.not_true]
    rfl
  | nm x =>
    rw [show vty (.nm x) = "tuple" from rfl, st6] at i
    have e := oNe_unit C (v := .nm x) hv (fun b z => by cases z) (fun b z => by cases z)
    rw [decide_eq_false (by intro z; cases z)] at e
    simp only [vd] at e i ⊢
    simp only [fnBody, startD, sSeq, sIf, sAsg, sPut, sRet, sRetN, sDrop, sNx, sPar, sFor, dTest, dBin, dVar, dC, dCB, dCons, dNil, dTup, dLst, dSl, dPN, dPS, dRev, revO, dBM, isLst, dIf, dAnd, dOr, dNot, dTru, truB, dCall, dNeg, dNewK, dNewT, gN, gT, gsN, gsC, iR1, iR2, iSeq, srcOf, itemsOf, List.map_cons, List.map_nil, List.length_cons, List.length_nil, Nat.reduceAdd, Nat.reduceSub, Nat.reduceLeDiff, List.replicate_succ, List.replicate_zero, List.cons_append, List.nil_append, List.getElem?_cons_zero, List.getElem?_cons_succ, List.set_cons_zero, List.set_cons_succ, Res.bind_ok, Res.st_ok, Option.map_some, Option.bind_some, Res.lift_some, oAdd_i, oSub_i, oLt_i, oLe_i, oGt_i, oGe_i, oEq_i, oNe_i, oEq_s, oNe_s, if_true, if_false, reduceIte, Bool.false_eq_true, gInt, gLen2, gLen, Cl.gTup, gList, optS_some, SOut.seq_nx, SOut.seq_rt, SOut.seq_bk, SOut.seq_ct, bodyOut, atI_0, atI_1, atI_2, atI_3, atI_4, atI_5, oSub2_tup, oSub2_fl, Option.orElse_some, g2I, decide_true, decide_false, slO, dDct, dPairs, keyed, Int.reduceAdd, Int.reduceMul, g__law_led, i, e, le0, Bool.not_false, se6]
    rfl
  | th t =>
    rw [show vty (.th t) = "tuple" from rfl, st6] at i
    have e := oNe_unit C (v := .th t) hv (fun b z => by cases z) (fun b z => by cases z)
    rw [decide_eq_false (by intro z; cases z)] at e
    have hv : t < p.length := hv
    have ea : atI (nats p) (t : Int) = some (.int (p.getD t 0 : Nat)) := by
      rw [atI_n, nats_at, List.getElem?_eq_getElem hv, List.getD_eq_getElem?_getD, List.getElem?_eq_getElem hv]; rfl
    simp only [vd, ren] at e i ⊢
    simp only [fnBody, startD, sSeq, sIf, sAsg, sPut, sRet, sRetN, sDrop, sNx, sPar, sFor, dTest, dBin, dVar, dC, dCB, dCons, dNil, dTup, dLst, dSl, dPN, dPS, dRev, revO, dBM, isLst, dIf, dAnd, dOr, dNot, dTru, truB, dCall, dNeg, dNewK, dNewT, gN, gT, gsN, gsC, iR1, iR2, iSeq, srcOf, itemsOf, List.map_cons, List.map_nil, List.length_cons, List.length_nil, Nat.reduceAdd, Nat.reduceSub, Nat.reduceLeDiff, List.replicate_succ, List.replicate_zero, List.cons_append, List.nil_append, List.getElem?_cons_zero, List.getElem?_cons_succ, List.set_cons_zero, List.set_cons_succ, Res.bind_ok, Res.st_ok, Option.map_some, Option.bind_some, Res.lift_some, oAdd_i, oSub_i, oLt_i, oLe_i, oGt_i, oGe_i, oEq_i, oNe_i, oEq_s, oNe_s, if_true, if_false, reduceIte, Bool.false_eq_true, gInt, gLen2, gLen, Cl.gTup, gList, optS_some, SOut.seq_nx, SOut.seq_rt, SOut.seq_bk, SOut.seq_ct, bodyOut, atI_0, atI_1, atI_2, atI_3, atI_4, atI_5, oSub2_tup, oSub2_fl, Option.orElse_some, g2I, decide_true, decide_false, slO, dDct, dPairs, keyed, Int.reduceAdd, Int.reduceMul, g__law_led, i, e, le0, le2, Bool.not_false, se7, oSub2_lst h, ea]
/-! ### moved -/
noncomputable def mvB1 : Fs := (sDrop (dBM isLst gApp (dVar 6) (dCons (dBM isLst gPopAt (dVar 5) (dCons (dCall 2 F_draw (dCons (dVar 0) (dCons (dCB gLen2 (dCons (dVar 5) dNil)) dNil))) dNil)) dNil)))
noncomputable def mvB2 : Fs := (sPut (dIf (dTest (dBin oEq (dBin oSub2 (dVar 7) (dC (.int 0))) (dC (.str "pair")))) (dCB Cl.gTup (dCons (dLc (iSeq (dVar 7)) (gN 9) dYes (dCall 2 F_led (dCons (dVar 9) (dCons (dVar 6) dNil))) [9]) dNil)) (dVar 7)) (dVar 4) (dBin oSub2 (dVar 6) (dVar 3)))
noncomputable def mvEnd : Fs := (sRet (dTup (dCons (dCB Cl.gTup (dCons (dVar 4) dNil)) (dCons (dLc (iSeq (dVar 2)) (gN 8) dYes (dCall 2 F_led (dCons (dVar 8) (dCons (dVar 6) dNil))) [8]) dNil))))
theorem moved_form : g__law_moved F_led F_draw = (sSeq (sAsg (gT 2 (gsC (gN 5) (gsC (gN 6) gsN))) (dTup (dCons (dLstR (dR1 (dBin oAdd (dCB gLen2 (dCons (dVar 1) dNil)) (dC (.int 2))))) (dCons (dLst dNil) dNil))))
  (sSeq (sFor (iR1 (dCons (dCB gLen2 (dCons (dVar 1) dNil)) dNil)) (gN 3) mvB1)
  (sSeq (sAsg (gN 4) (dBin oMul2 (dLst (dCons (dTup (dCons (dC (.str "pair")) (dCons (dC (.int 7)) (dCons (dTup dNil) dNil)))) dNil)) (dBin oAdd (dCB gLen2 (dCons (dVar 1) dNil)) (dC (.int 2)))))
  (sSeq (sFor (iEnu (dCons (dVar 1) dNil)) (gT 2 (gsC (gN 3) (gsC (gN 7) gsN))) mvB2) mvEnd)))) := rfl
structure Pm (C0 C : CH) (r b ql qp n : Nat) (N : Int) (l p : List Nat) : Prop where
  m : MOk C r b N
  k : Kp r C0 C
  cl : C0.length ≤ C.length
  el : C[ql]? = some (.lst (nats l))
  ep : C[qp]? = some (.lst (nats p))
  nd : (l ++ p).Nodup
  lt : ∀ x ∈ l ++ p, x < n + 2
  ln : l.length + p.length = n + 2
  ne : ql ≠ qp
  b0 : b ≤ C0.length
  l0 : C0.length ≤ ql
  p0 : C0.length ≤ qp
theorem erase_perm : ∀ (l : List Nat) (j : Nat) (h : j < l.length), (l[j] :: l.eraseIdx j).Perm l
  | [], j, h => absurd h (Nat.not_lt_zero _)
  | x :: l, 0, _ => List.Perm.refl _
  | x :: l, j + 1, h => by
    have ih := erase_perm l j (by simpa using h)
    rw [List.getElem_cons_succ, List.eraseIdx_cons_succ]
    exact (List.Perm.swap _ _ _).trans (ih.cons x)
theorem perm_pop {l p : List Nat} {j : Nat} (h : j < l.length) : (l.eraseIdx j ++ (p ++ [l[j]])).Perm (l ++ p) := by
  have h1 : (l[j] :: l.eraseIdx j).Perm l := erase_perm l j h
  have h2 : (l.eraseIdx j ++ (p ++ [l[j]])).Perm (l[j] :: (l.eraseIdx j ++ p)) := by
    rw [← List.append_assoc]
    exact List.perm_append_singleton _ _
  exact h2.trans (h1.append_right p)
theorem pm_turn {C0 C : CH} {r b ql qp n : Nat} {N : Int} {l p : List Nat} (h : Pm C0 C r b ql qp n N l p) (hn : n ≤ 100) (hN : N < 900000) (hl : 0 < l.length) (s1 s2 s3 s4 s7 s8 s9 : Option D) :
    ∃ C' l' p', mvB1 [some (.ref r), s1, s2, s3, s4, some (.ref ql), some (.ref qp), s7, s8, s9] C = .nx [some (.ref r), s1, s2, s3, s4, some (.ref ql), some (.ref qp), s7, s8, s9] C' ∧ Pm C0 C' r b ql qp n (N + 1) l' p' ∧ p'.length = p.length + 1 := by
  have hln := h.ln
  obtain ⟨z, o, e, z0, z1, m1⟩ := draw_ok h.m (b := (l.length : Nat)) (by omega) (by omega) (by omega)
  have rl : r ≠ ql := by have := h.m.rb; have := h.b0; have := h.l0; omega
  have rp : r ≠ qp := by have := h.m.rb; have := h.b0; have := h.p0; omega
  have l1 : (C.set r o)[ql]? = some (.lst (nats l)) := by rw [List.getElem?_set_ne rl]; exact h.el
  have p1 : (C.set r o)[qp]? = some (.lst (nats p)) := by rw [List.getElem?_set_ne rp]; exact h.ep
  have hz : z.toNat < l.length := by omega
  have gp := pop_at l1 z0 z1 (by omega)
  have p2 : ((C.set r o).set ql (.lst (nats (l.eraseIdx z.toNat))))[qp]? = some (.lst (nats p)) := by rw [List.getElem?_set_ne h.ne]; exact p1
  have ga := app_at p2 (by rw [nats_len]; omega) (.int (l[z.toNat] : Nat))
  have en : nats p ++ [D.int (l[z.toNat] : Nat)] = nats (p ++ [l[z.toNat]]) := by rw [← nats_app]; rfl
  rw [en] at ga
  have ql1 : ql < C.length := (List.getElem?_eq_some_iff.mp h.el).1
  have qp1 : qp < C.length := (List.getElem?_eq_some_iff.mp h.ep).1
  have pr := perm_pop (l := l) (p := p) hz
  refine ⟨((C.set r o).set ql (.lst (nats (l.eraseIdx z.toNat)))).set qp (.lst (nats (p ++ [l[z.toNat]]))), l.eraseIdx z.toNat, p ++ [l[z.toNat]], ?_, ⟨?_, ?_, by simp; exact h.cl, ?_, ?_, ?_, ?_, ?_, h.ne, h.b0, h.l0, h.p0⟩, by simp⟩
  · simp only [fnBody, startD, sSeq, sIf, sAsg, sPut, sRet, sRetN, sDrop, sNx, sPar, sFor, dTest, dBin, dVar, dC, dCB, dCons, dNil, dTup, dLst, dSl, dPN, dPS, dRev, revO, dBM, isLst, dIf, dAnd, dOr, dNot, dTru, truB, dCall, dNeg, dNewK, dNewT, gN, gT, gsN, gsC, iR1, iR2, iSeq, srcOf, itemsOf, List.map_cons, List.map_nil, List.length_cons, List.length_nil, Nat.reduceAdd, Nat.reduceSub, Nat.reduceLeDiff, List.replicate_succ, List.replicate_zero, List.cons_append, List.nil_append, List.getElem?_cons_zero, List.getElem?_cons_succ, List.set_cons_zero, List.set_cons_succ, Res.bind_ok, Res.st_ok, Option.map_some, Option.bind_some, Res.lift_some, oAdd_i, oSub_i, oLt_i, oLe_i, oGt_i, oGe_i, oEq_i, oNe_i, oEq_s, oNe_s, if_true, if_false, reduceIte, Bool.false_eq_true, gInt, gLen2, gLen, Cl.gTup, gList, optS_some, SOut.seq_nx, SOut.seq_rt, SOut.seq_bk, SOut.seq_ct, bodyOut, atI_0, atI_1, atI_2, atI_3, atI_4, atI_5, oSub2_tup, oSub2_fl, Option.orElse_some, g2I, decide_true, decide_false, slO, dDct, dPairs, keyed, Int.reduceAdd, Int.reduceMul, mvB1, h.el, h.ep, nats_len, e, gp, p2, ga]
  · exact ((m1.wr (by have := h.b0; have := h.l0; omega) _).wr (by have := h.b0; have := h.p0; omega) _)
  · exact ((h.k.trans (Kp.set r C o)).wr h.l0 _).wr h.p0 _
  · rw [List.getElem?_set_ne (Ne.symm h.ne)]
    exact List.getElem?_set_self (by rw [List.length_set]; exact ql1)
  · exact List.getElem?_set_self (by rw [List.length_set, List.length_set]; exact qp1)
  · exact pr.nodup_iff.mpr h.nd
  · intro x hx
    exact h.lt x (pr.mem_iff.mp hx)
  · have := pr.length_eq
    simp only [List.length_append] at this ⊢
    omega
/-- while the things are put to their places -/
structure Fm (C0 C : CH) (r b qp qf n : Nat) (N : Int) (p : List Nat) (S F : List Th) (i : Nat) : Prop where
  m : MOk C r b N
  k : Kp r C0 C
  cl : C0.length ≤ C.length
  ep : C[qp]? = some (.lst (nats p))
  ef : C[qf]? = some (.lst (F.map td))
  fl : F.length = n + 2
  ok : POk (n + 2) F
  at' : ∀ (t : Nat) (x : Th), t < i → S[t]? = some x → F[p.getD t 0]? = some (renT (fun t => p.getD t 0) x)
  ne : qp ≠ qf
  p0 : C0.length ≤ qp
  f0 : C0.length ≤ qf
  b0 : b ≤ C0.length
theorem getD_at {p : List Nat} {t : Nat} (h : t < p.length) : p[t]? = some (p.getD t 0) := by
  rw [List.getD_eq_getElem?_getD, List.getElem?_eq_getElem h]; rfl
theorem nd_inj {p : List Nat} (h : p.Nodup) {t u : Nat} (ht : t < p.length) (hu : u < p.length) (e : p.getD t 0 = p.getD u 0) : t = u := by
  have h1 := getD_at ht
  have h2 := getD_at hu
  rw [e, ← h2] at h1
  have pw := List.pairwise_iff_getElem.mp h
  rw [List.getElem?_eq_getElem ht, List.getElem?_eq_getElem hu] at h1
  have h1 := Option.some.inj h1
  rcases Nat.lt_trichotomy t u with z | z | z
  · exact absurd h1 (pw t u ht hu z)
  · exact z
  · exact absurd h1.symm (pw u t hu ht z)
theorem fm_turn {C0 C : CH} {r b qp qf n : Nat} {N : Int} {p : List Nat} {S F : List Th} {i : Nat} (h : Fm C0 C r b qp qf n N p S F i) (hS : SOk S) (hSn : S.length = n) (hp : p.length = n) (hnd : p.Nodup) (hlt : ∀ x ∈ p, x < n + 2) (hn : n ≤ 100) {x : Th} (hx : S[i]? = some x) (s1 s2 s5 s8 s9 : Option D) :
    ∃ C' F', mvB2 [some (.ref r), s1, s2, some (.int i), some (.ref qf), s5, some (.ref qp), some (td x), s8, s9] C = .nx [some (.ref r), s1, s2, some (.int i), some (.ref qf), s5, some (.ref qp), some (td x), s8, s9] C' ∧ Fm C0 C' r b qp qf n N p S F' (i + 1) := by
  have hi : i < n := by rw [← hSn]; exact (List.getElem?_eq_some_iff.mp hx).1
  have hfl := h.fl
  have hpi := getD_at (p := p) (t := i) (by omega)
  have hlti := hlt _ (List.mem_of_getElem? hpi)
  have ea : atI (nats p) (i : Int) = some (.int (p.getD i 0 : Nat)) := by rw [atI_n, nats_at, hpi]; rfl
  have rest : ∀ (C2 : CH) (G : CH), C2 = C ++ G → (∀ a c, renT (fun t => p.getD t 0) x = .pr a c → vok (n + 2) a ∧ vok (n + 2) c) →
      setO (.ref qf) (.int (p.getD i 0 : Nat)) (td (renT (fun t => p.getD t 0) x)) C2 = some (C2.set qf (.lst ((F.set (p.getD i 0) (renT (fun t => p.getD t 0) x)).map td))) ∧
      Fm C0 (C2.set qf (.lst ((F.set (p.getD i 0) (renT (fun t => p.getD t 0) x)).map td))) r b qp qf n N p S (F.set (p.getD i 0) (renT (fun t => p.getD t 0) x)) (i + 1) := by
    intro C2 G eG hok
    have old : ∀ {j : Nat} {o : O}, C[j]? = some o → C2[j]? = some o := fun {j o} e => by rw [eG, List.getElem?_append_left (List.getElem?_eq_some_iff.mp e).1]; exact e
    have cl2 : C.length ≤ C2.length := by rw [eG]; simp
    have hf := old h.ef
    have hix : ixN (F.map td).length ((p.getD i 0 : Nat) : Int) = some (p.getD i 0) := by
      unfold ixN
      rw [List.length_map, if_pos (by omega), if_pos (by omega)]
      rfl
    refine ⟨by simp only [setO, hf, hix, Option.map_some, List.map_set], ⟨?_, ?_, by rw [List.length_set]; have := h.cl; omega, ?_, ?_, by rw [List.length_set]; exact hfl, ?_, ?_, h.ne, h.p0, h.f0, h.b0⟩⟩
    · obtain ⟨l, s, c, pp, cl, m1, m2, m3⟩ := h.m
      exact MOk.wr ⟨l, s, c, pp, cl, old m1, old m2, m3⟩ (by have := h.b0; have := h.f0; omega) _
    · exact (h.k.trans fun j o _ e => old e).wr h.f0 _
    · rw [List.getElem?_set_ne (Ne.symm h.ne)]; exact old h.ep
    · exact List.getElem?_set_self (List.getElem?_eq_some_iff.mp hf).1
    · intro a c hm
      rcases List.mem_or_eq_of_mem_set hm with hm | hm
      · exact h.ok a c hm
      · exact hok a c hm.symm
    · intro t y ht hy
      by_cases e : t = i
      · subst e
        rw [hx] at hy; cases hy
        exact List.getElem?_set_self (by omega)
      · have hti : p.getD i 0 ≠ p.getD t 0 := fun z => e (nd_inj hnd (by omega) (by omega) z.symm)
        rw [List.getElem?_set_ne hti]
        exact h.at' t y (by omega) hy
  cases x with
  | pr a c =>
    have hac := hS a c (List.mem_of_getElem? hx)
    rw [hSn] at hac
    have rok : ∀ v, vok n v → vok (n + 2) (ren (fun t => p.getD t 0) v) := fun v hv => by
      cases v with
      | th t => exact hlt _ (List.mem_of_getElem? (getD_at (by have : t < n := hv; omega)))
      | nil => trivial
      | bl _ => trivial
      | nu _ => exact hv
      | nm _ => exact hv
    obtain ⟨r1, r2⟩ := rest (C ++ [.lst [.str "pair", vd (ren (fun t => p.getD t 0) a), vd (ren (fun t => p.getD t 0) c)]]) _ rfl (fun a' c' e => by
      simp only [renT, Th.pr.injEq] at e
      exact ⟨e.1 ▸ rok a hac.1, e.2 ▸ rok c hac.2⟩)
    refine ⟨_, _, ?_, r2⟩
    have hP : ∀ acc, (C ++ [O.lst acc])[qp]? = some (.lst (nats p)) := fun acc => get_old h.ep
    have hl := lc_par (chk := fun _ => True) (g := gN 9) (t := dYes) (f := dCall 2 F_led (dCons (dVar 9) (dCons (dVar 6) dNil))) (C0 := C)
      (sc := [some (.ref r), s1, s2, some (.int i), some (.ref qf), s5, some (.ref qp), some (td (.pr a c)), s8, none]) (fun _ => trivial) (ds := [.str "pair", vd a, vd c]) (es := [.str "pair", vd (ren (fun t => p.getD t 0) a), vd (ren (fun t => p.getD t 0) c)])
      (.cons (fun acc => ⟨_, rfl, rfl, by
          have := led_str "pair" qp (C ++ [O.lst acc])
          simp only [fnBody, startD, sSeq, sIf, sAsg, sPut, sRet, sRetN, sDrop, sNx, sPar, sFor, dTest, dBin, dVar, dC, dCB, dCons, dNil, dTup, dLst, dSl, dPN, dPS, dRev, revO, dBM, isLst, dIf, dAnd, dOr, dNot, dTru, truB, dCall, dNeg, dNewK, dNewT, gN, gT, gsN, gsC, iR1, iR2, iSeq, srcOf, itemsOf, List.map_cons, List.map_nil, List.length_cons, List.length_nil, Nat.reduceAdd, Nat.reduceSub, Nat.reduceLeDiff, List.replicate_succ, List.replicate_zero, List.cons_append, List.nil_append, List.getElem?_cons_zero, List.getElem?_cons_succ, List.set_cons_zero, List.set_cons_succ, Res.bind_ok, Res.st_ok, Option.map_some, Option.bind_some, Res.lift_some, oAdd_i, oSub_i, oLt_i, oLe_i, oGt_i, oGe_i, oEq_i, oNe_i, oEq_s, oNe_s, if_true, if_false, reduceIte, Bool.false_eq_true, gInt, gLen2, gLen, Cl.gTup, gList, optS_some, SOut.seq_nx, SOut.seq_rt, SOut.seq_bk, SOut.seq_ct, bodyOut, atI_0, atI_1, atI_2, atI_3, atI_4, atI_5, oSub2_tup, oSub2_fl, Option.orElse_some, g2I, decide_true, decide_false, slO, dDct, dPairs, keyed, Int.reduceAdd, Int.reduceMul, this]⟩) (.cons (fun acc => ⟨_, rfl, rfl, by
          have := led_ok (hP acc) (v := a) (by rw [hp]; exact hac.1)
          simp only [fnBody, startD, sSeq, sIf, sAsg, sPut, sRet, sRetN, sDrop, sNx, sPar, sFor, dTest, dBin, dVar, dC, dCB, dCons, dNil, dTup, dLst, dSl, dPN, dPS, dRev, revO, dBM, isLst, dIf, dAnd, dOr, dNot, dTru, truB, dCall, dNeg, dNewK, dNewT, gN, gT, gsN, gsC, iR1, iR2, iSeq, srcOf, itemsOf, List.map_cons, List.map_nil, List.length_cons, List.length_nil, Nat.reduceAdd, Nat.reduceSub, Nat.reduceLeDiff, List.replicate_succ, List.replicate_zero, List.cons_append, List.nil_append, List.getElem?_cons_zero, List.getElem?_cons_succ, List.set_cons_zero, List.set_cons_succ, Res.bind_ok, Res.st_ok, Option.map_some, Option.bind_some, Res.lift_some, oAdd_i, oSub_i, oLt_i, oLe_i, oGt_i, oGe_i, oEq_i, oNe_i, oEq_s, oNe_s, if_true, if_false, reduceIte, Bool.false_eq_true, gInt, gLen2, gLen, Cl.gTup, gList, optS_some, SOut.seq_nx, SOut.seq_rt, SOut.seq_bk, SOut.seq_ct, bodyOut, atI_0, atI_1, atI_2, atI_3, atI_4, atI_5, oSub2_tup, oSub2_fl, Option.orElse_some, g2I, decide_true, decide_false, slO, dDct, dPairs, keyed, Int.reduceAdd, Int.reduceMul, this]⟩) (.cons (fun acc => ⟨_, rfl, rfl, by
          have := led_ok (hP acc) (v := c) (by rw [hp]; exact hac.2)
          simp only [fnBody, startD, sSeq, sIf, sAsg, sPut, sRet, sRetN, sDrop, sNx, sPar, sFor, dTest, dBin, dVar, dC, dCB, dCons, dNil, dTup, dLst, dSl, dPN, dPS, dRev, revO, dBM, isLst, dIf, dAnd, dOr, dNot, dTru, truB, dCall, dNeg, dNewK, dNewT, gN, gT, gsN, gsC, iR1, iR2, iSeq, srcOf, itemsOf, List.map_cons, List.map_nil, List.length_cons, List.length_nil, Nat.reduceAdd, Nat.reduceSub, Nat.reduceLeDiff, List.replicate_succ, List.replicate_zero, List.cons_append, List.nil_append, List.getElem?_cons_zero, List.getElem?_cons_succ, List.set_cons_zero, List.set_cons_succ, Res.bind_ok, Res.st_ok, Option.map_some, Option.bind_some, Res.lift_some, oAdd_i, oSub_i, oLt_i, oLe_i, oGt_i, oGe_i, oEq_i, oNe_i, oEq_s, oNe_s, if_true, if_false, reduceIte, Bool.false_eq_true, gInt, gLen2, gLen, Cl.gTup, gList, optS_some, SOut.seq_nx, SOut.seq_rt, SOut.seq_bk, SOut.seq_ct, bodyOut, atI_0, atI_1, atI_2, atI_3, atI_4, atI_5, oSub2_tup, oSub2_fl, Option.orElse_some, g2I, decide_true, decide_false, slO, dDct, dPairs, keyed, Int.reduceAdd, Int.reduceMul, this]⟩) .nil))) [] (by simp)
    rw [List.nil_append] at hl
    have hP2 := hP [.str "pair", vd (ren (fun t => p.getD t 0) a), vd (ren (fun t => p.getD t 0) c)]
    have g2 := oSub2_lst hP2 (i : Int)
    simp only [renT, td] at r1 hl ⊢
    simp only [fnBody, startD, sSeq, sIf, sAsg, sPut, sRet, sRetN, sDrop, sNx, sPar, sFor, dTest, dBin, dVar, dC, dCB, dCons, dNil, dTup, dLst, dSl, dPN, dPS, dRev, revO, dBM, isLst, dIf, dAnd, dOr, dNot, dTru, truB, dCall, dNeg, dNewK, dNewT, gN, gT, gsN, gsC, iR1, iR2, iSeq, srcOf, itemsOf, List.map_cons, List.map_nil, List.length_cons, List.length_nil, Nat.reduceAdd, Nat.reduceSub, Nat.reduceLeDiff, List.replicate_succ, List.replicate_zero, List.cons_append, List.nil_append, List.getElem?_cons_zero, List.getElem?_cons_succ, List.set_cons_zero, List.set_cons_succ, Res.bind_ok, Res.st_ok, Option.map_some, Option.bind_some, Res.lift_some, oAdd_i, oSub_i, oLt_i, oLe_i, oGt_i, oGe_i, oEq_i, oNe_i, oEq_s, oNe_s, if_true, if_false, reduceIte, Bool.false_eq_true, gInt, gLen2, gLen, Cl.gTup, gList, optS_some, SOut.seq_nx, SOut.seq_rt, SOut.seq_bk, SOut.seq_ct, bodyOut, atI_0, atI_1, atI_2, atI_3, atI_4, atI_5, oSub2_tup, oSub2_fl, Option.orElse_some, g2I, decide_true, decide_false, slO, dDct, dPairs, keyed, Int.reduceAdd, Int.reduceMul, mvB2, se3, dLc, wipeD, hl, get_new, g2, ea, r1]
  | fa =>
    obtain ⟨r1, r2⟩ := rest C [] (by simp) (fun a c e => by cases e)
    refine ⟨_, _, ?_, r2⟩
    have g2 := oSub2_lst h.ep (i : Int)
    simp only [renT, td] at r1 ⊢
    simp only [fnBody, startD, sSeq, sIf, sAsg, sPut, sRet, sRetN, sDrop, sNx, sPar, sFor, dTest, dBin, dVar, dC, dCB, dCons, dNil, dTup, dLst, dSl, dPN, dPS, dRev, revO, dBM, isLst, dIf, dAnd, dOr, dNot, dTru, truB, dCall, dNeg, dNewK, dNewT, gN, gT, gsN, gsC, iR1, iR2, iSeq, srcOf, itemsOf, List.map_cons, List.map_nil, List.length_cons, List.length_nil, Nat.reduceAdd, Nat.reduceSub, Nat.reduceLeDiff, List.replicate_succ, List.replicate_zero, List.cons_append, List.nil_append, List.getElem?_cons_zero, List.getElem?_cons_succ, List.set_cons_zero, List.set_cons_succ, Res.bind_ok, Res.st_ok, Option.map_some, Option.bind_some, Res.lift_some, oAdd_i, oSub_i, oLt_i, oLe_i, oGt_i, oGe_i, oEq_i, oNe_i, oEq_s, oNe_s, if_true, if_false, reduceIte, Bool.false_eq_true, gInt, gLen2, gLen, Cl.gTup, gList, optS_some, SOut.seq_nx, SOut.seq_rt, SOut.seq_bk, SOut.seq_ct, bodyOut, atI_0, atI_1, atI_2, atI_3, atI_4, atI_5, oSub2_tup, oSub2_fl, Option.orElse_some, g2I, decide_true, decide_false, slO, dDct, dPairs, keyed, Int.reduceAdd, Int.reduceMul, mvB2, se1, g2, ea, r1]
  | fb =>
    obtain ⟨r1, r2⟩ := rest C [] (by simp) (fun a c e => by cases e)
    refine ⟨_, _, ?_, r2⟩
    have g2 := oSub2_lst h.ep (i : Int)
    simp only [renT, td] at r1 ⊢
    simp only [fnBody, startD, sSeq, sIf, sAsg, sPut, sRet, sRetN, sDrop, sNx, sPar, sFor, dTest, dBin, dVar, dC, dCB, dCons, dNil, dTup, dLst, dSl, dPN, dPS, dRev, revO, dBM, isLst, dIf, dAnd, dOr, dNot, dTru, truB, dCall, dNeg, dNewK, dNewT, gN, gT, gsN, gsC, iR1, iR2, iSeq, srcOf, itemsOf, List.map_cons, List.map_nil, List.length_cons, List.length_nil, Nat.reduceAdd, Nat.reduceSub, Nat.reduceLeDiff, List.replicate_succ, List.replicate_zero, List.cons_append, List.nil_append, List.getElem?_cons_zero, List.getElem?_cons_succ, List.set_cons_zero, List.set_cons_succ, Res.bind_ok, Res.st_ok, Option.map_some, Option.bind_some, Res.lift_some, oAdd_i, oSub_i, oLt_i, oLe_i, oGt_i, oGe_i, oEq_i, oNe_i, oEq_s, oNe_s, if_true, if_false, reduceIte, Bool.false_eq_true, gInt, gLen2, gLen, Cl.gTup, gList, optS_some, SOut.seq_nx, SOut.seq_rt, SOut.seq_bk, SOut.seq_ct, bodyOut, atI_0, atI_1, atI_2, atI_3, atI_4, atI_5, oSub2_tup, oSub2_fl, Option.orElse_some, g2I, decide_true, decide_false, slO, dDct, dPairs, keyed, Int.reduceAdd, Int.reduceMul, mvB2, se2, g2, ea, r1]
end Lw
set_option maxHeartbeats 4000000
/-! law_k22: stores moved about, whole. -/
namespace Lw
open PySem Cl L2 Rd
noncomputable def F_moved : List D → CH → Res D := fnBody 10 (g__law_moved F_led F_draw)
theorem moved_ok {C : CH} {r b : Nat} {N : Int} (m : MOk C r b N) (hb : b ≤ C.length) (hN : N < 800000) {S : List Th} (hS : SOk S) {n : Nat} (hSn : S.length = n) (hn : n ≤ 100) {qv : Nat} {v w : Vl} (hq : C[qv]? = some (.lst [vd v, vd w])) (hqr : qv ≠ r) (hv : vok n v) (hw : vok n w) :
    ∃ C' S' f q2, F_moved [.ref r, sd S, .ref qv] C = .ok (.tup [sd S', .ref q2]) C' ∧ C'[q2]? = some (.lst [vd (ren f v), vd (ren f w)]) ∧ C.length ≤ q2 ∧ Mv f S S' ∧ SOk S' ∧ S'.length = n + 2 ∧ vok (n + 2) (ren f v) ∧ vok (n + 2) (ren f w) ∧ MOk C' r b (N + n) ∧ Kp r C C' ∧ C.length ≤ C'.length := by
  subst hSn
  generalize hA : O.lst (nats (List.range (S.length + 2))) = A
  have hqp : (C ++ [A]).length = C.length + 1 := by simp
  have hP0 : Pm C (C ++ [A] ++ [O.lst []]) r b C.length (C ++ [A]).length S.length N (List.range (S.length + 2)) [] := by
    refine ⟨(m.app A).app _, (Kp.app r C A).trans (Kp.app r _ _), by simp, by rw [app_get, hA], get_new _ _, by rw [List.append_nil]; exact List.nodup_range, fun x hx => by rw [List.append_nil] at hx; exact List.mem_range.mp hx, by simp, by omega, hb, Nat.le_refl _, by omega⟩
  have hl : (rngD 0 S.length).length = S.length := by simp [rngD]
  obtain ⟨sc2, C2, e2, l2, p2, y3, rfl, hP, hpl⟩ := fr_inv (chk := fun _ => True) (g := gN 3) (b := mvB1) (rngD 0 S.length)
    (fun i sc C' => ∃ l p y3, sc = [some (.ref r), some (sd S), some (.ref qv), y3, none, some (.ref C.length), some (.ref (C ++ [A]).length), none, none, none] ∧ Pm C C' r b C.length (C ++ [A]).length S.length (N + i) l p ∧ p.length = i)
    [some (.ref r), some (sd S), some (.ref qv), none, none, some (.ref C.length), some (.ref (C ++ [A]).length), none, none, none] (C ++ [A] ++ [O.lst []]) ⟨_, [], none, rfl, by simpa using hP0, rfl⟩ (fun _ _ _ _ => trivial) (fun i d sc C2 hd ⟨l, p, y3, e1, hB, hpl⟩ => by
      subst e1
      have hi : i < S.length := by rw [← hl]; exact (List.getElem?_eq_some_iff.mp hd).1
      have := hB.ln
      obtain ⟨C3, l', p', e3, h3, hp3⟩ := pm_turn hB hn (by omega) (by omega) (some (sd S)) (some (.ref qv)) (some d) none none none none
      exact ⟨_, rfl, _, C3, .inl e3, l', p', some d, rfl, by
        have : N + ((i + 1 : Nat) : Int) = N + i + 1 := by push_cast; omega
        rw [this]; exact h3, by omega⟩)
  rw [hl] at hP hpl
  have hnd : p2.Nodup := (List.nodup_append.mp hP.nd).2.1
  have hlt : ∀ x ∈ p2, x < S.length + 2 := fun x hx => hP.lt x (List.mem_append_right _ hx)
  -- the empty store
  generalize hB : O.lst [.tup [.str "pair", .int 7, .tup []]] = B
  have erep : List.replicate (S.length + 2) (D.tup [.str "pair", .int 7, .tup []]) = (List.replicate (S.length + 2) (Th.pr (.nu 7) .nil)).map td := by rw [List.map_replicate]; rfl
  have hm7 : (C2 ++ [B])[C2.length]? = some (.lst [.tup [.str "pair", .int 7, .tup []]]) := by rw [get_new, hB]
  have hk0 : (((S.length : Nat) : Int) + 2).toNat = S.length + 2 := by omega
  have ml := oMul2_rep (k := ((S.length : Nat) : Int) + 2) hm7 (by omega) (by omega)
  rw [hk0, erep] at ml
  generalize hF : O.lst ((List.replicate (S.length + 2) (Th.pr (.nu 7) .nil)).map td) = F0 at ml
  have hcl2 := hP.cl
  have hF0 : Fm C (C2 ++ [B] ++ [F0]) r b (C ++ [A]).length (C2 ++ [B]).length S.length (N + S.length) p2 S (List.replicate (S.length + 2) (Th.pr (.nu 7) .nil)) 0 := by
    have hqp2 := (List.getElem?_eq_some_iff.mp hP.ep).1
    refine ⟨(hP.m.app B).app F0, hP.k.trans ((Kp.app r _ B).trans (Kp.app r _ F0)), by simp; omega, get_old (get_old hP.ep), by rw [get_new, hF], by simp, fun a c hm => ?_, fun t x ht => absurd ht (Nat.not_lt_zero _), by simp only [List.length_append, List.length_cons, List.length_nil] at hqp2 ⊢; omega, hP.p0, by simp; omega, hb⟩
    have := List.eq_of_mem_replicate hm
    cases this
    exact ⟨⟨by decide, by decide⟩, trivial⟩
  have hle : (enumD 0 (S.map td)).length = S.length := by rw [enumD_length, List.length_map]
  obtain ⟨sc4, C4, e4, F, z3, z7, rfl, hFm⟩ := fr_inv (chk := fun _ => True) (g := gT 2 (gsC (gN 3) (gsC (gN 7) gsN))) (b := mvB2) (enumD 0 (S.map td))
    (fun i sc C' => ∃ F z3 z7, sc = [some (.ref r), some (sd S), some (.ref qv), z3, some (.ref (C2 ++ [B]).length), some (.ref C.length), some (.ref (C ++ [A]).length), z7, none, none] ∧ Fm C C' r b (C ++ [A]).length (C2 ++ [B]).length S.length (N + S.length) p2 S F i)
    [some (.ref r), some (sd S), some (.ref qv), y3, some (.ref (C2 ++ [B]).length), some (.ref C.length), some (.ref (C ++ [A]).length), none, none, none] (C2 ++ [B] ++ [F0]) ⟨_, y3, none, rfl, hF0⟩ (fun _ _ _ _ => trivial) (fun i d sc C5 hd ⟨F, z3, z7, e1, hFm⟩ => by
      subst e1
      rw [enumD_get] at hd
      have hi : i < S.length := by
        apply Classical.byContradiction
        intro z
        rw [List.getElem?_eq_none (by rw [List.length_map]; omega)] at hd
        cases hd
      obtain ⟨x, hx⟩ : ∃ x, S[i]? = some x := ⟨_, List.getElem?_eq_getElem hi⟩
      rw [List.getElem?_map, hx] at hd
      have hd := (Option.some.inj hd).symm
      rw [Nat.zero_add] at hd
      subst hd
      obtain ⟨C6, F', e6, h6⟩ := fm_turn hFm hS rfl hpl hnd hlt hn hx (some (sd S)) (some (.ref qv)) (some (.ref C.length)) none none
      exact ⟨_, rfl, _, C6, .inl e6, F', _, _, rfl, h6⟩)
  rw [hle] at hFm
  have M : Mv (fun t => p2.getD t 0) S F := ⟨fun t x hx => hFm.at' t x (List.getElem?_eq_some_iff.mp hx).1 hx, fun t u ht hu e => nd_inj hnd (by omega) (by omega) e⟩
  have rok : ∀ v, vok S.length v → vok (S.length + 2) (ren (fun t => p2.getD t 0) v) := fun v hv => by
    cases v with
    | th t => exact hlt _ (List.mem_of_getElem? (getD_at (by have : t < S.length := hv; omega)))
    | nil => trivial
    | bl _ => trivial
    | nu _ => exact hv
    | nm _ => exact hv
  have hq4 : C4[qv]? = some (.lst [vd v, vd w]) := hFm.k qv _ hqr hq
  have hlc := lc_par (chk := fun C => C[qv]? = some (.lst [vd v, vd w])) (g := gN 8) (t := dYes) (f := dCall 2 F_led (dCons (dVar 8) (dCons (dVar 6) dNil))) (C0 := C4)
    (sc := [some (.ref r), some (sd S), some (.ref qv), z3, some (.ref (C2 ++ [B]).length), some (.ref C.length), some (.ref (C ++ [A]).length), z7, none, none]) (fun _ => get_old hq4) (ds := [vd v, vd w]) (es := [vd (ren (fun t => p2.getD t 0) v), vd (ren (fun t => p2.getD t 0) w)])
    (.cons (fun acc => ⟨_, rfl, rfl, by
        have := led_ok (get_old (o := O.lst acc) hFm.ep) (v := v) (by rw [hpl]; exact hv)
        simp only [fnBody, startD, sSeq, sIf, sAsg, sPut, sRet, sRetN, sDrop, sNx, sPar, sFor, dTest, dBin, dVar, dC, dCB, dCons, dNil, dTup, dLst, dSl, dPN, dPS, dRev, revO, dBM, isLst, dIf, dAnd, dOr, dNot, dTru, truB, dCall, dNeg, dNewK, dNewT, gN, gT, gsN, gsC, iR1, iR2, iSeq, srcOf, itemsOf, List.map_cons, List.map_nil, List.length_cons, List.length_nil, Nat.reduceAdd, Nat.reduceSub, Nat.reduceLeDiff, List.replicate_succ, List.replicate_zero, List.cons_append, List.nil_append, List.getElem?_cons_zero, List.getElem?_cons_succ, List.set_cons_zero, List.set_cons_succ, Res.bind_ok, Res.st_ok, Option.map_some, Option.bind_some, Res.lift_some, oAdd_i, oSub_i, oLt_i, oLe_i, oGt_i, oGe_i, oEq_i, oNe_i, oEq_s, oNe_s, if_true, if_false, reduceIte, Bool.false_eq_true, gInt, gLen2, gLen, Cl.gTup, gList, optS_some, SOut.seq_nx, SOut.seq_rt, SOut.seq_bk, SOut.seq_ct, bodyOut, atI_0, atI_1, atI_2, atI_3, atI_4, atI_5, oSub2_tup, oSub2_fl, Option.orElse_some, g2I, decide_true, decide_false, slO, dDct, dPairs, keyed, Int.reduceAdd, Int.reduceMul, this]⟩) (.cons (fun acc => ⟨_, rfl, rfl, by
        have := led_ok (get_old (o := O.lst acc) hFm.ep) (v := w) (by rw [hpl]; exact hw)
        simp only [fnBody, startD, sSeq, sIf, sAsg, sPut, sRet, sRetN, sDrop, sNx, sPar, sFor, dTest, dBin, dVar, dC, dCB, dCons, dNil, dTup, dLst, dSl, dPN, dPS, dRev, revO, dBM, isLst, dIf, dAnd, dOr, dNot, dTru, truB, dCall, dNeg, dNewK, dNewT, gN, gT, gsN, gsC, iR1, iR2, iSeq, srcOf, itemsOf, List.map_cons, List.map_nil, List.length_cons, List.length_nil, Nat.reduceAdd, Nat.reduceSub, Nat.reduceLeDiff, List.replicate_succ, List.replicate_zero, List.cons_append, List.nil_append, List.getElem?_cons_zero, List.getElem?_cons_succ, List.set_cons_zero, List.set_cons_succ, Res.bind_ok, Res.st_ok, Option.map_some, Option.bind_some, Res.lift_some, oAdd_i, oSub_i, oLt_i, oLe_i, oGt_i, oGe_i, oEq_i, oNe_i, oEq_s, oNe_s, if_true, if_false, reduceIte, Bool.false_eq_true, gInt, gLen2, gLen, Cl.gTup, gList, optS_some, SOut.seq_nx, SOut.seq_rt, SOut.seq_bk, SOut.seq_ct, bodyOut, atI_0, atI_1, atI_2, atI_3, atI_4, atI_5, oSub2_tup, oSub2_fl, Option.orElse_some, g2I, decide_true, decide_false, slO, dDct, dPairs, keyed, Int.reduceAdd, Int.reduceMul, this]⟩) .nil)) [] (by simp)
  rw [List.nil_append] at hlc
  have hcl4 := hFm.cl
  refine ⟨C4 ++ [.lst [vd (ren (fun t => p2.getD t 0) v), vd (ren (fun t => p2.getD t 0) w)]], F, fun t => p2.getD t 0, C4.length, ?_, get_new _ _, hcl4, M, by rw [SOk, hFm.fl]; exact hFm.ok, hFm.fl, rok v hv, rok w hw, hFm.m.app _, hFm.k.trans (Kp.app r _ _), by simp; omega⟩
  have okr : okRg (0, ((S.length : Nat) : Int) + 2) = true := ck_of (RgOk.of_le (Int.le_refl 0) (by show _ ≤ (16777216 : Int); omega) (show (0 : Int) ≤ 16777216 by decide) (by show (0 : Int) ≤ _; omega))
  have bs := rng1_i (j := ((S.length : Nat) : Int)) (by omega) (by omega)
  have hr0 : rngD 0 (((S.length : Nat) : Int) + 2 - 0).toNat = nats (List.range (S.length + 2)) := by
    rw [show (((S.length : Nat) : Int) + 2 - 0).toNat = S.length + 2 by omega, rng_nats]
  have le0 : 0 ≤ 1000 := by decide
  have le1 : 1 ≤ 1000 := by decide
  have le2 : 2 ≤ 1000 := by decide
  have le3 : 3 ≤ 1000 := by decide
  have lm : (S.map td).length = S.length := List.length_map _
  have hSt : ((S.length : Nat) : Int).toNat = S.length := by omega
  unfold F_moved
  rw [moved_form]
  simp only [sd] at e2 e4 hlc ⊢
  simp only [fnBody, startD, sSeq, sIf, sAsg, sPut, sRet, sRetN, sDrop, sNx, sPar, sFor, dTest, dBin, dVar, dC, dCB, dCons, dNil, dTup, dLst, dSl, dPN, dPS, dRev, revO, dBM, isLst, dIf, dAnd, dOr, dNot, dTru, truB, dCall, dNeg, dNewK, dNewT, gN, gT, gsN, gsC, iR1, iR2, iSeq, srcOf, itemsOf, List.map_cons, List.map_nil, List.length_cons, List.length_nil, Nat.reduceAdd, Nat.reduceSub, Nat.reduceLeDiff, List.replicate_succ, List.replicate_zero, List.cons_append, List.nil_append, List.getElem?_cons_zero, List.getElem?_cons_succ, List.set_cons_zero, List.set_cons_succ, Res.bind_ok, Res.st_ok, Option.map_some, Option.bind_some, Res.lift_some, oAdd_i, oSub_i, oLt_i, oLe_i, oGt_i, oGe_i, oEq_i, oNe_i, oEq_s, oNe_s, if_true, if_false, reduceIte, Bool.false_eq_true, gInt, gLen2, gLen, Cl.gTup, gList, optS_some, SOut.seq_nx, SOut.seq_rt, SOut.seq_bk, SOut.seq_ct, bodyOut, atI_0, atI_1, atI_2, atI_3, atI_4, atI_5, oSub2_tup, oSub2_fl, Option.orElse_some, g2I, decide_true, decide_false, slO, dDct, dPairs, keyed, Int.reduceAdd, Int.reduceMul, dLstR, dR1, r1O, lrO, okr, hr0, hA, le0, le2, lm, bs, hSt, e2, le3, le1, hB, ml, iEnu, enuO, e4, mvEnd, hFm.ef, hq4, dLc, wipeD, hlc]
end Lw
set_option maxHeartbeats 4000000
/-! law_k22: all that is compared. -/
namespace Lw
open PySem Cl L2 Rd
/-! ### plain data -/
theorem ln_thing : ("thing" : Str).length = 5 := by decide +kernel
theorem ln_name : ("name" : Str).length = 4 := by decide +kernel
theorem ln_pair : ("pair" : Str).length = 4 := by decide +kernel
theorem ln_fn : ("fn" : Str).length = 2 := by decide +kernel
theorem ln_kept : ("kept" : Str).length = 4 := by decide +kernel
theorem ln_x : ("x" : Str).length = 1 := by decide +kernel
theorem ln_y : ("y" : Str).length = 1 := by decide +kernel
theorem pd_nat (k a : Nat) (h : a < 1000000) : Pd k (.int (a : Int)) := .int k _ (log_small (by omega) (by omega))
theorem pd_v {n k : Nat} {v : Vl} (h : vok n v) (hn : n ≤ 1000) : Pd (k + 1) (vd v) := by
  cases v with
  | th t => exact .tup _ _ (.cons _ _ _ (.str _ _ so_thing) (.cons _ _ _ (pd_nat _ t (by have : t < n := h; omega)) (.nil _)))
  | nil => exact .tup _ _ (.nil _)
  | bl b => exact .bl _ _
  | nu i => exact .int _ _ (log_small h.1 h.2)
  | nm x => exact .tup _ _ (.cons _ _ _ (.str _ _ so_name) (.cons _ _ _ (.str _ _ (so_nm h)) (.nil _)))
theorem sz_v {n : Nat} {v : Vl} (h : vok n v) : szD (vd v) ≤ 2000 := by
  cases v with
  | th t => simp [vd, szD, szDs, ln_thing]
  | nil => simp [vd, szD, szDs]
  | bl b => simp [vd, szD]
  | nu i => simp [vd, szD]
  | nm x =>
    rcases h with rfl | rfl
    · simp [vd, szD, szDs, ln_name, ln_x]
    · simp [vd, szD, szDs, ln_name, ln_y]
theorem pd_s {S : List Th} (hS : SOk S) (hn : S.length ≤ 1000) : Pd 3 (sd S) := by
  refine .tup _ _ ?_
  have : ∀ T : List Th, (∀ x ∈ T, x ∈ S) → Pds 2 (T.map td) := by
    intro T
    induction T with
    | nil => intro _; exact .nil _
    | cons x T ih =>
      intro h
      refine .cons _ _ _ ?_ (ih fun y hy => h y (List.mem_cons_of_mem _ hy))
      have hx := h x List.mem_cons_self
      cases x with
      | pr a c => exact .tup _ _ (.cons _ _ _ (.str _ _ so_pair) (.cons _ _ _ (pd_v (hS a c hx).1 hn) (.cons _ _ _ (pd_v (hS a c hx).2 hn) (.nil _))))
      | fa => exact .tup _ _ (.cons _ _ _ (.str _ _ so_fn) (.cons _ _ _ (.tup _ _ (.cons _ _ _ (pd_nat _ 0 (by decide)) (.nil _))) (.cons _ _ _ (.tup _ _ (.nil _)) (.nil _))))
      | fb => exact .tup _ _ (.cons _ _ _ (.str _ _ so_kept) (.cons _ _ _ (.tup _ _ (.nil _)) (.cons _ _ _ (.tup _ _ (.nil _)) (.nil _))))
  exact this S fun _ h => h
theorem sz_s {S : List Th} (hS : SOk S) (hn : S.length ≤ 1000) : szD (sd S) ≤ 5000 * S.length + 3 := by
  have : ∀ T : List Th, (∀ x ∈ T, x ∈ S) → szDs (T.map td) ≤ 5000 * T.length := by
    intro T
    induction T with
    | nil => intro _; simp [szDs]
    | cons x T ih =>
      intro h
      have := ih fun y hy => h y (List.mem_cons_of_mem _ hy)
      have hx := h x List.mem_cons_self
      have : szD (td x) ≤ 4900 := by
        cases x with
        | pr a c =>
          have := sz_v (hS a c hx).1
          have := sz_v (hS a c hx).2
          simp only [td, szD, szDs, ln_pair]; omega
        | fa => simp [td, szD, szDs, ln_fn]
        | fb => simp [td, szD, szDs, ln_kept]
      rw [List.map_cons, szDs, List.length_cons]; omega
  have := this S fun _ h => h
  show szDs (S.map td) + 3 ≤ _
  omega
def Rok (r : List Nat) : Prop := (∀ s ∈ r, s = 1 ∨ s = 2) ∧ r.length ≤ 500
theorem pd_r0 (k : Nat) : ∀ r : List Nat, (∀ s ∈ r, s = 1 ∨ s = 2) → Pds k (nats r)
  | [], _ => .nil _
  | s :: r, h => .cons _ _ _ (pd_nat _ s (by have := h s List.mem_cons_self; omega)) (pd_r0 k r fun x hx => h x (List.mem_cons_of_mem _ hx))
theorem pd_r {r : List Nat} (h : Rok r) (k : Nat) : Pds k (nats r) := pd_r0 k r h.1
theorem sz_r (r : List Nat) : szDs (nats r) = 1923 * r.length := by
  induction r with
  | nil => rfl
  | cons s r ih => simp only [nats, List.map_cons, szDs, szD, List.length_cons] at ih ⊢; omega
def Ook (o : Option (List Nat)) : Prop := ∀ r, o = some r → Rok r
theorem pd_o {o : Option (List Nat)} (h : Ook o) (k : Nat) : Pd (k + 1) (optD o) := by
  cases o with
  | none => exact .non _
  | some r => exact .tup _ _ (pd_r (h r rfl) _)
theorem sz_o {o : Option (List Nat)} (h : Ook o) : szD (optD o) ≤ 1000000 := by
  cases o with
  | none => simp [optD, szD]
  | some r =>
    have := (h r rfl).2
    show szDs (nats r) + 3 ≤ _
    rw [sz_r]; omega
theorem go_valid {S : List Th} : ∀ (r : List Nat) (v a : Vl), go S v r = some a → ∀ s ∈ r, s = 1 ∨ s = 2
  | [], v, a, _, s, hs => nomatch hs
  | x :: r, v, a, e, s, hs => by
    have e : ((ch S x v).bind fun y => go S y r) = some a := e
    cases e1 : ch S x v with
    | none => rw [e1] at e; cases e
    | some y =>
      rw [e1] at e
      rcases List.mem_cons.mp hs with rfl | hs
      · exact ch_step e1
      · exact go_valid r y a e s hs
theorem ook_of {S : List Th} {v w : Vl} {o : Option (List Nat)} (h : Least S v w o) (lb : ∀ r, o = some r → r.length ≤ 200) : Ook o := by
  intro r hr
  subst hr
  obtain ⟨a, b, e1, _, _⟩ := h.1
  exact ⟨go_valid r v a e1, by have := lb r rfl; omega⟩
/-! ### roads gone along -/
theorem tell_ok {S : List Th} (hS : SOk S) : ∀ (r : List Nat) (v : Vl) (k : Nat), vok S.length v → match tell S v r k with
    | .inl z => vok S.length z
    | .inr j => j ≤ k + r.length
  | [], v, k, h => h
  | s :: r, v, k, h => by
    rw [tell]
    cases e : ch S s v with
    | none => simp only; omega
    | some x =>
      have := tell_ok hS r x (k + 1) (ch_ok hS e)
      simp only
      cases q : tell S x r (k + 1) with
      | inl z => rw [q] at this; exact this
      | inr j => rw [q] at this; simp only [List.length_cons] at this ⊢; omega
noncomputable def roadBody (CN : Addr) : Fs := (sIf (dTest (dBin oNe (dCB gRpr (dCons (dCall 3 (F_told CN) (dCons (dVar 1) (dCons (dVar 11) (dCons (dVar 6) dNil)))) dNil)) (dCB gRpr (dCons (dCall 3 F_la (dCons (dVar 1) (dCons (dVar 11) (dCons (dVar 6) dNil)))) dNil)))) (sRet (dC (.bl false))) sNx)
section
variable {S : List Th} {CN : Addr}
theorem road_same (hS : SOk S) (hn : S.length ≤ 20) {x : Vl} (hx : vok S.length x) {r : List Nat} (hr : Rok r) (C : CH) (s0 s2 s3 s4 s5 s7 s8 s9 s10 s12 : Option D) : ∃ G : CH, roadBody CN [s0, some (sd S), s2, s3, s4, s5, some (.tup (nats r)), s7, s8, s9, s10, some (vd x), s12] C = .nx [s0, some (sd S), s2, s3, s4, s5, some (.tup (nats r)), s7, s8, s9, s10, some (vd x), s12] (C ++ G) := by
  have e1 := told_ok (CN := CN) hS hr.1 hx C
  have tk := tell_ok hS r x 0 hx
  cases ht : tell S x r 0 with
  | inl z =>
    rw [ht] at tk e1
    have e2 := la_ok hS hr.1 hx (C ++ [.lst [vd z]])
    rw [ht] at e2
    have hz : szDs [vd z] ≤ 15000000 := by have := sz_v tk; simp only [szDs]; omega
    have p : Pds 1 [vd z] := .cons _ _ _ (pd_v tk (by omega)) (.nil _)
    have r1 := rpr_lst p (by decide) hz (C := C ++ [.lst [vd z]]) (n := C.length) (get_new _ _)
    have r2 := rpr_lst p (by decide) hz (C := C ++ [.lst [vd z]] ++ [.lst [vd z]]) (n := (C ++ [O.lst [vd z]]).length) (get_new _ _)
    refine ⟨[.lst [vd z]] ++ [.lst [vd z]], ?_⟩
    rw [← List.append_assoc]
    unfold tolD at e1 e2
    simp only [fnBody, startD, sSeq, sIf, sAsg, sPut, sRet, sRetN, sDrop, sNx, sPar, sFor, dTest, dBin, dVar, dC, dCB, dCons, dNil, dTup, dLst, dSl, dPN, dPS, dRev, revO, dBM, isLst, dIf, dAnd, dOr, dNot, dTru, truB, dCall, dNeg, dNewK, dNewT, gN, gT, gsN, gsC, iR1, iR2, iSeq, srcOf, itemsOf, List.map_cons, List.map_nil, List.length_cons, List.length_nil, Nat.reduceAdd, Nat.reduceSub, Nat.reduceLeDiff, List.replicate_succ, List.replicate_zero, List.cons_append, List.nil_append, List.getElem?_cons_zero, List.getElem?_cons_succ, List.set_cons_zero, List.set_cons_succ, Res.bind_ok, Res.st_ok, Option.map_some, Option.bind_some, Res.lift_some, oAdd_i, oSub_i, oLt_i, oLe_i, oGt_i, oGe_i, oEq_i, oNe_i, oEq_s, oNe_s, if_true, if_false, reduceIte, Bool.false_eq_true, gInt, gLen2, gLen, Cl.gTup, gList, optS_some, SOut.seq_nx, SOut.seq_rt, SOut.seq_bk, SOut.seq_ct, bodyOut, atI_0, atI_1, atI_2, atI_3, atI_4, atI_5, oSub2_tup, oSub2_fl, Option.orElse_some, g2I, decide_true, decide_false, slO, dDct, dPairs, keyed, Int.reduceAdd, Int.reduceMul, roadBody, e1, r1, e2, r2, eq_self, Bool.not_true]
  | inr j =>
    rw [ht] at tk e1
    have e2 := la_ok hS hr.1 hx C
    rw [ht] at e2
    have hj : j ≤ 500 := by have := hr.2; have tk : j ≤ 0 + r.length := tk; omega
    have r1 := rpr_pd (pd_nat 0 j (by omega)) (by decide) (by simp [szD]) C
    refine ⟨[], ?_⟩
    rw [List.append_nil]
    unfold tolD at e1 e2
    simp only [fnBody, startD, sSeq, sIf, sAsg, sPut, sRet, sRetN, sDrop, sNx, sPar, sFor, dTest, dBin, dVar, dC, dCB, dCons, dNil, dTup, dLst, dSl, dPN, dPS, dRev, revO, dBM, isLst, dIf, dAnd, dOr, dNot, dTru, truB, dCall, dNeg, dNewK, dNewT, gN, gT, gsN, gsC, iR1, iR2, iSeq, srcOf, itemsOf, List.map_cons, List.map_nil, List.length_cons, List.length_nil, Nat.reduceAdd, Nat.reduceSub, Nat.reduceLeDiff, List.replicate_succ, List.replicate_zero, List.cons_append, List.nil_append, List.getElem?_cons_zero, List.getElem?_cons_succ, List.set_cons_zero, List.set_cons_succ, Res.bind_ok, Res.st_ok, Option.map_some, Option.bind_some, Res.lift_some, oAdd_i, oSub_i, oLt_i, oLe_i, oGt_i, oGe_i, oEq_i, oNe_i, oEq_s, oNe_s, if_true, if_false, reduceIte, Bool.false_eq_true, gInt, gLen2, gLen, Cl.gTup, gList, optS_some, SOut.seq_nx, SOut.seq_rt, SOut.seq_bk, SOut.seq_ct, bodyOut, atI_0, atI_1, atI_2, atI_3, atI_4, atI_5, oSub2_tup, oSub2_fl, Option.orElse_some, g2I, decide_true, decide_false, slO, dDct, dPairs, keyed, Int.reduceAdd, Int.reduceMul, roadBody, e1, r1, e2, eq_self, Bool.not_true]
theorem roads_loop (hS : SOk S) (hn : S.length ≤ 20) {v w : Vl} (hv : vok S.length v) (hw : vok S.length w) {rs : List (List Nat)} (hr : ∀ r ∈ rs, Rok r) {C : CH} {n : Nat} (hC : C[n]? = some (.lst (rs.map fun r => .tup (nats r)))) (s0 s4 s5 s6 s7 s8 s9 s10 s11 s12 : Option D) : ∃ C' y6 y11,
    fr (fun C => C[n]? = some (.lst (rs.map fun r => .tup (nats r)))) (gN 6) (sFor (iSeq (dTup (dCons (dVar 2) (dCons (dVar 3) dNil)))) (gN 11) (roadBody CN)) (rs.map fun r => .tup (nats r)) [s0, some (sd S), some (vd v), some (vd w), s4, s5, s6, s7, s8, s9, s10, s11, s12] C =
      .nx [s0, some (sd S), some (vd v), some (vd w), s4, s5, y6, s7, s8, s9, s10, y11, s12] C' ∧ ∃ G, C' = C ++ G := by
  obtain ⟨sc', C', e, y6, y11, G, rfl, eG⟩ := fr_inv (chk := fun C => C[n]? = some (.lst (rs.map fun r => .tup (nats r)))) (g := gN 6) (b := sFor (iSeq (dTup (dCons (dVar 2) (dCons (dVar 3) dNil)))) (gN 11) (roadBody CN)) (rs.map fun r => .tup (nats r))
    (fun i sc C' => ∃ y6 y11 G, sc = [s0, some (sd S), some (vd v), some (vd w), s4, s5, y6, s7, s8, s9, s10, y11, s12] ∧ C' = C ++ G)
    _ C ⟨s6, s11, [], rfl, (List.append_nil _).symm⟩ (fun i sc C' ⟨_, _, G, _, e⟩ => by
      rw [e, List.getElem?_append_left (List.getElem?_eq_some_iff.mp hC).1]; exact hC) (fun i d sc C2 hd ⟨y6, y11, G, e1, e2⟩ => by
      subst e1 e2
      rw [List.getElem?_map] at hd
      cases q : rs[i]? with
      | none => rw [q] at hd; cases hd
      | some r =>
        rw [q] at hd
        cases hd
        have hr' := hr r (List.mem_of_getElem? q)
        obtain ⟨G1, f1⟩ := road_same (CN := CN) hS hn hv hr' (C ++ G) s0 (some (vd v)) (some (vd w)) s4 s5 s7 s8 s9 s10 s12
        obtain ⟨G2, f2⟩ := road_same (CN := CN) hS hn hw hr' (C ++ G ++ G1) s0 (some (vd v)) (some (vd w)) s4 s5 s7 s8 s9 s10 s12
        have ef : fr (fun _ => True) (gN 11) (roadBody CN) [vd v, vd w] [s0, some (sd S), some (vd v), some (vd w), s4, s5, some (.tup (nats r)), s7, s8, s9, s10, y11, s12] (C ++ G) = .nx [s0, some (sd S), some (vd v), some (vd w), s4, s5, some (.tup (nats r)), s7, s8, s9, s10, some (vd w), s12] (C ++ G ++ G1 ++ G2) := by
          rw [fr_nx rfl f1, fr_nx rfl f2, fr_nil]
        have le2 : 2 ≤ 1000 := by decide
        refine ⟨_, rfl, [s0, some (sd S), some (vd v), some (vd w), s4, s5, some (.tup (nats r)), s7, s8, s9, s10, some (vd w), s12], C ++ G ++ G1 ++ G2, .inl ?_, _, _, G ++ G1 ++ G2, rfl, by simp [List.append_assoc]⟩
        simp only [fnBody, startD, sSeq, sIf, sAsg, sPut, sRet, sRetN, sDrop, sNx, sPar, sFor, dTest, dBin, dVar, dC, dCB, dCons, dNil, dTup, dLst, dSl, dPN, dPS, dRev, revO, dBM, isLst, dIf, dAnd, dOr, dNot, dTru, truB, dCall, dNeg, dNewK, dNewT, gN, gT, gsN, gsC, iR1, iR2, iSeq, srcOf, itemsOf, List.map_cons, List.map_nil, List.length_cons, List.length_nil, Nat.reduceAdd, Nat.reduceSub, Nat.reduceLeDiff, List.replicate_succ, List.replicate_zero, List.cons_append, List.nil_append, List.getElem?_cons_zero, List.getElem?_cons_succ, List.set_cons_zero, List.set_cons_succ, Res.bind_ok, Res.st_ok, Option.map_some, Option.bind_some, Res.lift_some, oAdd_i, oSub_i, oLt_i, oLe_i, oGt_i, oGe_i, oEq_i, oNe_i, oEq_s, oNe_s, if_true, if_false, reduceIte, Bool.false_eq_true, gInt, gLen2, gLen, Cl.gTup, gList, optS_some, SOut.seq_nx, SOut.seq_rt, SOut.seq_bk, SOut.seq_ct, bodyOut, atI_0, atI_1, atI_2, atI_3, atI_4, atI_5, oSub2_tup, oSub2_fl, Option.orElse_some, g2I, decide_true, decide_false, slO, dDct, dPairs, keyed, Int.reduceAdd, Int.reduceMul, le2, ef])
  exact ⟨C', y6, y11, e, G, eG⟩
end
/-! ### a drawn road -/
theorem road_drawn {r b n0 : Nat} {C0 : CH} {sc : Sc} (hsc : sc[0]? = some (some (.ref r))) (hs12 : ∀ d, (sc.set 12 (some d))[0]? = some (some (.ref r))) : ∀ (ds : List D) (C : CH) (N : Int) (acc : List Nat), MOk C r b N → Kp r C0 C → C0.length ≤ n0 → b ≤ n0 → C[n0]? = some (.lst (nats acc)) → (∀ s ∈ acc, s = 1 ∨ s = 2) → acc.length + ds.length ≤ 400 → N + ds.length < 900000 → ∃ C' acc',
    lc (fun _ => True) (gN 12) dYes (dBin oAdd (dC (.int 1)) (dCall 2 F_draw (dCons (dVar 0) (dCons (dC (.int 2)) dNil)))) n0 sc ds C = some (.ref n0, C') ∧ C'[n0]? = some (.lst (nats acc')) ∧ Rok acc' ∧ MOk C' r b (N + ds.length) ∧ Kp r C0 C' ∧ C'.length = C.length
  | [], C, N, acc, m, k, _, _, h, ha, hl, _ => ⟨C, acc, by rw [lc, if_pos trivial], h, ⟨ha, by simp at hl; omega⟩, by simpa using m, k, rfl⟩
  | d :: ds, C, N, acc, m, k, h0, hb, h, ha, hl, hN => by
    simp only [List.length_cons] at hl hN
    obtain ⟨z, o, e, z0, z1, m1⟩ := draw_ok m (b := 2) (by push_cast at hN; omega) (by decide) (by decide)
    have hr : r ≠ n0 := by have := m.rb; omega
    have h1 : (C.set r o)[n0]? = some (.lst (nats acc)) := by rw [List.getElem?_set_ne hr]; exact h
    have en : nats acc ++ [D.int (1 + z)] = nats (acc ++ [(1 + z).toNat]) := by
      rw [← nats_app]
      have : ((1 + z).toNat : Int) = 1 + z := by omega
      show _ = nats acc ++ [D.int (((1 + z).toNat : Nat) : Int)]
      rw [this]
    have ep : pushD n0 (.int (1 + z)) (C.set r o) = some ((C.set r o).set n0 (.lst (nats (acc ++ [(1 + z).toNat])))) := by
      unfold pushD
      simp only [h1, if_pos (show (nats acc).length ≤ 1000000 by rw [nats_len]; omega), en]
    have hn : n0 < C.length := (List.getElem?_eq_some_iff.mp h).1
    obtain ⟨C', acc', e2, r1, r2, r3, r4, r5⟩ := road_drawn hsc hs12 ds ((C.set r o).set n0 (.lst (nats (acc ++ [(1 + z).toNat])))) (N + 1) (acc ++ [(1 + z).toNat]) (m1.wr hb _) ((k.trans (Kp.set r C o)).wr h0 _) h0 hb (List.getElem?_set_self (by rw [List.length_set]; exact hn)) (fun s hs => by
      rcases List.mem_append.mp hs with hs | hs
      · exact ha s hs
      · rw [List.mem_singleton.mp hs]; omega) (by simp; omega) (by push_cast at hN; omega)
    refine ⟨C', acc', ?_, r1, r2, by
      have : N + ((d :: ds).length : Int) = N + 1 + (ds.length : Int) := by simp only [List.length_cons]; push_cast; omega
      rw [this]; exact r3, r4, by rw [r5]; simp⟩
    have ef : dBin oAdd (dC (.int 1)) (dCall 2 F_draw (dCons (dVar 0) (dCons (dC (.int 2)) dNil))) (sc.set 12 (some d)) C = .ok (.int (1 + z)) (C.set r o) := by
      simp only [fnBody, startD, sSeq, sIf, sAsg, sPut, sRet, sRetN, sDrop, sNx, sPar, sFor, dTest, dBin, dVar, dC, dCB, dCons, dNil, dTup, dLst, dSl, dPN, dPS, dRev, revO, dBM, isLst, dIf, dAnd, dOr, dNot, dTru, truB, dCall, dNeg, dNewK, dNewT, gN, gT, gsN, gsC, iR1, iR2, iSeq, srcOf, itemsOf, List.map_cons, List.map_nil, List.length_cons, List.length_nil, Nat.reduceAdd, Nat.reduceSub, Nat.reduceLeDiff, List.replicate_succ, List.replicate_zero, List.cons_append, List.nil_append, List.getElem?_cons_zero, List.getElem?_cons_succ, List.set_cons_zero, List.set_cons_succ, Res.bind_ok, Res.st_ok, Option.map_some, Option.bind_some, Res.lift_some, oAdd_i, oSub_i, oLt_i, oLe_i, oGt_i, oGe_i, oEq_i, oNe_i, oEq_s, oNe_s, if_true, if_false, reduceIte, Bool.false_eq_true, gInt, gLen2, gLen, Cl.gTup, gList, optS_some, SOut.seq_nx, SOut.seq_rt, SOut.seq_bk, SOut.seq_ct, bodyOut, atI_0, atI_1, atI_2, atI_3, atI_4, atI_5, oSub2_tup, oSub2_fl, Option.orElse_some, g2I, decide_true, decide_false, slO, dDct, dPairs, keyed, Int.reduceAdd, Int.reduceMul, hs12, e]
    have et : dYes (sc.set 12 (some d)) C = .ok true C := rfl
    rw [lc, if_pos trivial, gN]
    simp only [Option.bind_some, et, Res.opt_ok, if_true, ef, ep]
    exact e2
end Lw
set_option maxHeartbeats 4000000
/-! law_k22: a store looked at from all sides. -/
namespace Lw
open PySem Cl L2 Rd
noncomputable def extraE : Fe := (dIf (dTest (dBin (oIs true) (dVar 8) (dC .non))) (dLst (dCons (dVar 8) (dCons (dBin oAdd (dVar 8) (dTup (dCons (dC (.int 1)) dNil))) (dCons (dBin oAdd (dSl (dVar 8) dPN (dPS (dNeg (dC (.int 1))))) (dTup (dCons (dC (.int 2)) (dCons (dC (.int 2)) dNil)))) dNil)))) (dLst dNil))
def rD (rs : List (List Nat)) : List D := rs.map fun r => .tup (nats r)
theorem cut_nats (r : List Nat) (lo hi : Option Int) : ∃ q, cutD (nats r) lo hi = nats q ∧ (∀ s ∈ q, s ∈ r) ∧ q.length ≤ r.length := by
  refine ⟨(r.drop (HT.sIx (nats r).length 0 lo)).take (HT.sIx (nats r).length (nats r).length hi - HT.sIx (nats r).length 0 lo), ?_, fun s hs => List.mem_of_mem_drop (List.mem_of_mem_take hs), ?_⟩
  · unfold cutD nats
    rw [← List.map_drop, ← List.map_take]
  · rw [List.length_take, List.length_drop]; omega
theorem Rok.app {r q : List Nat} (h : ∀ s ∈ r, s = 1 ∨ s = 2) (h' : ∀ s ∈ q, s = 1 ∨ s = 2) (hl : r.length + q.length ≤ 500) : Rok (r ++ q) :=
  ⟨fun s hs => (List.mem_append.mp hs).elim (h s) (h' s), by rw [List.length_append]; exact hl⟩
theorem extra_ok {o : Option (List Nat)} (ho : Ook o) (lb : ∀ r, o = some r → r.length ≤ 200) (C : CH) (s0 s1 s2 s3 s4 s5 s6 s7 s9 s10 s11 s12 : Option D) : ∃ rs, extraE [s0, s1, s2, s3, s4, s5, s6, s7, some (optD o), s9, s10, s11, s12] C = .ok (.ref C.length) (C ++ [.lst (rD rs)]) ∧ (∀ r ∈ rs, Rok r) ∧ rs.length ≤ 3 := by
  have le0 : 0 ≤ 1000 := by decide
  have le1 : 1 ≤ 1000 := by decide
  have le2 : 2 ≤ 1000 := by decide
  have le3 : 3 ≤ 1000 := by decide
  cases o with
  | none =>
    refine ⟨[], ?_, (fun r hr => nomatch hr), by simp⟩
    have e : oIs true (optD none) .non C = some (.bl false, C) := rfl
    simp only [fnBody, startD, sSeq, sIf, sAsg, sPut, sRet, sRetN, sDrop, sNx, sPar, sFor, dTest, dBin, dVar, dC, dCB, dCons, dNil, dTup, dLst, dSl, dPN, dPS, dRev, revO, dBM, isLst, dIf, dAnd, dOr, dNot, dTru, truB, dCall, dNeg, dNewK, dNewT, gN, gT, gsN, gsC, iR1, iR2, iSeq, srcOf, itemsOf, List.map_cons, List.map_nil, List.length_cons, List.length_nil, Nat.reduceAdd, Nat.reduceSub, Nat.reduceLeDiff, List.replicate_succ, List.replicate_zero, List.cons_append, List.nil_append, List.getElem?_cons_zero, List.getElem?_cons_succ, List.set_cons_zero, List.set_cons_succ, Res.bind_ok, Res.st_ok, Option.map_some, Option.bind_some, Res.lift_some, oAdd_i, oSub_i, oLt_i, oLe_i, oGt_i, oGe_i, oEq_i, oNe_i, oEq_s, oNe_s, if_true, if_false, reduceIte, Bool.false_eq_true, gInt, gLen2, gLen, Cl.gTup, gList, optS_some, SOut.seq_nx, SOut.seq_rt, SOut.seq_bk, SOut.seq_ct, bodyOut, atI_0, atI_1, atI_2, atI_3, atI_4, atI_5, oSub2_tup, oSub2_fl, Option.orElse_some, g2I, decide_true, decide_false, slO, dDct, dPairs, keyed, Int.reduceAdd, Int.reduceMul, extraE, e, le0, rD]
  | some r =>
    obtain ⟨hr, _⟩ := ho r rfl
    have hl := lb r rfl
    obtain ⟨q, eq, hq, lq⟩ := cut_nats r none (some (-1))
    have e : oIs true (.tup (nats r)) .non C = some (.bl true, C) := rfl
    have a1 : ∀ C, oAdd (.tup (nats r)) (.tup [.int 1]) C = _ := fun C => oAdd_tup (nats r) [.int 1] (by rw [nats_len]; simp; omega) C
    have a2 : ∀ C, oAdd (.tup (nats q)) (.tup [.int 2, .int 2]) C = _ := fun C => oAdd_tup (nats q) [.int 2, .int 2] (by rw [nats_len]; simp; omega) C
    refine ⟨[r, r ++ [1], q ++ [2, 2]], ?_, fun x hx => ?_, by simp⟩
    · have n1 : nats r ++ [D.int 1] = nats (r ++ [1]) := by rw [← nats_app]; rfl
      have n2 : nats q ++ [D.int 2, D.int 2] = nats (q ++ [2, 2]) := by rw [← nats_app]; rfl
      rw [n1] at a1
      rw [n2] at a2
      simp only [fnBody, startD, sSeq, sIf, sAsg, sPut, sRet, sRetN, sDrop, sNx, sPar, sFor, dTest, dBin, dVar, dC, dCB, dCons, dNil, dTup, dLst, dSl, dPN, dPS, dRev, revO, dBM, isLst, dIf, dAnd, dOr, dNot, dTru, truB, dCall, dNeg, dNewK, dNewT, gN, gT, gsN, gsC, iR1, iR2, iSeq, srcOf, itemsOf, List.map_cons, List.map_nil, List.length_cons, List.length_nil, Nat.reduceAdd, Nat.reduceSub, Nat.reduceLeDiff, List.replicate_succ, List.replicate_zero, List.cons_append, List.nil_append, List.getElem?_cons_zero, List.getElem?_cons_succ, List.set_cons_zero, List.set_cons_succ, Res.bind_ok, Res.st_ok, Option.map_some, Option.bind_some, Res.lift_some, oAdd_i, oSub_i, oLt_i, oLe_i, oGt_i, oGe_i, oEq_i, oNe_i, oEq_s, oNe_s, if_true, if_false, reduceIte, Bool.false_eq_true, gInt, gLen2, gLen, Cl.gTup, gList, optS_some, SOut.seq_nx, SOut.seq_rt, SOut.seq_bk, SOut.seq_ct, bodyOut, atI_0, atI_1, atI_2, atI_3, atI_4, atI_5, oSub2_tup, oSub2_fl, Option.orElse_some, g2I, decide_true, decide_false, slO, dDct, dPairs, keyed, Int.reduceAdd, Int.reduceMul, extraE, optD, e, le1, le2, le3, a1, eq, a2, rD]
    · simp only [List.mem_cons, List.not_mem_nil, or_false] at hx
      rcases hx with rfl | rfl | rfl
      · exact ⟨hr, by omega⟩
      · exact Rok.app hr (by simp) (by simp; omega)
      · exact Rok.app (fun s hs => hr s (hq s hs)) (by simp) (by simp; omega)
section
variable {CN : Addr}
noncomputable def P1 : Fs := (sPar 7 8 (dCons (dCB gRpr (dCons (dVar 1) dNil)) (dCons (dCall 3 F_least (dCons (dVar 1) (dCons (dVar 2) (dCons (dVar 3) dNil)))) dNil)))
noncomputable def P2 : Fs := (sAsg (gN 4) (dLst (dCons (dCall 3 F_part (dCons (dVar 1) (dCons (dVar 2) (dCons (dVar 3) dNil)))) (dCons (dCall 3 F_part (dCons (dVar 1) (dCons (dVar 3) (dCons (dVar 2) dNil)))) (dCons (dCall 3 F_part (dCons (dVar 1) (dCons (dVar 2) (dCons (dVar 3) dNil)))) dNil)))))
noncomputable def P3 : Fs := (sIf (dOr (dTest (dBin oNe (dCB gRpr (dCons (dVar 4) dNil)) (dCB gRpr (dCons (dLst (dCons (dVar 8) (dCons (dVar 8) (dCons (dVar 8) dNil)))) dNil)))) (dTest (dBin oNe (dCB gRpr (dCons (dVar 1) dNil)) (dVar 7)))) (sRet (dC (.bl false))) sNx)
noncomputable def P4 : Fs := (sIf (dTest (dBin oNe (dCB gRpr (dCons (dLst (dCons (dCall 3 F_alike (dCons (dVar 1) (dCons (dVar 2) (dCons (dVar 3) dNil)))) (dCons (dCall 3 F_alike (dCons (dVar 1) (dCons (dVar 3) (dCons (dVar 2) dNil)))) dNil))) dNil)) (dCB gRpr (dCons (dLst (dCons (dBin (oIs false) (dVar 8) (dC .non)) (dCons (dBin (oIs false) (dVar 8) (dC .non)) dNil))) dNil)))) (sRet (dC (.bl false))) sNx)
noncomputable def P5 : Fs := (sIf (dTest (dBin oNe (dCB gRpr (dCons (dLst (dCons (dCall 3 F_alike (dCons (dVar 1) (dCons (dVar 2) (dCons (dVar 2) dNil)))) (dCons (dCall 3 F_part (dCons (dVar 1) (dCons (dVar 3) (dCons (dVar 3) dNil)))) dNil))) dNil)) (dC (.str "[True, None]")))) (sRet (dC (.bl false))) sNx)
noncomputable def P6 : Fs := (sAsg (gT 2 (gsC (gN 9) (gsC (gN 10) gsN))) (dCall 3 F_moved (dCons (dVar 0) (dCons (dVar 1) (dCons (dLst (dCons (dVar 2) (dCons (dVar 3) dNil))) dNil)))))
noncomputable def P7 : Fs := (sIf (dTest (dBin oNe (dCB gRpr (dCons (dLst (dCons (dCall 3 F_part (dCons (dVar 9) (dCons (dBin oSub2 (dVar 10) (dC (.int 0))) (dCons (dBin oSub2 (dVar 10) (dC (.int 1))) dNil)))) (dCons (dCall 3 F_alike (dCons (dVar 9) (dCons (dBin oSub2 (dVar 10) (dC (.int 0))) (dCons (dBin oSub2 (dVar 10) (dC (.int 1))) dNil)))) dNil))) dNil)) (dCB gRpr (dCons (dLst (dCons (dVar 8) (dCons (dBin (oIs false) (dVar 8) (dC .non)) dNil))) dNil)))) (sRet (dC (.bl false))) sNx)
noncomputable def P8 : Fs := (sAsg (gN 5) (dLst (dCons (dTup dNil) (dCons (dTup (dCons (dC (.int 1)) dNil)) (dCons (dTup (dCons (dC (.int 2)) (dCons (dC (.int 1)) dNil))) (dCons (dCB Cl.gTup (dCons (dLc (iR1 (dCons (dCall 2 F_draw (dCons (dVar 0) (dCons (dC (.int 9)) dNil))) dNil)) (gN 12) dYes (dBin oAdd (dC (.int 1)) (dCall 2 F_draw (dCons (dVar 0) (dCons (dC (.int 2)) dNil)))) [12]) dNil)) dNil))))))
noncomputable def P9 (CN : Addr) : Fs := (sFor (iSeq (dBin oAdd (dVar 5) extraE)) (gN 6) (sFor (iSeq (dTup (dCons (dVar 2) (dCons (dVar 3) dNil)))) (gN 11) (roadBody CN)))
theorem right_form : g__law_right (F_told CN) F_la F_draw F_alike F_part F_moved F_least = sSeq P1 (sSeq P2 (sSeq P3 (sSeq P4 (sSeq P5 (sSeq P6 (sSeq P7 (sSeq P8 (sSeq (P9 CN) (sRet (dC (.bl true))))))))))) := rfl
noncomputable def F_right (CN : Addr) : List D → CH → Res D := fnBody 13 (g__law_right (F_told CN) F_la F_draw F_alike F_part F_moved F_least)
theorem tx_tn : txts [.bl true, .non] = "[True, None]" := by decide +kernel
theorem right_ok {C : CH} {r b : Nat} {N : Int} (m : MOk C r b N) (hb : b ≤ C.length) (hN : N < 600000) {S : List Th} (hS : SOk S) (hn : S.length ≤ 7) {v w : Vl} (hv : vok S.length v) (hw : vok S.length w) :
    ∃ C', F_right CN [.ref r, sd S, vd v, vd w] C = .ok (.bl true) C' ∧ MOk C' r b (N + 40) ∧ Kp r C C' ∧ C.length ≤ C'.length := by
  obtain ⟨o, le, lb⟩ := least_ex hS hv hw (by omega)
  have ho := ook_of le lb
  have le0 : 0 ≤ 1000 := by decide
  have le1 : 1 ≤ 1000 := by decide
  have le2 : 2 ≤ 1000 := by decide
  have le3 : 3 ≤ 1000 := by decide
  have le4 : 4 ≤ 1000 := by decide
  have e1 := least_eq hS hv hw (by omega) le
  have e2 := part_eq hS hv hw (by omega) le
  have e3 := part_eq hS hw hv (by omega) le.symm
  have e4 := alike_eq hS hv hw (by omega) le
  have e5 := alike_eq hS hw hv (by omega) le.symm
  have e6 := alike_eq hS hv hv (by omega) (Least.same S v)
  have e7 := part_eq hS hw hw (by omega) (Least.same S w)
  have rs := rpr_pd (pd_s hS (by omega)) (by decide) (by have := sz_s hS (by omega); omega)
  have so := sz_o ho
  have is0 : ∀ C, oIs false (optD o) .non C = some (.bl o.isNone, C) := fun C => by cases o <;> rfl
  -- 1
  have p1 : P1 [some (.ref r), some (sd S), some (vd v), some (vd w), none, none, none, none, none, none, none, none, none] C = .nx [some (.ref r), some (sd S), some (vd v), some (vd w), none, none, none, some (.str (txt (sd S))), some (optD o), none, none, none, none] C := by
    simp only [fnBody, startD, sSeq, sIf, sAsg, sPut, sRet, sRetN, sDrop, sNx, sPar, sFor, dTest, dBin, dVar, dC, dCB, dCons, dNil, dTup, dLst, dSl, dPN, dPS, dRev, revO, dBM, isLst, dIf, dAnd, dOr, dNot, dTru, truB, dCall, dNeg, dNewK, dNewT, gN, gT, gsN, gsC, iR1, iR2, iSeq, srcOf, itemsOf, List.map_cons, List.map_nil, List.length_cons, List.length_nil, Nat.reduceAdd, Nat.reduceSub, Nat.reduceLeDiff, List.replicate_succ, List.replicate_zero, List.cons_append, List.nil_append, List.getElem?_cons_zero, List.getElem?_cons_succ, List.set_cons_zero, List.set_cons_succ, Res.bind_ok, Res.st_ok, Option.map_some, Option.bind_some, Res.lift_some, oAdd_i, oSub_i, oLt_i, oLe_i, oGt_i, oGe_i, oEq_i, oNe_i, oEq_s, oNe_s, if_true, if_false, reduceIte, Bool.false_eq_true, gInt, gLen2, gLen, Cl.gTup, gList, optS_some, SOut.seq_nx, SOut.seq_rt, SOut.seq_bk, SOut.seq_ct, bodyOut, atI_0, atI_1, atI_2, atI_3, atI_4, atI_5, oSub2_tup, oSub2_fl, Option.orElse_some, g2I, decide_true, decide_false, slO, dDct, dPairs, keyed, Int.reduceAdd, Int.reduceMul, P1, rs, e1]
  -- 2, 3
  generalize hE1 : O.lst [optD o, optD o, optD o] = E1
  have p2 : P2 [some (.ref r), some (sd S), some (vd v), some (vd w), none, none, none, some (.str (txt (sd S))), some (optD o), none, none, none, none] C = .nx [some (.ref r), some (sd S), some (vd v), some (vd w), some (.ref C.length), none, none, some (.str (txt (sd S))), some (optD o), none, none, none, none] (C ++ [E1]) := by
    simp only [fnBody, startD, sSeq, sIf, sAsg, sPut, sRet, sRetN, sDrop, sNx, sPar, sFor, dTest, dBin, dVar, dC, dCB, dCons, dNil, dTup, dLst, dSl, dPN, dPS, dRev, revO, dBM, isLst, dIf, dAnd, dOr, dNot, dTru, truB, dCall, dNeg, dNewK, dNewT, gN, gT, gsN, gsC, iR1, iR2, iSeq, srcOf, itemsOf, List.map_cons, List.map_nil, List.length_cons, List.length_nil, Nat.reduceAdd, Nat.reduceSub, Nat.reduceLeDiff, List.replicate_succ, List.replicate_zero, List.cons_append, List.nil_append, List.getElem?_cons_zero, List.getElem?_cons_succ, List.set_cons_zero, List.set_cons_succ, Res.bind_ok, Res.st_ok, Option.map_some, Option.bind_some, Res.lift_some, oAdd_i, oSub_i, oLt_i, oLe_i, oGt_i, oGe_i, oEq_i, oNe_i, oEq_s, oNe_s, if_true, if_false, reduceIte, Bool.false_eq_true, gInt, gLen2, gLen, Cl.gTup, gList, optS_some, SOut.seq_nx, SOut.seq_rt, SOut.seq_bk, SOut.seq_ct, bodyOut, atI_0, atI_1, atI_2, atI_3, atI_4, atI_5, oSub2_tup, oSub2_fl, Option.orElse_some, g2I, decide_true, decide_false, slO, dDct, dPairs, keyed, Int.reduceAdd, Int.reduceMul, P2, e2, e3, le3, hE1]
  have r3 : Pds 1 [optD o, optD o, optD o] := .cons _ _ _ (pd_o ho _) (.cons _ _ _ (pd_o ho _) (.cons _ _ _ (pd_o ho _) (.nil _)))
  have z3 : szDs [optD o, optD o, optD o] ≤ 15000000 := by simp only [szDs]; omega
  have q1 := rpr_lst r3 (by decide) z3 (C := C ++ [E1]) (n := C.length) (by rw [get_new, hE1])
  have q2 := rpr_lst r3 (by decide) z3 (C := C ++ [E1] ++ [E1]) (n := (C ++ [E1]).length) (by rw [get_new, hE1])
  have p3 : P3 [some (.ref r), some (sd S), some (vd v), some (vd w), some (.ref C.length), none, none, some (.str (txt (sd S))), some (optD o), none, none, none, none] (C ++ [E1]) = .nx [some (.ref r), some (sd S), some (vd v), some (vd w), some (.ref C.length), none, none, some (.str (txt (sd S))), some (optD o), none, none, none, none] (C ++ [E1] ++ [E1]) := by
    simp only [fnBody, startD, sSeq, sIf, sAsg, sPut, sRet, sRetN, sDrop, sNx, sPar, sFor, dTest, dBin, dVar, dC, dCB, dCons, dNil, dTup, dLst, dSl, dPN, dPS, dRev, revO, dBM, isLst, dIf, dAnd, dOr, dNot, dTru, truB, dCall, dNeg, dNewK, dNewT, gN, gT, gsN, gsC, iR1, iR2, iSeq, srcOf, itemsOf, List.map_cons, List.map_nil, List.length_cons, List.length_nil, Nat.reduceAdd, Nat.reduceSub, Nat.reduceLeDiff, List.replicate_succ, List.replicate_zero, List.cons_append, List.nil_append, List.getElem?_cons_zero, List.getElem?_cons_succ, List.set_cons_zero, List.set_cons_succ, Res.bind_ok, Res.st_ok, Option.map_some, Option.bind_some, Res.lift_some, oAdd_i, oSub_i, oLt_i, oLe_i, oGt_i, oGe_i, oEq_i, oNe_i, oEq_s, oNe_s, if_true, if_false, reduceIte, Bool.false_eq_true, gInt, gLen2, gLen, Cl.gTup, gList, optS_some, SOut.seq_nx, SOut.seq_rt, SOut.seq_bk, SOut.seq_ct, bodyOut, atI_0, atI_1, atI_2, atI_3, atI_4, atI_5, oSub2_tup, oSub2_fl, Option.orElse_some, g2I, decide_true, decide_false, slO, dDct, dPairs, keyed, Int.reduceAdd, Int.reduceMul, P3, q1, le3, hE1, q2, eq_self, Bool.not_true, rs]
  generalize hC3 : C ++ [E1] ++ [E1] = C3 at *
  -- 4
  generalize hE2 : O.lst [.bl o.isNone, .bl o.isNone] = E2
  have r4 : Pds 0 [D.bl o.isNone, .bl o.isNone] := .cons _ _ _ (.bl _ _) (.cons _ _ _ (.bl _ _) (.nil _))
  have z4 : szDs [D.bl o.isNone, .bl o.isNone] ≤ 15000000 := by simp [szDs, szD]
  have q3 := rpr_lst r4 (by decide) z4 (C := C3 ++ [E2]) (n := C3.length) (by rw [get_new, hE2])
  have q4 := rpr_lst r4 (by decide) z4 (C := C3 ++ [E2] ++ [E2]) (n := (C3 ++ [E2]).length) (by rw [get_new, hE2])
  have p4 : P4 [some (.ref r), some (sd S), some (vd v), some (vd w), some (.ref C.length), none, none, some (.str (txt (sd S))), some (optD o), none, none, none, none] C3 = .nx [some (.ref r), some (sd S), some (vd v), some (vd w), some (.ref C.length), none, none, some (.str (txt (sd S))), some (optD o), none, none, none, none] (C3 ++ [E2] ++ [E2]) := by
    simp only [fnBody, startD, sSeq, sIf, sAsg, sPut, sRet, sRetN, sDrop, sNx, sPar, sFor, dTest, dBin, dVar, dC, dCB, dCons, dNil, dTup, dLst, dSl, dPN, dPS, dRev, revO, dBM, isLst, dIf, dAnd, dOr, dNot, dTru, truB, dCall, dNeg, dNewK, dNewT, gN, gT, gsN, gsC, iR1, iR2, iSeq, srcOf, itemsOf, List.map_cons, List.map_nil, List.length_cons, List.length_nil, Nat.reduceAdd, Nat.reduceSub, Nat.reduceLeDiff, List.replicate_succ, List.replicate_zero, List.cons_append, List.nil_append, List.getElem?_cons_zero, List.getElem?_cons_succ, List.set_cons_zero, List.set_cons_succ, Res.bind_ok, Res.st_ok, Option.map_some, Option.bind_some, Res.lift_some, oAdd_i, oSub_i, oLt_i, oLe_i, oGt_i, oGe_i, oEq_i, oNe_i, oEq_s, oNe_s, if_true, if_false, reduceIte, Bool.false_eq_true, gInt, gLen2, gLen, Cl.gTup, gList, optS_some, SOut.seq_nx, SOut.seq_rt, SOut.seq_bk, SOut.seq_ct, bodyOut, atI_0, atI_1, atI_2, atI_3, atI_4, atI_5, oSub2_tup, oSub2_fl, Option.orElse_some, g2I, decide_true, decide_false, slO, dDct, dPairs, keyed, Int.reduceAdd, Int.reduceMul, P4, e4, e5, le2, hE2, q3, is0, q4, eq_self, Bool.not_true]
  generalize hC4 : C3 ++ [E2] ++ [E2] = C4 at *
  -- 5
  generalize hE3 : O.lst [.bl true, .non] = E3
  have r5 : Pds 0 [D.bl true, .non] := .cons _ _ _ (.bl _ _) (.cons _ _ _ (.non _) (.nil _))
  have q5 := rpr_lst r5 (by decide) (by simp [szDs, szD]) (C := C4 ++ [E3]) (n := C4.length) (by rw [get_new, hE3])
  rw [tx_tn] at q5
  have p5 : P5 [some (.ref r), some (sd S), some (vd v), some (vd w), some (.ref C.length), none, none, some (.str (txt (sd S))), some (optD o), none, none, none, none] C4 = .nx [some (.ref r), some (sd S), some (vd v), some (vd w), some (.ref C.length), none, none, some (.str (txt (sd S))), some (optD o), none, none, none, none] (C4 ++ [E3]) := by
    have n1 : (none : Option (List Nat)).isNone = true := rfl
    have n2 : optD none = .non := rfl
    simp only [fnBody, startD, sSeq, sIf, sAsg, sPut, sRet, sRetN, sDrop, sNx, sPar, sFor, dTest, dBin, dVar, dC, dCB, dCons, dNil, dTup, dLst, dSl, dPN, dPS, dRev, revO, dBM, isLst, dIf, dAnd, dOr, dNot, dTru, truB, dCall, dNeg, dNewK, dNewT, gN, gT, gsN, gsC, iR1, iR2, iSeq, srcOf, itemsOf, List.map_cons, List.map_nil, List.length_cons, List.length_nil, Nat.reduceAdd, Nat.reduceSub, Nat.reduceLeDiff, List.replicate_succ, List.replicate_zero, List.cons_append, List.nil_append, List.getElem?_cons_zero, List.getElem?_cons_succ, List.set_cons_zero, List.set_cons_succ, Res.bind_ok, Res.st_ok, Option.map_some, Option.bind_some, Res.lift_some, oAdd_i, oSub_i, oLt_i, oLe_i, oGt_i, oGe_i, oEq_i, oNe_i, oEq_s, oNe_s, if_true, if_false, reduceIte, Bool.false_eq_true, gInt, gLen2, gLen, Cl.gTup, gList, optS_some, SOut.seq_nx, SOut.seq_rt, SOut.seq_bk, SOut.seq_ct, bodyOut, atI_0, atI_1, atI_2, atI_3, atI_4, atI_5, oSub2_tup, oSub2_fl, Option.orElse_some, g2I, decide_true, decide_false, slO, dDct, dPairs, keyed, Int.reduceAdd, Int.reduceMul, P5, e6, e7, n1, n2, le2, hE3, q5, eq_self, Bool.not_true]
  -- 6
  generalize hE4 : O.lst [vd v, vd w] = E4
  have k5 : Kp r C (C4 ++ [E3] ++ [E4]) := by
    rw [← hC4, ← hC3]
    exact (((((Kp.app r C _).trans (Kp.app r _ _)).trans (Kp.app r _ _)).trans (Kp.app r _ _)).trans (Kp.app r _ _)).trans (Kp.app r _ _)
  have m5 : MOk (C4 ++ [E3] ++ [E4]) r b N := by
    rw [← hC4, ← hC3]
    exact (((((m.app _).app _).app _).app _).app _).app _
  have l5 : C.length + 4 ≤ C4.length := by rw [← hC4, ← hC3]; simp
  obtain ⟨C6, S', f, q6, e8, hq6, hq6l, M, hS', hSn', hv', hw', m6, k6, l6⟩ := moved_ok m5 (by simp; omega) (by omega) hS rfl (by omega) (qv := (C4 ++ [E3]).length) (v := v) (w := w) (by rw [get_new, hE4]) (by have := m.lt; simp; omega) hv hw
  have lm := M.least hS hv hw le
  rw [← hSn'] at hv' hw'
  have p6 : P6 [some (.ref r), some (sd S), some (vd v), some (vd w), some (.ref C.length), none, none, some (.str (txt (sd S))), some (optD o), none, none, none, none] (C4 ++ [E3]) = .nx [some (.ref r), some (sd S), some (vd v), some (vd w), some (.ref C.length), none, none, some (.str (txt (sd S))), some (optD o), some (sd S'), some (.ref q6), none, none] C6 := by
    simp only [fnBody, startD, sSeq, sIf, sAsg, sPut, sRet, sRetN, sDrop, sNx, sPar, sFor, dTest, dBin, dVar, dC, dCB, dCons, dNil, dTup, dLst, dSl, dPN, dPS, dRev, revO, dBM, isLst, dIf, dAnd, dOr, dNot, dTru, truB, dCall, dNeg, dNewK, dNewT, gN, gT, gsN, gsC, iR1, iR2, iSeq, srcOf, itemsOf, List.map_cons, List.map_nil, List.length_cons, List.length_nil, Nat.reduceAdd, Nat.reduceSub, Nat.reduceLeDiff, List.replicate_succ, List.replicate_zero, List.cons_append, List.nil_append, List.getElem?_cons_zero, List.getElem?_cons_succ, List.set_cons_zero, List.set_cons_succ, Res.bind_ok, Res.st_ok, Option.map_some, Option.bind_some, Res.lift_some, oAdd_i, oSub_i, oLt_i, oLe_i, oGt_i, oGe_i, oEq_i, oNe_i, oEq_s, oNe_s, if_true, if_false, reduceIte, Bool.false_eq_true, gInt, gLen2, gLen, Cl.gTup, gList, optS_some, SOut.seq_nx, SOut.seq_rt, SOut.seq_bk, SOut.seq_ct, bodyOut, atI_0, atI_1, atI_2, atI_3, atI_4, atI_5, oSub2_tup, oSub2_fl, Option.orElse_some, g2I, decide_true, decide_false, slO, dDct, dPairs, keyed, Int.reduceAdd, Int.reduceMul, P6, le2, hE4, e8]
  have e9 := part_eq hS' hv' hw' (by omega) lm
  have e10 := alike_eq hS' hv' hw' (by omega) lm
  -- 7
  generalize hE5 : O.lst [optD o, .bl o.isNone] = E5
  have r7 : Pds 1 [optD o, .bl o.isNone] := .cons _ _ _ (pd_o ho _) (.cons _ _ _ (.bl _ _) (.nil _))
  have z7 : szDs [optD o, .bl o.isNone] ≤ 15000000 := by simp only [szDs, szD]; omega
  have q7 := rpr_lst r7 (by decide) z7 (C := C6 ++ [E5]) (n := C6.length) (by rw [get_new, hE5])
  have q8 := rpr_lst r7 (by decide) z7 (C := C6 ++ [E5] ++ [E5]) (n := (C6 ++ [E5]).length) (by rw [get_new, hE5])
  have g6 := oSub2_lst hq6
  have p7 : P7 [some (.ref r), some (sd S), some (vd v), some (vd w), some (.ref C.length), none, none, some (.str (txt (sd S))), some (optD o), some (sd S'), some (.ref q6), none, none] C6 = .nx [some (.ref r), some (sd S), some (vd v), some (vd w), some (.ref C.length), none, none, some (.str (txt (sd S))), some (optD o), some (sd S'), some (.ref q6), none, none] (C6 ++ [E5] ++ [E5]) := by
    simp only [fnBody, startD, sSeq, sIf, sAsg, sPut, sRet, sRetN, sDrop, sNx, sPar, sFor, dTest, dBin, dVar, dC, dCB, dCons, dNil, dTup, dLst, dSl, dPN, dPS, dRev, revO, dBM, isLst, dIf, dAnd, dOr, dNot, dTru, truB, dCall, dNeg, dNewK, dNewT, gN, gT, gsN, gsC, iR1, iR2, iSeq, srcOf, itemsOf, List.map_cons, List.map_nil, List.length_cons, List.length_nil, Nat.reduceAdd, Nat.reduceSub, Nat.reduceLeDiff, List.replicate_succ, List.replicate_zero, List.cons_append, List.nil_append, List.getElem?_cons_zero, List.getElem?_cons_succ, List.set_cons_zero, List.set_cons_succ, Res.bind_ok, Res.st_ok, Option.map_some, Option.bind_some, Res.lift_some, oAdd_i, oSub_i, oLt_i, oLe_i, oGt_i, oGe_i, oEq_i, oNe_i, oEq_s, oNe_s, if_true, if_false, reduceIte, Bool.false_eq_true, gInt, gLen2, gLen, Cl.gTup, gList, optS_some, SOut.seq_nx, SOut.seq_rt, SOut.seq_bk, SOut.seq_ct, bodyOut, atI_0, atI_1, atI_2, atI_3, atI_4, atI_5, oSub2_tup, oSub2_fl, Option.orElse_some, g2I, decide_true, decide_false, slO, dDct, dPairs, keyed, Int.reduceAdd, Int.reduceMul, P7, g6, e9, e10, le2, hE5, q7, is0, q8, eq_self, Bool.not_true]
  generalize hC7 : C6 ++ [E5] ++ [E5] = C7 at *
  have m7 : MOk C7 r b (N + S.length) := by rw [← hC7]; exact (m6.app _).app _
  have k7 : Kp r C C7 := by rw [← hC7]; exact ((k5.trans k6).trans (Kp.app r _ _)).trans (Kp.app r _ _)
  have l7 : C.length + 2 ≤ C7.length := by rw [← hC7]; simp at l6 ⊢; omega
  -- 8
  obtain ⟨t, o8, e11, t0, t1, m8⟩ := draw_ok m7 (b := 9) (by omega) (by decide) (by decide)
  have bs := rng1_i (j := t) (by omega) (by omega)
  have lr : (rngD 0 t.toNat).length = t.toNat := by simp [rngD]
  have k8 : Kp r (C7.set r o8) (C7.set r o8 ++ [O.lst []]) := Kp.app r _ _
  obtain ⟨C9, acc, e12, hacc, rok, m9, k9, l9⟩ := road_drawn (r := r) (b := b) (n0 := (C7.set r o8).length) (C0 := C7.set r o8) (sc := wipeD [some (.ref r), some (sd S), some (vd v), some (vd w), some (.ref C.length), none, none, some (.str (txt (sd S))), some (optD o), some (sd S'), some (.ref q6), none, none] [12]) rfl (fun _ => rfl) (rngD 0 t.toNat) (C7.set r o8 ++ [O.lst []]) (N + S.length + 1) [] (m8.app _) k8 (Nat.le_refl _) (by rw [List.length_set]; omega) (by rw [get_new]; rfl) (fun s hs => nomatch hs) (by rw [lr]; simp; omega) (by rw [lr]; omega)
  rw [lr] at m9
  have er4 : O.lst [.tup [], .tup [.int 1], .tup [.int 2, .int 1], .tup (nats acc)] = O.lst (rD [[], [1], [2, 1], acc]) := rfl
  have p8 : P8 [some (.ref r), some (sd S), some (vd v), some (vd w), some (.ref C.length), none, none, some (.str (txt (sd S))), some (optD o), some (sd S'), some (.ref q6), none, none] C7 = .nx [some (.ref r), some (sd S), some (vd v), some (vd w), some (.ref C.length), some (.ref C9.length), none, some (.str (txt (sd S))), some (optD o), some (sd S'), some (.ref q6), none, none] (C9 ++ [.lst (rD [[], [1], [2, 1], acc])]) := by
    simp only [fnBody, startD, sSeq, sIf, sAsg, sPut, sRet, sRetN, sDrop, sNx, sPar, sFor, dTest, dBin, dVar, dC, dCB, dCons, dNil, dTup, dLst, dSl, dPN, dPS, dRev, revO, dBM, isLst, dIf, dAnd, dOr, dNot, dTru, truB, dCall, dNeg, dNewK, dNewT, gN, gT, gsN, gsC, iR1, iR2, iSeq, srcOf, itemsOf, List.map_cons, List.map_nil, List.length_cons, List.length_nil, Nat.reduceAdd, Nat.reduceSub, Nat.reduceLeDiff, List.replicate_succ, List.replicate_zero, List.cons_append, List.nil_append, List.getElem?_cons_zero, List.getElem?_cons_succ, List.set_cons_zero, List.set_cons_succ, Res.bind_ok, Res.st_ok, Option.map_some, Option.bind_some, Res.lift_some, oAdd_i, oSub_i, oLt_i, oLe_i, oGt_i, oGe_i, oEq_i, oNe_i, oEq_s, oNe_s, if_true, if_false, reduceIte, Bool.false_eq_true, gInt, gLen2, gLen, Cl.gTup, gList, optS_some, SOut.seq_nx, SOut.seq_rt, SOut.seq_bk, SOut.seq_ct, bodyOut, atI_0, atI_1, atI_2, atI_3, atI_4, atI_5, oSub2_tup, oSub2_fl, Option.orElse_some, g2I, decide_true, decide_false, slO, dDct, dPairs, keyed, Int.reduceAdd, Int.reduceMul, P8, le0, le1, le2, le4, dLc, e11, bs, e12, hacc, er4]
  -- 9
  obtain ⟨rs3, e13, hrs3, l3⟩ := extra_ok ho lb (C9 ++ [.lst (rD [[], [1], [2, 1], acc])]) (some (.ref r)) (some (sd S)) (some (vd v)) (some (vd w)) (some (.ref C.length)) (some (.ref C9.length)) none (some (.str (txt (sd S)))) (some (sd S')) (some (.ref q6)) none none
  have hA : (C9 ++ [.lst (rD [[], [1], [2, 1], acc])] ++ [.lst (rD rs3)])[C9.length]? = some (O.lst (rD [[], [1], [2, 1], acc])) := app_get
  have hBq : (C9 ++ [.lst (rD [[], [1], [2, 1], acc])] ++ [.lst (rD rs3)])[(C9 ++ [O.lst (rD [[], [1], [2, 1], acc])]).length]? = some (O.lst (rD rs3)) := get_new _ _
  have ad := oAdd_lst hA hBq (by simp [rD]; omega)
  have erd : rD [[], [1], [2, 1], acc] ++ rD rs3 = rD ([[], [1], [2, 1], acc] ++ rs3) := by unfold rD; rw [List.map_append]
  rw [erd] at ad
  generalize hRS : [[], [1], [2, 1], acc] ++ rs3 = RS at ad
  generalize hC10 : C9 ++ [O.lst (rD [[], [1], [2, 1], acc])] ++ [O.lst (rD rs3)] = C10 at *
  have h11 : (C10 ++ [O.lst (rD RS)])[C10.length]? = some (.lst (rD RS)) := get_new _ _
  obtain ⟨C12, y6, y11, e14, G, eG⟩ := roads_loop (CN := CN) hS (by omega) hv hw (rs := RS) (fun x hx => by
      rw [← hRS] at hx
      rcases List.mem_append.mp hx with hx | hx
      · simp only [List.mem_cons, List.not_mem_nil, or_false] at hx
        rcases hx with rfl | rfl | rfl | rfl
        · exact ⟨by simp, by simp⟩
        · exact ⟨by simp, by simp⟩
        · exact ⟨by simp, by simp⟩
        · exact rok
      · exact hrs3 x hx) h11 (some (.ref r)) (some (.ref C.length)) (some (.ref C9.length)) none (some (.str (txt (sd S)))) (some (optD o)) (some (sd S')) (some (.ref q6)) none none
  have p9 : P9 CN [some (.ref r), some (sd S), some (vd v), some (vd w), some (.ref C.length), some (.ref C9.length), none, some (.str (txt (sd S))), some (optD o), some (sd S'), some (.ref q6), none, none] (C9 ++ [.lst (rD [[], [1], [2, 1], acc])]) = .nx [some (.ref r), some (sd S), some (vd v), some (vd w), some (.ref C.length), some (.ref C9.length), y6, some (.str (txt (sd S))), some (optD o), some (sd S'), some (.ref q6), y11, none] C12 := by
    have e14' : fr (fun C => C[C10.length]? = some (.lst (rD RS))) (gN 6) (sFor (iSeq (dTup (dCons (dVar 2) (dCons (dVar 3) dNil)))) (gN 11) (roadBody CN)) (rD RS) _ _ = _ := e14
    have fi : iSeq (dBin oAdd (dVar 5) extraE) [some (.ref r), some (sd S), some (vd v), some (vd w), some (.ref C.length), some (.ref C9.length), none, some (.str (txt (sd S))), some (optD o), some (sd S'), some (.ref q6), none, none] (C9 ++ [.lst (rD [[], [1], [2, 1], acc])]) = .ok ⟨rD RS, fun C => C[C10.length]? = some (.lst (rD RS))⟩ (C10 ++ [.lst (rD RS)]) := by
      simp only [fnBody, startD, sSeq, sIf, sAsg, sPut, sRet, sRetN, sDrop, sNx, sPar, sFor, dTest, dBin, dVar, dC, dCB, dCons, dNil, dTup, dLst, dSl, dPN, dPS, dRev, revO, dBM, isLst, dIf, dAnd, dOr, dNot, dTru, truB, dCall, dNeg, dNewK, dNewT, gN, gT, gsN, gsC, iR1, iR2, iSeq, srcOf, itemsOf, List.map_cons, List.map_nil, List.length_cons, List.length_nil, Nat.reduceAdd, Nat.reduceSub, Nat.reduceLeDiff, List.replicate_succ, List.replicate_zero, List.cons_append, List.nil_append, List.getElem?_cons_zero, List.getElem?_cons_succ, List.set_cons_zero, List.set_cons_succ, Res.bind_ok, Res.st_ok, Option.map_some, Option.bind_some, Res.lift_some, oAdd_i, oSub_i, oLt_i, oLe_i, oGt_i, oGe_i, oEq_i, oNe_i, oEq_s, oNe_s, if_true, if_false, reduceIte, Bool.false_eq_true, gInt, gLen2, gLen, Cl.gTup, gList, optS_some, SOut.seq_nx, SOut.seq_rt, SOut.seq_bk, SOut.seq_ct, bodyOut, atI_0, atI_1, atI_2, atI_3, atI_4, atI_5, oSub2_tup, oSub2_fl, Option.orElse_some, g2I, decide_true, decide_false, slO, dDct, dPairs, keyed, Int.reduceAdd, Int.reduceMul, e13, hC10, ad, h11]
    unfold P9
    rw [sFor_eq fi]
    exact e14'
  refine ⟨C12, ?_, ?_, ?_, ?_⟩
  · unfold F_right
    rw [right_form]
    have st : startD 13 [.ref r, sd S, vd v, vd w] = [some (.ref r), some (sd S), some (vd v), some (vd w), none, none, none, none, none, none, none, none, none] := rfl
    unfold fnBody
    rw [st, sSeq_nx p1, sSeq_nx p2, sSeq_nx p3, sSeq_nx p4, sSeq_nx p5, sSeq_nx p6, sSeq_nx p7, sSeq_nx p8, sSeq_nx p9]
    rfl
  · have m10 : MOk C10 r b (N + 40) := by rw [← hC10]; exact ((m9.le (by omega)).app _).app _
    rw [eG]
    obtain ⟨l, s, c, pp, cl, z1, z2, z3⟩ := m10.app (O.lst (rD RS))
    exact ⟨l, s, c, pp, cl, by rw [List.getElem?_append_left (List.getElem?_eq_some_iff.mp z1).1]; exact z1, by rw [List.getElem?_append_left (List.getElem?_eq_some_iff.mp z2).1]; exact z2, z3⟩
  · have k10 : Kp r C (C10 ++ [O.lst (rD RS)]) := by
      rw [← hC10]
      exact ((((k7.trans (Kp.set r C7 o8)).trans k9).trans (Kp.app r _ _)).trans (Kp.app r _ _)).trans (Kp.app r _ _)
    rw [eG]
    intro j x hj e
    have := k10 j x hj e
    rw [List.getElem?_append_left (List.getElem?_eq_some_iff.mp this).1]; exact this
  · rw [eG, ← hC10]
    have : C9.length = C7.length + 1 := by rw [l9]; simp
    simp; omega
end
end Lw
set_option maxHeartbeats 4000000
/-! law_k22: the law. -/
namespace Lw
open PySem Cl L2 Rd
def S5 : List Th := [.pr (.nu 1) (.th 0), .pr (.nu 1) (.th 2), .pr (.nu 1) (.th 1), .pr (.nu 1) (.th 4), .pr (.nu 2) (.th 0)]
theorem least5a : Least S5 (.th 0) (.th 1) none := by
  have B1 := (Bf.start S5 (.th 0) (.th 1)).join (e := ⟨.th 0, .th 1, []⟩) rfl (t := 0) (u := 1) rfl rfl rfl rfl
  have B2 := B1.skip (e := ⟨.nu 1, .nu 1, [1]⟩) rfl ⟨0, .inl rfl⟩
  have B3 := B2.join (e := ⟨.th 0, .th 2, [2]⟩) rfl (t := 0) (u := 2) rfl rfl rfl rfl
  have B4 := B3.skip (e := ⟨.nu 1, .nu 1, [2, 1]⟩) rfl ⟨0, .inl rfl⟩
  have B5 := B4.skip (e := ⟨.th 0, .th 1, [2, 2]⟩) rfl ⟨0, .inr ⟨0, 1, rfl, rfl, .base (c := 0) (List.mem_append_left _ (by simp [Rd.code])) (Nat.le_refl _)⟩⟩
  exact B5.none rfl
theorem least5b : Least S5 (.th 0) (.th 3) (some [2, 1]) := by
  have B1 := (Bf.start S5 (.th 0) (.th 3)).join (e := ⟨.th 0, .th 3, []⟩) rfl (t := 0) (u := 3) rfl rfl rfl rfl
  have B2 := B1.skip (e := ⟨.nu 1, .nu 1, [1]⟩) rfl ⟨0, .inl rfl⟩
  have B3 := B2.join (e := ⟨.th 0, .th 4, [2]⟩) rfl (t := 0) (u := 4) rfl rfl rfl rfl
  exact B3.find (e := ⟨.nu 1, .nu 2, [2, 1]⟩) rfl (.inr ⟨by simp [kd], by simp⟩)
theorem s5_ok : SOk S5 := by
  intro a c h
  simp only [S5, List.mem_cons, List.not_mem_nil, or_false, Th.pr.injEq] at h
  rcases h with ⟨rfl, rfl⟩ | ⟨rfl, rfl⟩ | ⟨rfl, rfl⟩ | ⟨rfl, rfl⟩ | ⟨rfl, rfl⟩ <;> exact ⟨⟨by decide, by decide⟩, by show (_ : Nat) < 5; decide⟩
section
variable {CN : Addr}
noncomputable def F_law (CN : Addr) : List D → CH → Res D := fnBody 13 (g_law F_part (F_right CN) F_rings F_draw F_value F_store F_begun)
noncomputable def L1 (CN : Addr) : Fs := (sIf (dNot (dTru (dCall 4 (F_right CN) (dCons (dVar 4) (dCons (dVar 2) (dCons (dCall 2 F_value (dCons (dVar 4) (dCons (dVar 9) dNil))) (dCons (dCall 2 F_value (dCons (dVar 4) (dCons (dVar 9) dNil))) dNil))))))) (sRet (dC (.bl false))) sNx)
noncomputable def L2' (CN : Addr) : Fs := (sIf (dNot (dTru (dCall 4 (F_right CN) (dCons (dVar 4) (dCons (dVar 2) (dCons (dTup (dCons (dC (.str "thing")) (dCons (dCall 2 F_draw (dCons (dVar 4) (dCons (dVar 9) dNil))) dNil))) (dCons (dTup (dCons (dC (.str "thing")) (dCons (dCall 2 F_draw (dCons (dVar 4) (dCons (dVar 9) dNil))) dNil))) dNil))))))) (sRet (dC (.bl false))) sNx)
noncomputable def L3 (CN : Addr) : Fs := (sIf (dNot (dTru (dCall 4 (F_right CN) (dCons (dVar 4) (dCons (dVar 10) (dCons (dVar 11) (dCons (dVar 12) dNil))))))) (sRet (dC (.bl false))) sNx)
noncomputable def lapB (CN : Addr) : Fs := (sSeq (sAsg (gN 9) (dBin oAdd (dC (.int 2)) (dCall 2 F_draw (dCons (dVar 4) (dCons (dC (.int 6)) dNil)))))
  (sSeq (sAsg (gN 2) (dCall 2 F_store (dCons (dVar 4) (dCons (dVar 9) dNil))))
  (sSeq (L1 CN) (sSeq (L2' CN)
  (sSeq (sAsg (gT 3 (gsC (gN 10) (gsC (gN 11) (gsC (gN 12) gsN)))) (dCall 1 F_rings (dCons (dVar 4) dNil))) (L3 CN))))))
noncomputable def turnB (CN : Addr) : Fs := (sSeq (sAsg (gN 4) (dCall 2 F_begun (dCons (dVar 0) (dCons (dVar 1) dNil)))) (sFor (iR1 (dCons (dC (.int 3)) dNil)) (gN 5) (lapB CN)))
noncomputable def lawEnd : Fs := (sSeq (sAsg (gT 3 (gsC (gN 6) (gsC (gN 7) (gsC (gN 8) gsN)))) (dTup (dCons (dTup (dCons (dC (.str "pair")) (dCons (dC (.int 1)) (dCons (dTup (dCons (dC (.str "thing")) (dCons (dC (.int 0)) dNil))) dNil)))) (dCons (dTup (dCons (dC (.str "pair")) (dCons (dC (.int 1)) (dCons (dTup (dCons (dC (.str "thing")) (dCons (dC (.int 2)) dNil))) dNil)))) (dCons (dTup (dCons (dC (.str "pair")) (dCons (dC (.int 1)) (dCons (dTup (dCons (dC (.str "thing")) (dCons (dC (.int 1)) dNil))) dNil)))) dNil)))))
  (sSeq (sAsg (gN 2) (dTup (dCons (dVar 6) (dCons (dVar 7) (dCons (dVar 8) (dCons (dTup (dCons (dC (.str "pair")) (dCons (dC (.int 1)) (dCons (dTup (dCons (dC (.str "thing")) (dCons (dC (.int 4)) dNil))) dNil)))) (dCons (dTup (dCons (dC (.str "pair")) (dCons (dC (.int 2)) (dCons (dTup (dCons (dC (.str "thing")) (dCons (dC (.int 0)) dNil))) dNil)))) dNil)))))))
  (sSeq (sAsg (gN 3) (dLst (dCons (dCall 3 F_part (dCons (dVar 2) (dCons (dTup (dCons (dC (.str "thing")) (dCons (dC (.int 0)) dNil))) (dCons (dTup (dCons (dC (.str "thing")) (dCons (dC (.int 1)) dNil))) dNil)))) (dCons (dCall 3 F_part (dCons (dVar 2) (dCons (dTup (dCons (dC (.str "thing")) (dCons (dC (.int 0)) dNil))) (dCons (dTup (dCons (dC (.str "thing")) (dCons (dC (.int 3)) dNil))) dNil)))) dNil))))
  (sRet (dBin oEq (dCB gRpr (dCons (dVar 3) dNil)) (dCB gRpr (dCons (dLst (dCons (dC .non) (dCons (dTup (dCons (dC (.int 2)) (dCons (dC (.int 1)) dNil))) dNil))) dNil)))))))
theorem law_form : g_law F_part (F_right CN) F_rings F_draw F_value F_store F_begun = sSeq (sFor (iR1 (dCons (dBin oAdd (dC (.int 1)) (dCB Cl.gInt (dCons (dBin oGt (dCB gLen2 (dCons (dVar 0) dNil)) (dC (.int 2))) dNil))) dNil)) (gN 1) (turnB CN)) lawEnd := rfl
theorem lap_ok {C : CH} {r b : Nat} {N : Int} (m : MOk C r b N) (hb : b ≤ C.length) (hN : N < 200000) (x0 x1 x2 x3 x5 x6 x7 x8 x9 x10 x11 x12 : Option D) : ∃ C' y2 y9 y10 y11 y12,
    lapB CN [x0, x1, x2, x3, some (.ref r), x5, x6, x7, x8, x9, x10, x11, x12] C = .nx [x0, x1, y2, x3, some (.ref r), x5, x6, x7, x8, y9, y10, y11, y12] C' ∧ MOk C' r b (N + 1000) ∧ C.length ≤ C'.length := by
  obtain ⟨d, o, e1, d0, d1, m1⟩ := draw_ok m (b := 6) (by omega) (by decide) (by decide)
  have en : (((2 + d).toNat : Nat) : Int) = 2 + d := by omega
  generalize hn : (2 + d).toNat = n at en
  have le2 : 2 ≤ 1000 := by decide
  obtain ⟨C2, S, e2, hS1, hS, m2, k2, l2⟩ := store_ok m1 (by rw [List.length_set]; exact hb) (by omega) (n := n) (by omega) (by omega)
  rw [List.length_set] at l2
  have p1 : sAsg (gN 9) (dBin oAdd (dC (.int 2)) (dCall 2 F_draw (dCons (dVar 4) (dCons (dC (.int 6)) dNil)))) [x0, x1, x2, x3, some (.ref r), x5, x6, x7, x8, x9, x10, x11, x12] C = .nx [x0, x1, x2, x3, some (.ref r), x5, x6, x7, x8, some (.int n), x10, x11, x12] (C.set r o) := by
    simp only [fnBody, startD, sSeq, sIf, sAsg, sPut, sRet, sRetN, sDrop, sNx, sPar, sFor, dTest, dBin, dVar, dC, dCB, dCons, dNil, dTup, dLst, dSl, dPN, dPS, dRev, revO, dBM, isLst, dIf, dAnd, dOr, dNot, dTru, truB, dCall, dNeg, dNewK, dNewT, gN, gT, gsN, gsC, iR1, iR2, iSeq, srcOf, itemsOf, List.map_cons, List.map_nil, List.length_cons, List.length_nil, Nat.reduceAdd, Nat.reduceSub, Nat.reduceLeDiff, List.replicate_succ, List.replicate_zero, List.cons_append, List.nil_append, List.getElem?_cons_zero, List.getElem?_cons_succ, List.set_cons_zero, List.set_cons_succ, Res.bind_ok, Res.st_ok, Option.map_some, Option.bind_some, Res.lift_some, oAdd_i, oSub_i, oLt_i, oLe_i, oGt_i, oGe_i, oEq_i, oNe_i, oEq_s, oNe_s, if_true, if_false, reduceIte, Bool.false_eq_true, gInt, gLen2, gLen, Cl.gTup, gList, optS_some, SOut.seq_nx, SOut.seq_rt, SOut.seq_bk, SOut.seq_ct, bodyOut, atI_0, atI_1, atI_2, atI_3, atI_4, atI_5, oSub2_tup, oSub2_fl, Option.orElse_some, g2I, decide_true, decide_false, slO, dDct, dPairs, keyed, Int.reduceAdd, Int.reduceMul, e1, en]
  have p2 : sAsg (gN 2) (dCall 2 F_store (dCons (dVar 4) (dCons (dVar 9) dNil))) [x0, x1, x2, x3, some (.ref r), x5, x6, x7, x8, some (.int n), x10, x11, x12] (C.set r o) = .nx [x0, x1, some (sd S), x3, some (.ref r), x5, x6, x7, x8, some (.int n), x10, x11, x12] C2 := by
    simp only [fnBody, startD, sSeq, sIf, sAsg, sPut, sRet, sRetN, sDrop, sNx, sPar, sFor, dTest, dBin, dVar, dC, dCB, dCons, dNil, dTup, dLst, dSl, dPN, dPS, dRev, revO, dBM, isLst, dIf, dAnd, dOr, dNot, dTru, truB, dCall, dNeg, dNewK, dNewT, gN, gT, gsN, gsC, iR1, iR2, iSeq, srcOf, itemsOf, List.map_cons, List.map_nil, List.length_cons, List.length_nil, Nat.reduceAdd, Nat.reduceSub, Nat.reduceLeDiff, List.replicate_succ, List.replicate_zero, List.cons_append, List.nil_append, List.getElem?_cons_zero, List.getElem?_cons_succ, List.set_cons_zero, List.set_cons_succ, Res.bind_ok, Res.st_ok, Option.map_some, Option.bind_some, Res.lift_some, oAdd_i, oSub_i, oLt_i, oLe_i, oGt_i, oGe_i, oEq_i, oNe_i, oEq_s, oNe_s, if_true, if_false, reduceIte, Bool.false_eq_true, gInt, gLen2, gLen, Cl.gTup, gList, optS_some, SOut.seq_nx, SOut.seq_rt, SOut.seq_bk, SOut.seq_ct, bodyOut, atI_0, atI_1, atI_2, atI_3, atI_4, atI_5, oSub2_tup, oSub2_fl, Option.orElse_some, g2I, decide_true, decide_false, slO, dDct, dPairs, keyed, Int.reduceAdd, Int.reduceMul, e2]
  obtain ⟨C3, v, e3, hv, m3, k3, l3⟩ := value_ok m2 (by omega) (by omega) (n := n) (by omega) (by omega)
  obtain ⟨C4, w, e4, hw, m4, k4, l4⟩ := value_ok m3 (by omega) (by omega) (n := n) (by omega) (by omega)
  obtain ⟨C5, e5, m5, k5, l5⟩ := right_ok (CN := CN) m4 (by omega) (by omega) hS (by omega) (v := v) (w := w) (by rw [hS1]; exact hv) (by rw [hS1]; exact hw)
  have p3 : L1 CN [x0, x1, some (sd S), x3, some (.ref r), x5, x6, x7, x8, some (.int n), x10, x11, x12] C2 = .nx [x0, x1, some (sd S), x3, some (.ref r), x5, x6, x7, x8, some (.int n), x10, x11, x12] C5 := by
    simp only [fnBody, startD, sSeq, sIf, sAsg, sPut, sRet, sRetN, sDrop, sNx, sPar, sFor, dTest, dBin, dVar, dC, dCB, dCons, dNil, dTup, dLst, dSl, dPN, dPS, dRev, revO, dBM, isLst, dIf, dAnd, dOr, dNot, dTru, truB, dCall, dNeg, dNewK, dNewT, gN, gT, gsN, gsC, iR1, iR2, iSeq, srcOf, itemsOf, List.map_cons, List.map_nil, List.length_cons, List.length_nil, Nat.reduceAdd, Nat.reduceSub, Nat.reduceLeDiff, List.replicate_succ, List.replicate_zero, List.cons_append, List.nil_append, List.getElem?_cons_zero, List.getElem?_cons_succ, List.set_cons_zero, List.set_cons_succ, Res.bind_ok, Res.st_ok, Option.map_some, Option.bind_some, Res.lift_some, oAdd_i, oSub_i, oLt_i, oLe_i, oGt_i, oGe_i, oEq_i, oNe_i, oEq_s, oNe_s, if_true, if_false, reduceIte, Bool.false_eq_true, gInt, gLen2, gLen, Cl.gTup, gList, optS_some, SOut.seq_nx, SOut.seq_rt, SOut.seq_bk, SOut.seq_ct, bodyOut, atI_0, atI_1, atI_2, atI_3, atI_4, atI_5, oSub2_tup, oSub2_fl, Option.orElse_some, g2I, decide_true, decide_false, slO, dDct, dPairs, keyed, Int.reduceAdd, Int.reduceMul, L1, e3, e4, e5, Bool.not_true]
  obtain ⟨t, o6, e6, t0, t1, m6⟩ := draw_ok m5 (b := (n : Int)) (by omega) (by omega) (by omega)
  obtain ⟨u, o7, e7, u0, u1, m7⟩ := draw_ok m6 (b := (n : Int)) (by omega) (by omega) (by omega)
  obtain ⟨C8, e8, m8, k8, l8⟩ := right_ok (CN := CN) m7 (by simp; omega) (by omega) hS (by omega) (v := .th t.toNat) (w := .th u.toNat) (by show _ < S.length; omega) (by show _ < S.length; omega)
  have et : ((t.toNat : Nat) : Int) = t := by omega
  have eu : ((u.toNat : Nat) : Int) = u := by omega
  rw [vd_th, vd_th, et, eu] at e8
  have p4 : L2' CN [x0, x1, some (sd S), x3, some (.ref r), x5, x6, x7, x8, some (.int n), x10, x11, x12] C5 = .nx [x0, x1, some (sd S), x3, some (.ref r), x5, x6, x7, x8, some (.int n), x10, x11, x12] C8 := by
    simp only [fnBody, startD, sSeq, sIf, sAsg, sPut, sRet, sRetN, sDrop, sNx, sPar, sFor, dTest, dBin, dVar, dC, dCB, dCons, dNil, dTup, dLst, dSl, dPN, dPS, dRev, revO, dBM, isLst, dIf, dAnd, dOr, dNot, dTru, truB, dCall, dNeg, dNewK, dNewT, gN, gT, gsN, gsC, iR1, iR2, iSeq, srcOf, itemsOf, List.map_cons, List.map_nil, List.length_cons, List.length_nil, Nat.reduceAdd, Nat.reduceSub, Nat.reduceLeDiff, List.replicate_succ, List.replicate_zero, List.cons_append, List.nil_append, List.getElem?_cons_zero, List.getElem?_cons_succ, List.set_cons_zero, List.set_cons_succ, Res.bind_ok, Res.st_ok, Option.map_some, Option.bind_some, Res.lift_some, oAdd_i, oSub_i, oLt_i, oLe_i, oGt_i, oGe_i, oEq_i, oNe_i, oEq_s, oNe_s, if_true, if_false, reduceIte, Bool.false_eq_true, gInt, gLen2, gLen, Cl.gTup, gList, optS_some, SOut.seq_nx, SOut.seq_rt, SOut.seq_bk, SOut.seq_ct, bodyOut, atI_0, atI_1, atI_2, atI_3, atI_4, atI_5, oSub2_tup, oSub2_fl, Option.orElse_some, g2I, decide_true, decide_false, slO, dDct, dPairs, keyed, Int.reduceAdd, Int.reduceMul, L2', e6, e7, le2, e8, Bool.not_true]
  simp only [List.length_set] at l8
  obtain ⟨C9, R, a, c, e9, hR, ha, hc, hRS, m9, k9, l9⟩ := rings_ok m8 (by omega) (by omega)
  obtain ⟨C10, e10, m10, k10, l10⟩ := right_ok (CN := CN) m9 (by omega) (by omega) hRS hR (v := .th a) (w := .th c) ha hc
  have p5 : sAsg (gT 3 (gsC (gN 10) (gsC (gN 11) (gsC (gN 12) gsN)))) (dCall 1 F_rings (dCons (dVar 4) dNil)) [x0, x1, some (sd S), x3, some (.ref r), x5, x6, x7, x8, some (.int n), x10, x11, x12] C8 = .nx [x0, x1, some (sd S), x3, some (.ref r), x5, x6, x7, x8, some (.int n), some (sd R), some (vd (.th a)), some (vd (.th c))] C9 := by
    simp only [fnBody, startD, sSeq, sIf, sAsg, sPut, sRet, sRetN, sDrop, sNx, sPar, sFor, dTest, dBin, dVar, dC, dCB, dCons, dNil, dTup, dLst, dSl, dPN, dPS, dRev, revO, dBM, isLst, dIf, dAnd, dOr, dNot, dTru, truB, dCall, dNeg, dNewK, dNewT, gN, gT, gsN, gsC, iR1, iR2, iSeq, srcOf, itemsOf, List.map_cons, List.map_nil, List.length_cons, List.length_nil, Nat.reduceAdd, Nat.reduceSub, Nat.reduceLeDiff, List.replicate_succ, List.replicate_zero, List.cons_append, List.nil_append, List.getElem?_cons_zero, List.getElem?_cons_succ, List.set_cons_zero, List.set_cons_succ, Res.bind_ok, Res.st_ok, Option.map_some, Option.bind_some, Res.lift_some, oAdd_i, oSub_i, oLt_i, oLe_i, oGt_i, oGe_i, oEq_i, oNe_i, oEq_s, oNe_s, if_true, if_false, reduceIte, Bool.false_eq_true, gInt, gLen2, gLen, Cl.gTup, gList, optS_some, SOut.seq_nx, SOut.seq_rt, SOut.seq_bk, SOut.seq_ct, bodyOut, atI_0, atI_1, atI_2, atI_3, atI_4, atI_5, oSub2_tup, oSub2_fl, Option.orElse_some, g2I, decide_true, decide_false, slO, dDct, dPairs, keyed, Int.reduceAdd, Int.reduceMul, e9]
  have p6 : L3 CN [x0, x1, some (sd S), x3, some (.ref r), x5, x6, x7, x8, some (.int n), some (sd R), some (vd (.th a)), some (vd (.th c))] C9 = .nx [x0, x1, some (sd S), x3, some (.ref r), x5, x6, x7, x8, some (.int n), some (sd R), some (vd (.th a)), some (vd (.th c))] C10 := by
    simp only [fnBody, startD, sSeq, sIf, sAsg, sPut, sRet, sRetN, sDrop, sNx, sPar, sFor, dTest, dBin, dVar, dC, dCB, dCons, dNil, dTup, dLst, dSl, dPN, dPS, dRev, revO, dBM, isLst, dIf, dAnd, dOr, dNot, dTru, truB, dCall, dNeg, dNewK, dNewT, gN, gT, gsN, gsC, iR1, iR2, iSeq, srcOf, itemsOf, List.map_cons, List.map_nil, List.length_cons, List.length_nil, Nat.reduceAdd, Nat.reduceSub, Nat.reduceLeDiff, List.replicate_succ, List.replicate_zero, List.cons_append, List.nil_append, List.getElem?_cons_zero, List.getElem?_cons_succ, List.set_cons_zero, List.set_cons_succ, Res.bind_ok, Res.st_ok, Option.map_some, Option.bind_some, Res.lift_some, oAdd_i, oSub_i, oLt_i, oLe_i, oGt_i, oGe_i, oEq_i, oNe_i, oEq_s, oNe_s, if_true, if_false, reduceIte, Bool.false_eq_true, gInt, gLen2, gLen, Cl.gTup, gList, optS_some, SOut.seq_nx, SOut.seq_rt, SOut.seq_bk, SOut.seq_ct, bodyOut, atI_0, atI_1, atI_2, atI_3, atI_4, atI_5, oSub2_tup, oSub2_fl, Option.orElse_some, g2I, decide_true, decide_false, slO, dDct, dPairs, keyed, Int.reduceAdd, Int.reduceMul, L3, e10, Bool.not_true]
  refine ⟨C10, some (sd S), some (.int n), some (sd R), some (vd (.th a)), some (vd (.th c)), ?_, m10.le (by omega), by omega⟩
  unfold lapB
  rw [sSeq_nx p1, sSeq_nx p2, sSeq_nx p3, sSeq_nx p4, sSeq_nx p5, p6]
theorem turn_ok {ns : List Int} (hl : ns.length ≤ 63) (C : CH) {k : Int} (k0 : 0 ≤ k) (k3 : k < 100) (x2 x3 x4 x5 x6 x7 x8 x9 x10 x11 x12 : Option D) : ∃ C' y2 y4 y5 y9 y10 y11 y12,
    turnB CN [some (.fl (intsD ns)), some (.int k), x2, x3, x4, x5, x6, x7, x8, x9, x10, x11, x12] C = .nx [some (.fl (intsD ns)), some (.int k), y2, x3, y4, y5, x6, x7, x8, y9, y10, y11, y12] C' := by
  obtain ⟨r, C1, e1, m1⟩ := begun_ok C hl k0 k3
  obtain ⟨sc', C4, e4, y2, y5, y9, y10, y11, y12, rfl, m4, l4⟩ := fr_inv (chk := fun _ => True) (g := gN 5) (b := lapB CN) (rngD 0 (3 : Int).toNat)
    (fun i sc C => ∃ y2 y5 y9 y10 y11 y12, sc = [some (.fl (intsD ns)), some (.int k), y2, x3, some (.ref r), y5, x6, x7, x8, y9, y10, y11, y12] ∧ MOk C r C1.length (1000 * (i : Int)) ∧ C1.length ≤ C.length)
    [some (.fl (intsD ns)), some (.int k), x2, x3, some (.ref r), x5, x6, x7, x8, x9, x10, x11, x12] C1 ⟨x2, x5, x9, x10, x11, x12, rfl, by simpa using m1, Nat.le_refl _⟩ (fun _ _ _ _ => trivial) (fun i d sc C hd ⟨y2, y5, y9, y10, y11, y12, e, m, hC⟩ => by
      subst e
      have hi : i < 3 := by simpa [rngD] using (List.getElem?_eq_some_iff.mp hd).1
      obtain ⟨C', z2, z9, z10, z11, z12, e', m', l'⟩ := lap_ok (CN := CN) m hC (by omega) (some (.fl (intsD ns))) (some (.int k)) y2 x3 (some d) x6 x7 x8 y9 y10 y11 y12
      exact ⟨_, rfl, _, C', .inl e', z2, some d, z9, z10, z11, z12, rfl, by
        have : 1000 * ((i + 1 : Nat) : Int) = 1000 * (i : Int) + 1000 := by push_cast; omega
        rw [this]; exact m', by omega⟩)
  have bs := rng1_i (j := 3) (by decide) (by decide)
  refine ⟨C4, y2, some (.ref r), y5, y9, y10, y11, y12, ?_⟩
  simp only [fnBody, startD, sSeq, sIf, sAsg, sPut, sRet, sRetN, sDrop, sNx, sPar, sFor, dTest, dBin, dVar, dC, dCB, dCons, dNil, dTup, dLst, dSl, dPN, dPS, dRev, revO, dBM, isLst, dIf, dAnd, dOr, dNot, dTru, truB, dCall, dNeg, dNewK, dNewT, gN, gT, gsN, gsC, iR1, iR2, iSeq, srcOf, itemsOf, List.map_cons, List.map_nil, List.length_cons, List.length_nil, Nat.reduceAdd, Nat.reduceSub, Nat.reduceLeDiff, List.replicate_succ, List.replicate_zero, List.cons_append, List.nil_append, List.getElem?_cons_zero, List.getElem?_cons_succ, List.set_cons_zero, List.set_cons_succ, Res.bind_ok, Res.st_ok, Option.map_some, Option.bind_some, Res.lift_some, oAdd_i, oSub_i, oLt_i, oLe_i, oGt_i, oGe_i, oEq_i, oNe_i, oEq_s, oNe_s, if_true, if_false, reduceIte, Bool.false_eq_true, gInt, gLen2, gLen, Cl.gTup, gList, optS_some, SOut.seq_nx, SOut.seq_rt, SOut.seq_bk, SOut.seq_ct, bodyOut, atI_0, atI_1, atI_2, atI_3, atI_4, atI_5, oSub2_tup, oSub2_fl, Option.orElse_some, g2I, decide_true, decide_false, slO, dDct, dPairs, keyed, Int.reduceAdd, Int.reduceMul, turnB, e1, bs, e4]
theorem end_ok (C : CH) (x0 x1 x2 x3 x4 x5 x6 x7 x8 x9 x10 x11 x12 : Option D) : ∃ C', lawEnd [x0, x1, x2, x3, x4, x5, x6, x7, x8, x9, x10, x11, x12] C = .rt (.bl true) C' := by
  have f1 : ∀ C, F_part [.tup [.tup [.str "pair", .int 1, .tup [.str "thing", .int 0]], .tup [.str "pair", .int 1, .tup [.str "thing", .int 2]], .tup [.str "pair", .int 1, .tup [.str "thing", .int 1]], .tup [.str "pair", .int 1, .tup [.str "thing", .int 4]], .tup [.str "pair", .int 2, .tup [.str "thing", .int 0]]], .tup [.str "thing", .int 0], .tup [.str "thing", .int 1]] C = .ok .non C :=
    fun C => part_eq s5_ok (v := .th 0) (w := .th 1) (show (0 : Nat) < 5 by decide) (show (1 : Nat) < 5 by decide) (show 5 ≤ 20 by decide) least5a C
  have f2 : ∀ C, F_part [.tup [.tup [.str "pair", .int 1, .tup [.str "thing", .int 0]], .tup [.str "pair", .int 1, .tup [.str "thing", .int 2]], .tup [.str "pair", .int 1, .tup [.str "thing", .int 1]], .tup [.str "pair", .int 1, .tup [.str "thing", .int 4]], .tup [.str "pair", .int 2, .tup [.str "thing", .int 0]]], .tup [.str "thing", .int 0], .tup [.str "thing", .int 3]] C = .ok (.tup [.int 2, .int 1]) C :=
    fun C => part_eq s5_ok (v := .th 0) (w := .th 3) (show (0 : Nat) < 5 by decide) (show (3 : Nat) < 5 by decide) (show 5 ≤ 20 by decide) least5b C
  have le2 : 2 ≤ 1000 := by decide
  have le3 : 3 ≤ 1000 := by decide
  have le5 : 5 ≤ 1000 := by decide
  generalize hE : O.lst [.non, .tup [.int 2, .int 1]] = E
  have p : Pds 1 [D.non, .tup [.int 2, .int 1]] := .cons _ _ _ (.non _) (.cons _ _ _ (.tup _ _ (.cons _ _ _ (pd_nat _ 2 (by decide)) (.cons _ _ _ (pd_nat _ 1 (by decide)) (.nil _)))) (.nil _))
  have q1 := rpr_lst p (by decide) (by simp [szDs, szD]) (C := C ++ [E]) (n := C.length) (by rw [get_new, hE])
  have q2 := rpr_lst p (by decide) (by simp [szDs, szD]) (C := C ++ [E] ++ [E]) (n := (C ++ [E]).length) (by rw [get_new, hE])
  refine ⟨C ++ [E] ++ [E], ?_⟩
  simp only [fnBody, startD, sSeq, sIf, sAsg, sPut, sRet, sRetN, sDrop, sNx, sPar, sFor, dTest, dBin, dVar, dC, dCB, dCons, dNil, dTup, dLst, dSl, dPN, dPS, dRev, revO, dBM, isLst, dIf, dAnd, dOr, dNot, dTru, truB, dCall, dNeg, dNewK, dNewT, gN, gT, gsN, gsC, iR1, iR2, iSeq, srcOf, itemsOf, List.map_cons, List.map_nil, List.length_cons, List.length_nil, Nat.reduceAdd, Nat.reduceSub, Nat.reduceLeDiff, List.replicate_succ, List.replicate_zero, List.cons_append, List.nil_append, List.getElem?_cons_zero, List.getElem?_cons_succ, List.set_cons_zero, List.set_cons_succ, Res.bind_ok, Res.st_ok, Option.map_some, Option.bind_some, Res.lift_some, oAdd_i, oSub_i, oLt_i, oLe_i, oGt_i, oGe_i, oEq_i, oNe_i, oEq_s, oNe_s, if_true, if_false, reduceIte, Bool.false_eq_true, gInt, gLen2, gLen, Cl.gTup, gList, optS_some, SOut.seq_nx, SOut.seq_rt, SOut.seq_bk, SOut.seq_ct, bodyOut, atI_0, atI_1, atI_2, atI_3, atI_4, atI_5, oSub2_tup, oSub2_fl, Option.orElse_some, g2I, decide_true, decide_false, slO, dDct, dPairs, keyed, Int.reduceAdd, Int.reduceMul, lawEnd, le2, le3, le5, f1, f2, hE, q1, q2, eq_self]
theorem law_ok (ns : List Int) (hl : ns.length ≤ 63) : ∃ C, F_law CN [.fl (intsD ns)] [] = .ok (.bl true) C := by
  generalize hj : (1 : Int) + (if decide ((2 : Int) < ((intsD ns).length : Int)) = true then 1 else 0) = j
  have j0 : 0 ≤ j ∧ j ≤ 2 := by rw [← hj]; split <;> omega
  obtain ⟨sc', C4, e4, y1, y2, y4, y5, y9, y10, y11, y12, rfl⟩ := fr_inv (chk := fun _ => True) (g := gN 1) (b := turnB CN) (rngD 0 j.toNat)
    (fun i sc C => ∃ y1 y2 y4 y5 y9 y10 y11 y12, sc = [some (.fl (intsD ns)), y1, y2, none, y4, y5, none, none, none, y9, y10, y11, y12])
    [some (.fl (intsD ns)), none, none, none, none, none, none, none, none, none, none, none, none] [] ⟨_, _, _, _, _, _, _, _, rfl⟩ (fun _ _ _ _ => trivial) (fun i d sc C hd ⟨y1, y2, y4, y5, y9, y10, y11, y12, e⟩ => by
      subst e
      have hi : i < j.toNat := by simpa [rngD] using (List.getElem?_eq_some_iff.mp hd).1
      have hd : d = .int (0 + (i : Int)) := by
        rw [rngD, List.getElem?_map, List.getElem?_range hi] at hd
        exact (Option.some.inj hd).symm
      subst hd
      obtain ⟨C', z2, z4, z5, z9, z10, z11, z12, e'⟩ := turn_ok (CN := CN) hl C (k := 0 + (i : Int)) (by omega) (by omega) y2 none y4 y5 none none none y9 y10 y11 y12
      exact ⟨_, rfl, _, C', .inl e', _, _, _, _, _, _, _, _, rfl⟩)
  have bs := rng1_i (j := j) (by omega) (by omega)
  obtain ⟨C5, e5⟩ := end_ok C4 (some (.fl (intsD ns))) y1 y2 none y4 y5 none none none y9 y10 y11 y12
  refine ⟨C5, ?_⟩
  unfold F_law
  rw [law_form]
  simp only [fnBody, startD, sSeq, sIf, sAsg, sPut, sRet, sRetN, sDrop, sNx, sPar, sFor, dTest, dBin, dVar, dC, dCB, dCons, dNil, dTup, dLst, dSl, dPN, dPS, dRev, revO, dBM, isLst, dIf, dAnd, dOr, dNot, dTru, truB, dCall, dNeg, dNewK, dNewT, gN, gT, gsN, gsC, iR1, iR2, iSeq, srcOf, itemsOf, List.map_cons, List.map_nil, List.length_cons, List.length_nil, Nat.reduceAdd, Nat.reduceSub, Nat.reduceLeDiff, List.replicate_succ, List.replicate_zero, List.cons_append, List.nil_append, List.getElem?_cons_zero, List.getElem?_cons_succ, List.set_cons_zero, List.set_cons_succ, Res.bind_ok, Res.st_ok, Option.map_some, Option.bind_some, Res.lift_some, oAdd_i, oSub_i, oLt_i, oLe_i, oGt_i, oGe_i, oEq_i, oNe_i, oEq_s, oNe_s, if_true, if_false, reduceIte, Bool.false_eq_true, gInt, gLen2, gLen, Cl.gTup, gList, optS_some, SOut.seq_nx, SOut.seq_rt, SOut.seq_bk, SOut.seq_ct, bodyOut, atI_0, atI_1, atI_2, atI_3, atI_4, atI_5, oSub2_tup, oSub2_fl, Option.orElse_some, g2I, decide_true, decide_false, slO, dDct, dPairs, keyed, Int.reduceAdd, Int.reduceMul, hj, bs, e4, e5]
end
end Lw
set_option maxHeartbeats 4000000
/-! law_k22: what holds, whatever the address of the exception's class. -/
namespace Lw
open PySem Cl L2
def R_true (ds : List D) (C : CH) (d : D) (C' : CH) : Prop := ∃ ns : List Int, ns.length ≤ 63 ∧ ds = [.fl (intsD ns)] ∧ C = [] ∧ d = .bl true ∧ C' = []
noncomputable def F_true : List D → CH → Res D := relF R_true
theorem true_ok (ns : List Int) (hl : ns.length ≤ 63) : ∃ C, F_true [.fl (intsD ns)] [] = .ok (.bl true) C := by
  refine ⟨[], relF_eq ⟨ns, hl, rfl, rfl, rfl, rfl⟩ ?_⟩
  rintro d2 C2 ⟨_, _, _, _, rfl, rfl⟩
  exact ⟨rfl, rfl⟩
theorem true_cuts (CN : Addr) (ds : List D) (C : CH) : Cuts C (F_law CN ds C) (F_true ds C) := by
  refine relF_cuts ?_
  rintro d C' ⟨ns, hl, rfl, rfl, rfl, rfl⟩
  obtain ⟨C2, e⟩ := law_ok (CN := CN) ns hl
  rw [e]
  exact .inr (.inr ⟨.bl true, C2, 0, rfl, by rw [List.take_zero], Nat.le_refl _, by simp only [D.bel], fun o ho => by rw [List.take_zero] at ho; cases ho⟩)
end Lw
/-! Printed by gen.py: the derivations. -/
namespace Lw
open PySem PySem.Spec L2 Cl

def top (i : Nat) : Stmt := PySem.Challenge.pw_keptrest_k22_whole_least_roads.main.body.getD i (.Pass ⟨0, 0, 0, 0⟩)
abbrev s_kind_of : Stmt := top 4
abbrev s_are_one : Stmt := top 5
abbrev s_head : Stmt := top 7
abbrev s_join : Stmt := top 8
abbrev s_road_to : Stmt := top 9
abbrev s_parting_road : Stmt := top 10
abbrev s_alike : Stmt := top 11
abbrev s_value_at : Stmt := top 12
abbrev s__law_begun : Stmt := top 14
abbrev s__law_draw : Stmt := top 15
abbrev s__law_of : Stmt := top 16
abbrev s__law_value : Stmt := top 17
abbrev s__law_store : Stmt := top 18
abbrev s__law_rings : Stmt := top 19
abbrev s__law_kind : Stmt := top 20
abbrev s__law_least : Stmt := top 21
abbrev s__law_at : Stmt := top 22
abbrev s__law_told_at : Stmt := top 23
abbrev s__law_moved : Stmt := top 24
abbrev s__law_led : Stmt := top 25
abbrev s__law_right : Stmt := top 26
abbrev s_law : Stmt := top 27
/-- a def of the text as it stands behind the top -/
structure Def1 (K : PySem.W.Frag) (mg : Str → Option Value) (x : Str) (st : Stmt) (ps : List Str) where
  f : Addr
  fd : FuncData
  fu : Fun K x x st f fd
  m : mg x = some (.ref f)
  b : Binds K fd ps []
def inner (s : Stmt) (j : Nat) : Stmt := match s with
  | .ClassDef (body := b) .. => b.getD j (.Pass ⟨0, 0, 0, 0⟩)
  | s => s
structure ExcD (K : PySem.W.Frag) (mg : Str → Option Value) (x q : Str) (st : Stmt) (ns ps : List Str) where
  C : Addr
  fI : Addr
  fd : FuncData
  o : OexC K C
  xf : XfC K C
  no : ∀ n ∈ ns, PySem.W.findIn K (.ref C) n = some none
  gC : mg x = some (.ref C)
  em : PySem.W.exmOne K (.ref C) (.ref C) = some true
  fu : Fun K "__init__" q st fI fd
  iC : PySem.W.findIn K (.ref C) "__init__" = some (some (.ref fI))
  tI : PySem.W.typeIn K (.ref fI) = some (.type "function")
  b : Binds K fd ps []
abbrev s_init_NoRoad : Stmt := inner (top 2) 0
structure Txt (K : PySem.W.Frag) (mg : Str → Option Value) where
  d_kind_of : Def1 K mg "kind_of" s_kind_of ["store", "value"]
  d_are_one : Def1 K mg "are_one" s_are_one ["value", "other"]
  d_head : Def1 K mg "head" s_head ["classes", "address"]
  d_join : Def1 K mg "join" s_join ["classes", "one", "other"]
  d_road_to : Def1 K mg "road_to" s_road_to ["line", "at"]
  d_parting_road : Def1 K mg "parting_road" s_parting_road ["store", "value", "other"]
  d_alike : Def1 K mg "alike" s_alike ["store", "value", "other"]
  d_value_at : Def1 K mg "value_at" s_value_at ["store", "value", "road"]
  d__law_begun : Def1 K mg "_law_begun" s__law_begun ["script", "k"]
  d__law_draw : Def1 K mg "_law_draw" s__law_draw ["m", "below"]
  d__law_of : Def1 K mg "_law_of" s__law_of ["m", "some"]
  d__law_value : Def1 K mg "_law_value" s__law_value ["m", "size"]
  d__law_store : Def1 K mg "_law_store" s__law_store ["m", "size"]
  d__law_rings : Def1 K mg "_law_rings" s__law_rings ["m"]
  d__law_kind : Def1 K mg "_law_kind" s__law_kind ["store", "value"]
  d__law_least : Def1 K mg "_law_least" s__law_least ["store", "first", "second"]
  d__law_at : Def1 K mg "_law_at" s__law_at ["store", "value", "road"]
  d__law_told_at : Def1 K mg "_law_told_at" s__law_told_at ["store", "value", "road"]
  d__law_moved : Def1 K mg "_law_moved" s__law_moved ["m", "store", "values"]
  d__law_led : Def1 K mg "_law_led" s__law_led ["value", "places"]
  d__law_right : Def1 K mg "_law_right" s__law_right ["m", "store", "first", "second"]
  d_law : Def1 K mg "law" s_law ["script"]
  x_NoRoad : ExcD K mg "NoRoad" "NoRoad.__init__" s_init_NoRoad ["number"] ["self", "number"]
  b_bool : mg "bool" = none
  b_enumerate : mg "enumerate" = none
  b_int : mg "int" = none
  b_isinstance : mg "isinstance" = none
  b_len : mg "len" = none
  b_list : mg "list" = none
  b_range : mg "range" = none
  b_repr : mg "repr" = none
  b_tuple : mg "tuple" = none
section
variable {P : Program} {w : World} {K : PySem.W.Frag} {mg : Str → Option Value} {base : Heap}
theorem sc_init_NoRoad : FnScope ["self", "number"] ["self", "number"] (defScope s_init_NoRoad) := ⟨rfl, rfl, rfl, by decide +kernel, rfl, by decide +kernel, by decide +kernel⟩
theorem ex_NoRoad (T : Txt K mg) : ExcT P w K mg base "NoRoad" T.x_NoRoad.C ["number"] := by
  have F := init1 (P := P) (w := w) (mg := mg) (base := base) T.x_NoRoad.fu sc_init_NoRoad (fun cdv A outer s H E => pss_one (ps_ost (pe_var (i := 0) rfl (.inl rfl)) (pe_var (i := 1) rfl (.inl rfl))))
  exact ⟨T.x_NoRoad.o, T.x_NoRoad.xf, T.x_NoRoad.no, T.x_NoRoad.gC, T.x_NoRoad.em, T.x_NoRoad.fI, T.x_NoRoad.fd, _, T.x_NoRoad.iC, T.x_NoRoad.tI, T.x_NoRoad.b, .inl ⟨_, rfl, F⟩⟩
theorem sc_kind_of : FnScope ["store", "value"] ["store", "value"] (defScope s_kind_of) := ⟨rfl, rfl, rfl, by decide +kernel, rfl, by decide +kernel, by decide +kernel⟩
theorem ok_kind_of (T : Txt K mg) : FnG P w K mg base 2 T.d_kind_of.f T.d_kind_of.fd ["store", "value"] (fnBody 2 (g_kind_of)) :=
  FnG.of (N := ["store", "value"]) T.d_kind_of.fu sc_kind_of fun cdv A outer s H E c =>
  (csC (csIf (tTru (cIsi rfl T.b_isinstance (caC (cv 1) (caC (cTy rfl T.b_bool (by decide +kernel)) caN)))) (csO (csRet cStr)) csN)
  (csC (csIf (tTru (cIsi rfl T.b_isinstance (caC (cv 1) (caC (cTy rfl T.b_int (by decide +kernel)) caN)))) (csO (csRet cStr)) csN)
  (csC (csIf (tEq c (cv 1) (cTup caN)) (csO (csRet cStr)) csN)
  (csC (csIf (tEq c (cSubs c (cv 1) cInt (fun _ _ => rfl)) cStr) (csO (csRet cStr)) csN)
  (csO (csRet (cIf (tEq c (cSubs c (cSubs c (cv 0) (cSubs c (cv 1) cInt (fun _ _ => rfl)) (fun _ _ => rfl)) cInt (fun _ _ => rfl)) cStr) cStr cStr)))))))

theorem sc_are_one : FnScope ["value", "other"] ["value", "other"] (defScope s_are_one) := ⟨rfl, rfl, rfl, by decide +kernel, rfl, by decide +kernel, by decide +kernel⟩
theorem ok_are_one (T : Txt K mg) : FnG P w K mg base 2 T.d_are_one.f T.d_are_one.fd ["value", "other"] (fnBody 2 (g_are_one)) :=
  FnG.of (N := ["value", "other"]) T.d_are_one.fu sc_are_one fun cdv A outer s H E c =>
  (csO (csRet (cAndV (cEq c (cIsi rfl T.b_isinstance (caC (cv 0) (caC (cTy rfl T.b_bool (by decide +kernel)) caN))) (cIsi rfl T.b_isinstance (caC (cv 1) (caC (cTy rfl T.b_bool (by decide +kernel)) caN)))) (cOne (cEq c (cv 0) (cv 1))))))

theorem sc_head : FnScope ["classes", "address"] ["classes", "address"] (defScope s_head) := ⟨rfl, rfl, rfl, by decide +kernel, rfl, by decide +kernel, by decide +kernel⟩
theorem ok_head (T : Txt K mg) : FnG P w K mg base 2 T.d_head.f T.d_head.fd ["classes", "address"] (fnBody 2 (g_head)) :=
  FnG.of (N := ["classes", "address"]) T.d_head.fu sc_head fun cdv A outer s H E c =>
  (csC (csWh c (tNe c (cGet2 c (cv 0) (cv 1) (cv 1)) (cv 1)) (csO (csSet 1 c (cSubs c (cv 0) (cv 1) (fun _ _ => rfl)))))
  (csO (csRet (cv 1))))

theorem sc_join : FnScope ["classes", "one", "other", "first", "second", "address", "above", "step"] ["classes", "one", "other"] (defScope s_join) := ⟨rfl, rfl, rfl, by decide +kernel, rfl, by decide +kernel, by decide +kernel⟩
theorem ok_join (T : Txt K mg) {F_head : List D → CH → Res D} (h_head : FnG P w K mg base 2 T.d_head.f T.d_head.fd ["classes", "address"] F_head) : FnG P w K mg base 3 T.d_join.f T.d_join.fd ["classes", "one", "other"] (fnBody 8 (g_join F_head)) :=
  FnG.of (N := ["classes", "one", "other", "first", "second", "address", "above", "step"]) T.d_join.fu sc_join fun cdv A outer s H E c =>
  (csC (csPar c (caC (cCall c h_head (by decide) T.d_head.m T.d_head.fu.kp T.d_head.b (caC (cv 0) (caC (cv 1) caN)) 2) (caC (cCall c h_head (by decide) T.d_head.m T.d_head.fu.kp T.d_head.b (caC (cv 0) (caC (cv 2) caN)) 2) caN)))
  (csC (csIf (tEq c (cv 3) (cv 4)) (csO (csRet cBl)) csN)
  (csC (csPut c (cv 0) (cv 3) (cv 4))
  (csC (csFor c (ciSeq (cTup (caC (cTup (caC (cv 1) (caC (cv 4) caN))) (caC (cTup (caC (cv 2) (caC (cv 4) caN))) caN)))) (cgT c (cgsC (cgN 5 c.nd) (cgsC (cgN 6 c.nd) cgsN))) (csO (csWh c (tNe c (cGet2 c (cv 0) (cv 5) (cv 5)) (cv 6)) (csC (csSet 7 c (cGet2 c (cv 0) (cv 5) (cv 5)))
  (csC (csPut c (cv 0) (cv 5) (cv 6))
  (csO (csSet 5 c (cv 7))))))))
  (csO (csRet cBl))))))

theorem sc_road_to : FnScope ["line", "at", "steps"] ["line", "at"] (defScope s_road_to) := ⟨rfl, rfl, rfl, by decide +kernel, rfl, by decide +kernel, by decide +kernel⟩
theorem ok_road_to (T : Txt K mg) : FnG P w K mg base 2 T.d_road_to.f T.d_road_to.fd ["line", "at"] (fnBody 3 (g_road_to)) :=
  FnG.of (N := ["line", "at", "steps"]) T.d_road_to.fu sc_road_to fun cdv A outer s H E c =>
  (csC (csSet 2 c (cLst caN))
  (csC (csWh c (tNe c (cSubs c (cSubs c (cv 0) (cv 1) (fun _ _ => rfl)) cInt (fun _ _ => rfl)) cInt) (csC (csE (cApp (cv 2) (caC (cSubs c (cSubs c (cv 0) (cv 1) (fun _ _ => rfl)) cInt (fun _ _ => rfl)) caN)))
  (csO (csSet 1 c (cSubs c (cSubs c (cv 0) (cv 1) (fun _ _ => rfl)) cInt (fun _ _ => rfl))))))
  (csO (csRet (cTupOf rfl T.b_tuple (caC (cRev (cv 2)) caN))))))

theorem sc_parting_road : FnScope ["store", "value", "other", "classes", "line", "at", "kind", "one", "two", "first", "second"] ["store", "value", "other"] (defScope s_parting_road) := ⟨rfl, rfl, rfl, by decide +kernel, rfl, by decide +kernel, by decide +kernel⟩
theorem ok_parting_road (T : Txt K mg) {F_join : List D → CH → Res D} (h_join : FnG P w K mg base 3 T.d_join.f T.d_join.fd ["classes", "one", "other"] F_join) {F_are_one : List D → CH → Res D} (h_are_one : FnG P w K mg base 2 T.d_are_one.f T.d_are_one.fd ["value", "other"] F_are_one) {F_road_to : List D → CH → Res D} (h_road_to : FnG P w K mg base 2 T.d_road_to.f T.d_road_to.fd ["line", "at"] F_road_to) {F_kind_of : List D → CH → Res D} (h_kind_of : FnG P w K mg base 2 T.d_kind_of.f T.d_kind_of.fd ["store", "value"] F_kind_of) : FnG P w K mg base 4 T.d_parting_road.f T.d_parting_road.fd ["store", "value", "other"] (fnBody 11 (g_parting_road F_join F_are_one F_road_to F_kind_of)) :=
  FnG.of (N := ["store", "value", "other", "classes", "line", "at", "kind", "one", "two", "first", "second"]) T.d_parting_road.fu sc_parting_road fun cdv A outer s H E c =>
  (csC (csPar3 c (caC cNewK (caC (cLst (caC (cTup (caC (cv 1) (caC (cv 2) (caC cInt (caC cInt caN))))) caN)) (caC cInt caN))))
  (csC (csWh c (tLt (cv 5) (cLen rfl T.b_len (caC (cv 4) caN))) (csC (csPar c (caC (cSubs c (cSubs c (cv 4) (cv 5) (fun _ _ => rfl)) cInt (fun _ _ => rfl)) (caC (cSubs c (cSubs c (cv 4) (cv 5) (fun _ _ => rfl)) cInt (fun _ _ => rfl)) caN)))
  (csC (csSet 6 c (cCall c h_kind_of (by decide) T.d_kind_of.m T.d_kind_of.fu.kp T.d_kind_of.b (caC (cv 0) (caC (cv 7) caN)) 2))
  (csC (csIf (tNe c (cv 6) (cCall c h_kind_of (by decide) T.d_kind_of.m T.d_kind_of.fu.kp T.d_kind_of.b (caC (cv 0) (caC (cv 8) caN)) 2)) (csO (csRet (cCall c h_road_to (by decide) T.d_road_to.m T.d_road_to.fu.kp T.d_road_to.b (caC (cv 4) (caC (cv 5) caN)) 2))) csN)
  (csC (csIf (tEq c (cv 6) cStr) (csO (csIf (tTru (cCall c h_join (by decide) T.d_join.m T.d_join.fu.kp T.d_join.b (caC (cv 3) (caC (cSubs c (cv 7) cInt (fun _ _ => rfl)) (caC (cSubs c (cv 8) cInt (fun _ _ => rfl)) caN))) 3)) (csC (csPar c (caC (cSubs c (cv 0) (cSubs c (cv 7) cInt (fun _ _ => rfl)) (fun _ _ => rfl)) (caC (cSubs c (cv 0) (cSubs c (cv 8) cInt (fun _ _ => rfl)) (fun _ _ => rfl)) caN)))
  (csC (csE (cApp (cv 4) (caC (cTup (caC (cSubs c (cv 9) cInt (fun _ _ => rfl)) (caC (cSubs c (cv 10) cInt (fun _ _ => rfl)) (caC (cv 5) (caC cInt caN))))) caN)))
  (csO (csE (cApp (cv 4) (caC (cTup (caC (cSubs c (cv 9) cInt (fun _ _ => rfl)) (caC (cSubs c (cv 10) cInt (fun _ _ => rfl)) (caC (cv 5) (caC cInt caN))))) caN)))))) csN)) (csO (csIf (ctNot (tTru (cCall c h_are_one (by decide) T.d_are_one.m T.d_are_one.fu.kp T.d_are_one.b (caC (cv 7) (caC (cv 8) caN)) 2))) (csO (csRet (cCall c h_road_to (by decide) T.d_road_to.m T.d_road_to.fu.kp T.d_road_to.b (caC (cv 4) (caC (cv 5) caN)) 2))) csN)))
  (csO (csSet 5 c (cAdd (cv 5) cInt))))))))
  (csO (csRet cNon))))

theorem sc_alike : FnScope ["store", "value", "other"] ["store", "value", "other"] (defScope s_alike) := ⟨rfl, rfl, rfl, by decide +kernel, rfl, by decide +kernel, by decide +kernel⟩
theorem ok_alike (T : Txt K mg) {F_parting_road : List D → CH → Res D} (h_parting_road : FnG P w K mg base 4 T.d_parting_road.f T.d_parting_road.fd ["store", "value", "other"] F_parting_road) : FnG P w K mg base 5 T.d_alike.f T.d_alike.fd ["store", "value", "other"] (fnBody 3 (g_alike F_parting_road)) :=
  FnG.of (N := ["store", "value", "other"]) T.d_alike.fu sc_alike fun cdv A outer s H E c =>
  (csO (csRet (cIs (cCall c h_parting_road (by decide) T.d_parting_road.m T.d_parting_road.fu.kp T.d_parting_road.b (caC (cv 0) (caC (cv 1) (caC (cv 2) caN))) 3) cNon)))

theorem sc_value_at : FnScope ["store", "value", "road", "number", "step"] ["store", "value", "road"] (defScope s_value_at) := ⟨rfl, rfl, rfl, by decide +kernel, rfl, by decide +kernel, by decide +kernel⟩
theorem ok_value_at (T : Txt K mg) {F_kind_of : List D → CH → Res D} (h_kind_of : FnG P w K mg base 2 T.d_kind_of.f T.d_kind_of.fd ["store", "value"] F_kind_of) : FnG P w K mg base 3 T.d_value_at.f T.d_value_at.fd ["store", "value", "road"] (fnBody 5 (g_value_at T.x_NoRoad.C F_kind_of)) :=
  FnG.of (N := ["store", "value", "road", "number", "step"]) T.d_value_at.fu sc_value_at fun cdv A outer s H E c =>
  (csC (csFor c (ciEnu rfl T.b_enumerate (caC (cv 2) caN)) (cgT c (cgsC (cgN 3 c.nd) (cgsC (cgN 4 c.nd) cgsN))) (csC (csIf (tNe c (cCall c h_kind_of (by decide) T.d_kind_of.m T.d_kind_of.fu.kp T.d_kind_of.b (caC (cv 0) (caC (cv 1) caN)) 2) cStr) (csO (csRaise c (ex_NoRoad T) (caC (cv 3) caN))) csN)
  (csO (csSet 1 c (cSubs c (cSubs c (cv 0) (cSubs c (cv 1) cInt (fun _ _ => rfl)) (fun _ _ => rfl)) (cv 4) (fun _ _ => rfl))))))
  (csO (csRet (cv 1))))

theorem sc__law_begun : FnScope ["script", "k", "cells", "great", "begun", "cell"] ["script", "k"] (defScope s__law_begun) := ⟨rfl, rfl, rfl, by decide +kernel, rfl, by decide +kernel, by decide +kernel⟩
theorem ok__law_begun (T : Txt K mg) : FnG P w K mg base 2 T.d__law_begun.f T.d__law_begun.fd ["script", "k"] (fnBody 6 (g__law_begun)) :=
  FnG.of (N := ["script", "k", "cells", "great", "begun", "cell"]) T.d__law_begun.fu sc__law_begun fun cdv A outer s H E c =>
  (csC (csSet 2 c (cAdd (cSl (cv 0) (coS (cv 1)) coN) (cSl (cv 0) coN (coS (cv 1)))))
  (csC (csLc 3 [("cell", 5)] c (sw_true rfl rfl rfl (by decide +kernel)) (ciSeq (cv 0)) (blkOk_by (N := ["script", "k", "cells", "great", "begun", "cell"]) (sc := defScope s__law_begun) (by decide +kernel)) (fun _ _ _ _ _ c' => (cgN 5 c'.nd)) (fun _ _ _ _ _ c' => (ctsO (tGe (cv 5) (cPow cInt cInt)))) (fun _ _ _ _ _ c' => (cv 5)))
  (csC (csSet 4 c (cAdd cInt (cMul2 cInt (cv 1))))
  (csC (csFor c (ciSeq (cv 2)) (cgN 5 c.nd) (csO (csSet 4 c (cMod (cIntOf rfl T.b_int (caC (cAdd (cMul2 (cv 4) cInt) (cv 5)) caN)) cInt))))
  (csO (csRet (cDct (cpsC cStr (cIf (tLt (cv 1) (cLen rfl T.b_len (caC (cv 3) caN))) (cSubs c (cv 3) (cv 1) (fun _ _ => rfl)) cInt) (cpsC cStr (cv 4) (cpsC cStr (cAdd (cv 2) (cLst (caC (cAdd (cMul2 cInt (cv 1)) cInt) caN))) (cpsC cStr cInt (cpsC cStr cInt cpsN))))))))))))

theorem sc__law_draw : FnScope ["m", "below", "spot", "cell", "blend", "found", "cells", "added"] ["m", "below"] (defScope s__law_draw) := ⟨rfl, rfl, rfl, by decide +kernel, rfl, by decide +kernel, by decide +kernel⟩
theorem ok__law_draw (T : Txt K mg) : FnG P w K mg base 2 T.d__law_draw.f T.d__law_draw.fd ["m", "below"] (fnBody 8 (g__law_draw)) :=
  FnG.of (N := ["m", "below", "spot", "cell", "blend", "found", "cells", "added"]) T.d__law_draw.fu sc__law_draw fun cdv A outer s H E c =>
  (csC (csIf (tGt (cSubs c (cv 0) cStr (fun _ _ => rfl)) cInt) (csC (csSet 5 c (cMod (cIntOf rfl T.b_int (caC (cSubs c (cv 0) cStr (fun _ _ => rfl)) caN)) (cv 1)))
  (csC (csPut c (cv 0) cStr (cDiv (cSubs c (cv 0) cStr (fun _ _ => rfl)) (cv 1)))
  (csO (csRet (cv 5))))) csN)
  (csC (csSet 2 c (cSubs c (cv 0) cStr (fun _ _ => rfl)))
  (csC (csPut c (cv 0) cStr (cAdd (cv 2) cInt))
  (csC (csPar c (caC (cSubs c (cv 0) cStr (fun _ _ => rfl)) (caC (cAdd (cSubs c (cv 0) cStr (fun _ _ => rfl)) (cMul2 (cMul2 cInt (cv 2)) (cv 2))) caN)))
  (csC (csSet 3 c (cSubs c (cv 6) (cMod (cIntOf rfl T.b_int (caC (cv 2) caN)) (cLen rfl T.b_len (caC (cv 6) caN))) (fun _ _ => rfl)))
  (csC (csSet 4 c (cMod (cIntOf rfl T.b_int (caC (cAdd (cMul2 (cv 3) (cAdd (cMul2 cInt (cv 2)) cInt)) (cv 7)) caN)) cInt))
  (csC (csSet 4 c (cMod (cIntOf rfl T.b_int (caC (cAdd (cAdd (cMul2 (cv 4) (cv 4)) (cMul2 cInt (cv 2))) (cSubs c (cv 0) cStr (fun _ _ => rfl))) caN)) cInt))
  (csO (csRet (cMod (cDiv (cMod (cIntOf rfl T.b_int (caC (cAdd (cMul2 (cv 4) cInt) (cv 2)) caN)) cInt) cInt) (cv 1)))))))))))

theorem sc__law_of : FnScope ["m", "some"] ["m", "some"] (defScope s__law_of) := ⟨rfl, rfl, rfl, by decide +kernel, rfl, by decide +kernel, by decide +kernel⟩
theorem ok__law_of (T : Txt K mg) {F__law_draw : List D → CH → Res D} (h__law_draw : FnG P w K mg base 2 T.d__law_draw.f T.d__law_draw.fd ["m", "below"] F__law_draw) : FnG P w K mg base 3 T.d__law_of.f T.d__law_of.fd ["m", "some"] (fnBody 2 (g__law_of F__law_draw)) :=
  FnG.of (N := ["m", "some"]) T.d__law_of.fu sc__law_of fun cdv A outer s H E c =>
  (csO (csRet (cSubs c (cv 1) (cCall c h__law_draw (by decide) T.d__law_draw.m T.d__law_draw.fu.kp T.d__law_draw.b (caC (cv 0) (caC (cLen rfl T.b_len (caC (cv 1) caN)) caN)) 2) (fun _ _ => rfl))))

theorem sc__law_value : FnScope ["m", "size", "way"] ["m", "size"] (defScope s__law_value) := ⟨rfl, rfl, rfl, by decide +kernel, rfl, by decide +kernel, by decide +kernel⟩
theorem ok__law_value (T : Txt K mg) {F__law_of : List D → CH → Res D} (h__law_of : FnG P w K mg base 3 T.d__law_of.f T.d__law_of.fd ["m", "some"] F__law_of) {F__law_draw : List D → CH → Res D} (h__law_draw : FnG P w K mg base 2 T.d__law_draw.f T.d__law_draw.fd ["m", "below"] F__law_draw) : FnG P w K mg base 4 T.d__law_value.f T.d__law_value.fd ["m", "size"] (fnBody 3 (g__law_value F__law_of F__law_draw)) :=
  FnG.of (N := ["m", "size", "way"]) T.d__law_value.fu sc__law_value fun cdv A outer s H E c =>
  (csC (csSet 2 c (cCall c h__law_draw (by decide) T.d__law_draw.m T.d__law_draw.fu.kp T.d__law_draw.b (caC (cv 0) (caC cInt caN)) 2))
  (csC (csIf (tLt (cv 2) cInt) (csO (csRet (cTup (caC cStr (caC (cCall c h__law_draw (by decide) T.d__law_draw.m T.d__law_draw.fu.kp T.d__law_draw.b (caC (cv 0) (caC (cv 1) caN)) 2) caN))))) csN)
  (csO (csRet (cCall c h__law_of (by decide) T.d__law_of.m T.d__law_of.fu.kp T.d__law_of.b (caC (cv 0) (caC (cLst (caC (cTup caN) (caC cBl (caC cBl (caC cInt (caC cInt (caC cInt (caC (cTup (caC cStr (caC cStr caN))) (caC (cTup (caC cStr (caC cStr caN))) (caC (cPow cInt cInt) caN)))))))))) caN)) 2)))))

theorem sc__law_store : FnScope ["m", "size", "found", "k", "way", "twin"] ["m", "size"] (defScope s__law_store) := ⟨rfl, rfl, rfl, by decide +kernel, rfl, by decide +kernel, by decide +kernel⟩
theorem ok__law_store (T : Txt K mg) {F__law_draw : List D → CH → Res D} (h__law_draw : FnG P w K mg base 2 T.d__law_draw.f T.d__law_draw.fd ["m", "below"] F__law_draw) {F__law_value : List D → CH → Res D} (h__law_value : FnG P w K mg base 4 T.d__law_value.f T.d__law_value.fd ["m", "size"] F__law_value) {F__law_of : List D → CH → Res D} (h__law_of : FnG P w K mg base 3 T.d__law_of.f T.d__law_of.fd ["m", "some"] F__law_of) : FnG P w K mg base 5 T.d__law_store.f T.d__law_store.fd ["m", "size"] (fnBody 6 (g__law_store F__law_draw F__law_value F__law_of)) :=
  FnG.of (N := ["m", "size", "found", "k", "way", "twin"]) T.d__law_store.fu sc__law_store fun cdv A outer s H E c =>
  (csC (csSet 2 c (cLst caN))
  (csC (csFor c (ciR1 rfl T.b_range (caC (cv 1) caN)) (cgN 3 c.nd) (csC (csSet 4 c (cCall c h__law_draw (by decide) T.d__law_draw.m T.d__law_draw.fu.kp T.d__law_draw.b (caC (cv 0) (caC cInt caN)) 2))
  (csO (csIf (ctW (cwAnd (tLt (cv 4) cInt) (cwAnd1 (tGt (cv 3) cInt)))) (csC (csSet 5 c (cSubs c (cv 2) (cCall c h__law_draw (by decide) T.d__law_draw.m T.d__law_draw.fu.kp T.d__law_draw.b (caC (cv 0) (caC (cv 3) caN)) 2) (fun _ _ => rfl)))
  (csC (csIf (ctW (cwAnd (tEq c (cSubs c (cv 5) cInt (fun _ _ => rfl)) cStr) (cwAnd1 (tEq c (cCall c h__law_draw (by decide) T.d__law_draw.m T.d__law_draw.fu.kp T.d__law_draw.b (caC (cv 0) (caC cInt caN)) 2) cInt)))) (csO (csSet 5 c (cTup (caC cStr (caC (cSubs c (cv 5) cInt (fun _ _ => rfl)) (caC (cCall c h__law_value (by decide) T.d__law_value.m T.d__law_value.fu.kp T.d__law_value.b (caC (cv 0) (caC (cv 1) caN)) 2) caN)))))) csN)
  (csO (csE (cApp (cv 2) (caC (cv 5) caN)))))) (csO (csIf (tEq c (cv 4) cInt) (csO (csE (cApp (cv 2) (caC (cCall c h__law_of (by decide) T.d__law_of.m T.d__law_of.fu.kp T.d__law_of.b (caC (cv 0) (caC (cLst (caC (cTup (caC cStr (caC (cTup (caC cInt caN)) (caC (cTup caN) caN)))) (caC (cTup (caC cStr (caC (cTup caN) (caC (cTup caN) caN)))) caN))) caN)) 2) caN)))) (csO (csE (cApp (cv 2) (caC (cTup (caC cStr (caC (cCall c h__law_of (by decide) T.d__law_of.m T.d__law_of.fu.kp T.d__law_of.b (caC (cv 0) (caC (cLst (caC cInt (caC cInt (caC (cTup caN) (caC (cCall c h__law_value (by decide) T.d__law_value.m T.d__law_value.fu.kp T.d__law_value.b (caC (cv 0) (caC (cv 1) caN)) 2) caN))))) caN)) 2) (caC (cCall c h__law_value (by decide) T.d__law_value.m T.d__law_value.fu.kp T.d__law_value.b (caC (cv 0) (caC (cv 1) caN)) 2) caN)))) caN))))))))))
  (csO (csRet (cTupOf rfl T.b_tuple (caC (cv 2) caN))))))

theorem sc__law_rings : FnScope ["m", "one", "two", "found", "side", "first", "many", "k", "spot", "rest"] ["m"] (defScope s__law_rings) := ⟨rfl, rfl, rfl, by decide +kernel, rfl, by decide +kernel, by decide +kernel⟩
theorem ok__law_rings (T : Txt K mg) {F__law_draw : List D → CH → Res D} (h__law_draw : FnG P w K mg base 2 T.d__law_draw.f T.d__law_draw.fd ["m", "below"] F__law_draw) {F__law_of : List D → CH → Res D} (h__law_of : FnG P w K mg base 3 T.d__law_of.f T.d__law_of.fd ["m", "some"] F__law_of) : FnG P w K mg base 4 T.d__law_rings.f T.d__law_rings.fd ["m"] (fnBody 10 (g__law_rings F__law_draw F__law_of)) :=
  FnG.of (N := ["m", "one", "two", "found", "side", "first", "many", "k", "spot", "rest"]) T.d__law_rings.fu sc__law_rings fun cdv A outer s H E c =>
  (csC (csPar c (caC (cAdd cInt (cCall c h__law_draw (by decide) T.d__law_draw.m T.d__law_draw.fu.kp T.d__law_draw.b (caC (cv 0) (caC cInt caN)) 2)) (caC (cAdd cInt (cCall c h__law_draw (by decide) T.d__law_draw.m T.d__law_draw.fu.kp T.d__law_draw.b (caC (cv 0) (caC cInt caN)) 2)) caN)))
  (csC (csPar c (caC (cLst caN) (caC (cCall c h__law_draw (by decide) T.d__law_draw.m T.d__law_draw.fu.kp T.d__law_draw.b (caC (cv 0) (caC cInt caN)) 2) caN)))
  (csC (csFor c (ciSeq (cTup (caC (cTup (caC cInt (caC (cv 1) caN))) (caC (cTup (caC (cv 1) (caC (cv 2) caN))) caN)))) (cgT c (cgsC (cgN 5 c.nd) (cgsC (cgN 6 c.nd) cgsN))) (csO (csFor c (ciR1 rfl T.b_range (caC (cv 6) caN)) (cgN 7 c.nd) (csC (csSet 9 c (cTup (caC cStr (caC (cAdd (cv 5) (cMod (cIntOf rfl T.b_int (caC (cAdd (cv 7) cInt) caN)) (cv 6))) caN))))
  (csO (csE (cApp (cv 3) (caC (cIf (tEq c (cv 4) cInt) (cTup (caC cStr (caC cInt (caC (cv 9) caN)))) (cTup (caC cStr (caC (cv 9) (caC cInt caN))))) caN))))))))
  (csC (csIf (tEq c (cCall c h__law_draw (by decide) T.d__law_draw.m T.d__law_draw.fu.kp T.d__law_draw.b (caC (cv 0) (caC cInt caN)) 2) cInt) (csC (csSet 8 c (cCall c h__law_draw (by decide) T.d__law_draw.m T.d__law_draw.fu.kp T.d__law_draw.b (caC (cv 0) (caC (cAdd (cv 1) (cv 2)) caN)) 2))
  (csO (csPut c (cv 3) (cv 8) (cAdd (cTup (caC cStr caN)) (cCall c h__law_of (by decide) T.d__law_of.m T.d__law_of.fu.kp T.d__law_of.b (caC (cv 0) (caC (cLst (caC (cTup (caC cInt (caC (cSubs c (cSubs c (cv 3) (cv 8) (fun _ _ => rfl)) cInt (fun _ _ => rfl)) caN))) (caC (cTup (caC (cSubs c (cSubs c (cv 3) (cv 8) (fun _ _ => rfl)) cInt (fun _ _ => rfl)) (caC cBl caN))) (caC (cTup (caC (cSubs c (cSubs c (cv 3) (cv 8) (fun _ _ => rfl)) cInt (fun _ _ => rfl)) (caC cInt caN))) caN)))) caN)) 2))))) csN)
  (csO (csRet (cTup (caC (cTupOf rfl T.b_tuple (caC (cv 3) caN)) (caC (cTup (caC cStr (caC cInt caN))) (caC (cTup (caC cStr (caC (cv 1) caN))) caN))))))))))

theorem sc__law_kind : FnScope ["store", "value"] ["store", "value"] (defScope s__law_kind) := ⟨rfl, rfl, rfl, by decide +kernel, rfl, by decide +kernel, by decide +kernel⟩
theorem ok__law_kind (T : Txt K mg) : FnG P w K mg base 2 T.d__law_kind.f T.d__law_kind.fd ["store", "value"] (fnBody 2 (g__law_kind)) :=
  FnG.of (N := ["store", "value"]) T.d__law_kind.fu sc__law_kind fun cdv A outer s H E c =>
  (csC (csIf (tTru (cIsi rfl T.b_isinstance (caC (cv 1) (caC (cTy rfl T.b_bool (by decide +kernel)) caN)))) (csO (csRet cStr)) csN)
  (csC (csIf (tTru (cIsi rfl T.b_isinstance (caC (cv 1) (caC (cTy rfl T.b_int (by decide +kernel)) caN)))) (csO (csRet cStr)) csN)
  (csC (csIf (tEq c (cv 1) (cTup caN)) (csO (csRet cStr)) csN)
  (csC (csIf (tEq c (cSubs c (cv 1) cInt (fun _ _ => rfl)) cStr) (csO (csRet cStr)) csN)
  (csO (csRet (cIf (tEq c (cSubs c (cSubs c (cv 0) (cSubs c (cv 1) cInt (fun _ _ => rfl)) (fun _ _ => rfl)) cInt (fun _ _ => rfl)) cStr) cStr cStr)))))))

theorem sc__law_least : FnScope ["store", "first", "second", "spot", "line", "seen", "kinds", "one", "two", "road"] ["store", "first", "second"] (defScope s__law_least) := ⟨rfl, rfl, rfl, by decide +kernel, rfl, by decide +kernel, by decide +kernel⟩
theorem ok__law_least (T : Txt K mg) {F__law_kind : List D → CH → Res D} (h__law_kind : FnG P w K mg base 2 T.d__law_kind.f T.d__law_kind.fd ["store", "value"] F__law_kind) : FnG P w K mg base 3 T.d__law_least.f T.d__law_least.fd ["store", "first", "second"] (fnBody 10 (g__law_least F__law_kind)) :=
  FnG.of (N := ["store", "first", "second", "spot", "line", "seen", "kinds", "one", "two", "road"]) T.d__law_least.fu sc__law_least fun cdv A outer s H E c =>
  (csC (csPar c (caC (cLst (caC (cTup (caC (cv 1) (caC (cv 2) (caC (cTup caN) caN)))) caN)) (caC cNewT caN)))
  (csC (csFor c (ciR1 rfl T.b_range (caC cInt caN)) (cgN 3 c.nd) (csC (csIf (tGe (cv 3) (cLen rfl T.b_len (caC (cv 4) caN))) (csO (csRet cNon)) csN)
  (csC (csAsg (cSubs c (cv 4) (cv 3) (fun _ _ => rfl)) (cgT c (cgsC (cgN 7 c.nd) (cgsC (cgN 8 c.nd) (cgsC (cgN 9 c.nd) cgsN)))))
  (csC (csSet 6 c (cLst (caC (cCall c h__law_kind (by decide) T.d__law_kind.m T.d__law_kind.fu.kp T.d__law_kind.b (caC (cv 0) (caC (cv 7) caN)) 2) (caC (cCall c h__law_kind (by decide) T.d__law_kind.m T.d__law_kind.fu.kp T.d__law_kind.b (caC (cv 0) (caC (cv 8) caN)) 2) caN))))
  (csO (csIf (tNe c (cv 6) (cLst (caC cStr (caC cStr caN)))) (csO (csIf (ctW (cwOr (tNe c (cSubs c (cv 6) cInt (fun _ _ => rfl)) (cSubs c (cv 6) cInt (fun _ _ => rfl))) (cwOr1 (tNe c (cv 7) (cv 8))))) (csO (csRet (cv 9))) csN)) (csO (csIf (tNotIn c (cTup (caC (cSubs c (cv 7) cInt (fun _ _ => rfl)) (caC (cSubs c (cv 8) cInt (fun _ _ => rfl)) caN))) (cv 5) rfl) (csC (csPut c (cv 5) (cTup (caC (cSubs c (cv 7) cInt (fun _ _ => rfl)) (caC (cSubs c (cv 8) cInt (fun _ _ => rfl)) caN))) cBl)
  (csC (csE (cApp (cv 4) (caC (cTup (caC (cSubs c (cSubs c (cv 0) (cSubs c (cv 7) cInt (fun _ _ => rfl)) (fun _ _ => rfl)) cInt (fun _ _ => rfl)) (caC (cSubs c (cSubs c (cv 0) (cSubs c (cv 8) cInt (fun _ _ => rfl)) (fun _ _ => rfl)) cInt (fun _ _ => rfl)) (caC (cAdd (cv 9) (cTup (caC cInt caN))) caN)))) caN)))
  (csO (csE (cApp (cv 4) (caC (cTup (caC (cSubs c (cSubs c (cv 0) (cSubs c (cv 7) cInt (fun _ _ => rfl)) (fun _ _ => rfl)) cInt (fun _ _ => rfl)) (caC (cSubs c (cSubs c (cv 0) (cSubs c (cv 8) cInt (fun _ _ => rfl)) (fun _ _ => rfl)) cInt (fun _ _ => rfl)) (caC (cAdd (cv 9) (cTup (caC cInt caN))) caN)))) caN)))))) csN))))))))
  (csO (csRet cStr))))

theorem sc__law_at : FnScope ["store", "value", "road", "k", "step"] ["store", "value", "road"] (defScope s__law_at) := ⟨rfl, rfl, rfl, by decide +kernel, rfl, by decide +kernel, by decide +kernel⟩
theorem ok__law_at (T : Txt K mg) {F__law_kind : List D → CH → Res D} (h__law_kind : FnG P w K mg base 2 T.d__law_kind.f T.d__law_kind.fd ["store", "value"] F__law_kind) : FnG P w K mg base 3 T.d__law_at.f T.d__law_at.fd ["store", "value", "road"] (fnBody 5 (g__law_at F__law_kind)) :=
  FnG.of (N := ["store", "value", "road", "k", "step"]) T.d__law_at.fu sc__law_at fun cdv A outer s H E c =>
  (csC (csFor c (ciEnu rfl T.b_enumerate (caC (cv 2) caN)) (cgT c (cgsC (cgN 3 c.nd) (cgsC (cgN 4 c.nd) cgsN))) (csC (csIf (tNe c (cCall c h__law_kind (by decide) T.d__law_kind.m T.d__law_kind.fu.kp T.d__law_kind.b (caC (cv 0) (caC (cv 1) caN)) 2) cStr) (csO (csRet (cv 3))) csN)
  (csO (csSet 1 c (cSubs c (cSubs c (cv 0) (cSubs c (cv 1) cInt (fun _ _ => rfl)) (fun _ _ => rfl)) (cv 4) (fun _ _ => rfl))))))
  (csO (csRet (cLst (caC (cv 1) caN)))))

theorem sc__law_told_at : FnScope ["store", "value", "road", "error", "found"] ["store", "value", "road"] (defScope s__law_told_at) := ⟨rfl, rfl, rfl, by decide +kernel, rfl, by decide +kernel, by decide +kernel⟩
theorem ok__law_told_at (T : Txt K mg) {F_value_at : List D → CH → Res D} (h_value_at : FnG P w K mg base 3 T.d_value_at.f T.d_value_at.fd ["store", "value", "road"] F_value_at) : FnG P w K mg base 4 T.d__law_told_at.f T.d__law_told_at.fd ["store", "value", "road"] (fnBody 5 (g__law_told_at T.x_NoRoad.C F_value_at)) :=
  FnG.of (N := ["store", "value", "road", "error", "found"]) T.d__law_told_at.fu sc__law_told_at fun cdv A outer s H E c =>
  (csC (csTryAs 3 c (ex_NoRoad T) (by simp) (fun W' pn xe c1 => (csO (csSet 4 c1 (cLst (caC (cCall c1 h_value_at (by decide) T.d_value_at.m T.d_value_at.fu.kp T.d_value_at.b (caC (cv 0) (caC (cv 1) (caC (cv 2) caN))) 3) caN))))) (fun a dd oe pn hz hd => (csO (csSetN 4 c.nd (cXf (ex_NoRoad T) (by simp) hz hd (cv 3))))))
  (csO (csRet (cv 4))))

theorem sc__law_moved : FnScope ["m", "store", "values", "k", "found", "left", "places", "thing", "value", "part"] ["m", "store", "values"] (defScope s__law_moved) := ⟨rfl, rfl, rfl, by decide +kernel, rfl, by decide +kernel, by decide +kernel⟩
theorem ok__law_moved (T : Txt K mg) {F__law_led : List D → CH → Res D} (h__law_led : FnG P w K mg base 2 T.d__law_led.f T.d__law_led.fd ["value", "places"] F__law_led) {F__law_draw : List D → CH → Res D} (h__law_draw : FnG P w K mg base 2 T.d__law_draw.f T.d__law_draw.fd ["m", "below"] F__law_draw) : FnG P w K mg base 3 T.d__law_moved.f T.d__law_moved.fd ["m", "store", "values"] (fnBody 10 (g__law_moved F__law_led F__law_draw)) :=
  FnG.of (N := ["m", "store", "values", "k", "found", "left", "places", "thing", "value", "part"]) T.d__law_moved.fu sc__law_moved fun cdv A outer s H E c =>
  (csC (csAsg (cTup (caC (cLstR c rfl T.b_list (crg1 rfl T.b_range (cAdd (cLen rfl T.b_len (caC (cv 1) caN)) cInt))) (caC (cLst caN) caN))) (cgT c (cgsC (cgN 5 c.nd) (cgsC (cgN 6 c.nd) cgsN))))
  (csC (csFor c (ciR1 rfl T.b_range (caC (cLen rfl T.b_len (caC (cv 1) caN)) caN)) (cgN 3 c.nd) (csO (csE (cApp (cv 6) (caC (cPopAt (cv 5) (caC (cCall c h__law_draw (by decide) T.d__law_draw.m T.d__law_draw.fu.kp T.d__law_draw.b (caC (cv 0) (caC (cLen rfl T.b_len (caC (cv 5) caN)) caN)) 2) caN)) caN)))))
  (csC (csSet 4 c (cMul2 (cLst (caC (cTup (caC cStr (caC cInt (caC (cTup caN) caN)))) caN)) (cAdd (cLen rfl T.b_len (caC (cv 1) caN)) cInt)))
  (csC (csFor c (ciEnu rfl T.b_enumerate (caC (cv 1) caN)) (cgT c (cgsC (cgN 3 c.nd) (cgsC (cgN 7 c.nd) cgsN))) (csO (csPut c (cv 4) (cSubs c (cv 6) (cv 3) (fun _ _ => rfl)) (cIf (tEq c (cSubs c (cv 7) cInt (fun _ _ => rfl)) cStr) (cTupOf rfl T.b_tuple (caC (cLc [("part", 9)] c (ciSeq (cv 7)) (blkOk_by (N := ["m", "store", "values", "k", "found", "left", "places", "thing", "value", "part"]) (sc := defScope s__law_moved) (by decide +kernel)) (fun _ _ _ _ _ c' => (cgN 9 c'.nd)) (fun _ _ _ _ _ c' => ctsN) (fun _ _ _ _ _ c' => (cCall c' h__law_led (by decide) T.d__law_led.m T.d__law_led.fu.kp T.d__law_led.b (caC (cv 9) (caC (cv 6) caN)) 2))) caN)) (cv 7)))))
  (csO (csRet (cTup (caC (cTupOf rfl T.b_tuple (caC (cv 4) caN)) (caC (cLc [("value", 8)] c (ciSeq (cv 2)) (blkOk_by (N := ["m", "store", "values", "k", "found", "left", "places", "thing", "value", "part"]) (sc := defScope s__law_moved) (by decide +kernel)) (fun _ _ _ _ _ c' => (cgN 8 c'.nd)) (fun _ _ _ _ _ c' => ctsN) (fun _ _ _ _ _ c' => (cCall c' h__law_led (by decide) T.d__law_led.m T.d__law_led.fu.kp T.d__law_led.b (caC (cv 8) (caC (cv 6) caN)) 2))) caN)))))))))

theorem sc__law_led : FnScope ["value", "places"] ["value", "places"] (defScope s__law_led) := ⟨rfl, rfl, rfl, by decide +kernel, rfl, by decide +kernel, by decide +kernel⟩
theorem ok__law_led (T : Txt K mg) : FnG P w K mg base 2 T.d__law_led.f T.d__law_led.fd ["value", "places"] (fnBody 2 (g__law_led)) :=
  FnG.of (N := ["value", "places"]) T.d__law_led.fu sc__law_led fun cdv A outer s H E c =>
  (csO (csRet (cIf (ctW (cwAnd (tTru (cIsi rfl T.b_isinstance (caC (cv 0) (caC (cTy rfl T.b_tuple (by decide +kernel)) caN)))) (cwAnd (tNe c (cv 0) (cTup caN)) (cwAnd1 (tEq c (cSubs c (cv 0) cInt (fun _ _ => rfl)) cStr))))) (cTup (caC cStr (caC (cSubs c (cv 1) (cSubs c (cv 0) cInt (fun _ _ => rfl)) (fun _ _ => rfl)) caN))) (cv 0))))

theorem sc__law_right : FnScope ["m", "store", "first", "second", "told", "roads", "road", "kept", "due", "other", "led", "value", "k"] ["m", "store", "first", "second"] (defScope s__law_right) := ⟨rfl, rfl, rfl, by decide +kernel, rfl, by decide +kernel, by decide +kernel⟩
theorem ok__law_right (T : Txt K mg) {F__law_told_at : List D → CH → Res D} (h__law_told_at : FnG P w K mg base 4 T.d__law_told_at.f T.d__law_told_at.fd ["store", "value", "road"] F__law_told_at) {F__law_at : List D → CH → Res D} (h__law_at : FnG P w K mg base 3 T.d__law_at.f T.d__law_at.fd ["store", "value", "road"] F__law_at) {F__law_draw : List D → CH → Res D} (h__law_draw : FnG P w K mg base 2 T.d__law_draw.f T.d__law_draw.fd ["m", "below"] F__law_draw) {F_alike : List D → CH → Res D} (h_alike : FnG P w K mg base 5 T.d_alike.f T.d_alike.fd ["store", "value", "other"] F_alike) {F_parting_road : List D → CH → Res D} (h_parting_road : FnG P w K mg base 4 T.d_parting_road.f T.d_parting_road.fd ["store", "value", "other"] F_parting_road) {F__law_moved : List D → CH → Res D} (h__law_moved : FnG P w K mg base 3 T.d__law_moved.f T.d__law_moved.fd ["m", "store", "values"] F__law_moved) {F__law_least : List D → CH → Res D} (h__law_least : FnG P w K mg base 3 T.d__law_least.f T.d__law_least.fd ["store", "first", "second"] F__law_least) : FnG P w K mg base 6 T.d__law_right.f T.d__law_right.fd ["m", "store", "first", "second"] (fnBody 13 (g__law_right F__law_told_at F__law_at F__law_draw F_alike F_parting_road F__law_moved F__law_least)) :=
  FnG.of (N := ["m", "store", "first", "second", "told", "roads", "road", "kept", "due", "other", "led", "value", "k"]) T.d__law_right.fu sc__law_right fun cdv A outer s H E c =>
  (csC (csPar c (caC (cRpr c rfl T.b_repr (caC (cv 1) caN)) (caC (cCall c h__law_least (by decide) T.d__law_least.m T.d__law_least.fu.kp T.d__law_least.b (caC (cv 1) (caC (cv 2) (caC (cv 3) caN))) 3) caN)))
  (csC (csSet 4 c (cLst (caC (cCall c h_parting_road (by decide) T.d_parting_road.m T.d_parting_road.fu.kp T.d_parting_road.b (caC (cv 1) (caC (cv 2) (caC (cv 3) caN))) 3) (caC (cCall c h_parting_road (by decide) T.d_parting_road.m T.d_parting_road.fu.kp T.d_parting_road.b (caC (cv 1) (caC (cv 3) (caC (cv 2) caN))) 3) (caC (cCall c h_parting_road (by decide) T.d_parting_road.m T.d_parting_road.fu.kp T.d_parting_road.b (caC (cv 1) (caC (cv 2) (caC (cv 3) caN))) 3) caN)))))
  (csC (csIf (ctW (cwOr (tNe c (cRpr c rfl T.b_repr (caC (cv 4) caN)) (cRpr c rfl T.b_repr (caC (cLst (caC (cv 8) (caC (cv 8) (caC (cv 8) caN)))) caN))) (cwOr1 (tNe c (cRpr c rfl T.b_repr (caC (cv 1) caN)) (cv 7))))) (csO (csRet cBl)) csN)
  (csC (csIf (tNe c (cRpr c rfl T.b_repr (caC (cLst (caC (cCall c h_alike (by decide) T.d_alike.m T.d_alike.fu.kp T.d_alike.b (caC (cv 1) (caC (cv 2) (caC (cv 3) caN))) 3) (caC (cCall c h_alike (by decide) T.d_alike.m T.d_alike.fu.kp T.d_alike.b (caC (cv 1) (caC (cv 3) (caC (cv 2) caN))) 3) caN))) caN)) (cRpr c rfl T.b_repr (caC (cLst (caC (cIs (cv 8) cNon) (caC (cIs (cv 8) cNon) caN))) caN))) (csO (csRet cBl)) csN)
  (csC (csIf (tNe c (cRpr c rfl T.b_repr (caC (cLst (caC (cCall c h_alike (by decide) T.d_alike.m T.d_alike.fu.kp T.d_alike.b (caC (cv 1) (caC (cv 2) (caC (cv 2) caN))) 3) (caC (cCall c h_parting_road (by decide) T.d_parting_road.m T.d_parting_road.fu.kp T.d_parting_road.b (caC (cv 1) (caC (cv 3) (caC (cv 3) caN))) 3) caN))) caN)) cStr) (csO (csRet cBl)) csN)
  (csC (csAsg (cCall c h__law_moved (by decide) T.d__law_moved.m T.d__law_moved.fu.kp T.d__law_moved.b (caC (cv 0) (caC (cv 1) (caC (cLst (caC (cv 2) (caC (cv 3) caN))) caN))) 3) (cgT c (cgsC (cgN 9 c.nd) (cgsC (cgN 10 c.nd) cgsN))))
  (csC (csIf (tNe c (cRpr c rfl T.b_repr (caC (cLst (caC (cCall c h_parting_road (by decide) T.d_parting_road.m T.d_parting_road.fu.kp T.d_parting_road.b (caC (cv 9) (caC (cSubs c (cv 10) cInt (fun _ _ => rfl)) (caC (cSubs c (cv 10) cInt (fun _ _ => rfl)) caN))) 3) (caC (cCall c h_alike (by decide) T.d_alike.m T.d_alike.fu.kp T.d_alike.b (caC (cv 9) (caC (cSubs c (cv 10) cInt (fun _ _ => rfl)) (caC (cSubs c (cv 10) cInt (fun _ _ => rfl)) caN))) 3) caN))) caN)) (cRpr c rfl T.b_repr (caC (cLst (caC (cv 8) (caC (cIs (cv 8) cNon) caN))) caN))) (csO (csRet cBl)) csN)
  (csC (csSet 5 c (cLst (caC (cTup caN) (caC (cTup (caC cInt caN)) (caC (cTup (caC cInt (caC cInt caN))) (caC (cTupOf rfl T.b_tuple (caC (cLc [("k", 12)] c (ciR1 rfl T.b_range (caC (cCall c h__law_draw (by decide) T.d__law_draw.m T.d__law_draw.fu.kp T.d__law_draw.b (caC (cv 0) (caC cInt caN)) 2) caN)) (blkOk_by (N := ["m", "store", "first", "second", "told", "roads", "road", "kept", "due", "other", "led", "value", "k"]) (sc := defScope s__law_right) (by decide +kernel)) (fun _ _ _ _ _ c' => (cgN 12 c'.nd)) (fun _ _ _ _ _ c' => ctsN) (fun _ _ _ _ _ c' => (cAdd cInt (cCall c' h__law_draw (by decide) T.d__law_draw.m T.d__law_draw.fu.kp T.d__law_draw.b (caC (cv 0) (caC cInt caN)) 2)))) caN)) caN))))))
  (csC (csFor c (ciSeq (cAdd (cv 5) (cIf (tIsNot (cv 8) cNon) (cLst (caC (cv 8) (caC (cAdd (cv 8) (cTup (caC cInt caN))) (caC (cAdd (cSl (cv 8) coN (coS (cNeg cInt))) (cTup (caC cInt (caC cInt caN)))) caN)))) (cLst caN)))) (cgN 6 c.nd) (csO (csFor c (ciSeq (cTup (caC (cv 2) (caC (cv 3) caN)))) (cgN 11 c.nd) (csO (csIf (tNe c (cRpr c rfl T.b_repr (caC (cCall c h__law_told_at (by decide) T.d__law_told_at.m T.d__law_told_at.fu.kp T.d__law_told_at.b (caC (cv 1) (caC (cv 11) (caC (cv 6) caN))) 3) caN)) (cRpr c rfl T.b_repr (caC (cCall c h__law_at (by decide) T.d__law_at.m T.d__law_at.fu.kp T.d__law_at.b (caC (cv 1) (caC (cv 11) (caC (cv 6) caN))) 3) caN))) (csO (csRet cBl)) csN)))))
  (csO (csRet cBl)))))))))))

theorem sc_law : FnScope ["script", "turn", "store", "told", "m", "lap", "p", "q", "s", "size", "rings", "first", "second"] ["script"] (defScope s_law) := ⟨rfl, rfl, rfl, by decide +kernel, rfl, by decide +kernel, by decide +kernel⟩
theorem ok_law (T : Txt K mg) {F_parting_road : List D → CH → Res D} (h_parting_road : FnG P w K mg base 4 T.d_parting_road.f T.d_parting_road.fd ["store", "value", "other"] F_parting_road) {F__law_right : List D → CH → Res D} (h__law_right : FnG P w K mg base 6 T.d__law_right.f T.d__law_right.fd ["m", "store", "first", "second"] F__law_right) {F__law_rings : List D → CH → Res D} (h__law_rings : FnG P w K mg base 4 T.d__law_rings.f T.d__law_rings.fd ["m"] F__law_rings) {F__law_draw : List D → CH → Res D} (h__law_draw : FnG P w K mg base 2 T.d__law_draw.f T.d__law_draw.fd ["m", "below"] F__law_draw) {F__law_value : List D → CH → Res D} (h__law_value : FnG P w K mg base 4 T.d__law_value.f T.d__law_value.fd ["m", "size"] F__law_value) {F__law_store : List D → CH → Res D} (h__law_store : FnG P w K mg base 5 T.d__law_store.f T.d__law_store.fd ["m", "size"] F__law_store) {F__law_begun : List D → CH → Res D} (h__law_begun : FnG P w K mg base 2 T.d__law_begun.f T.d__law_begun.fd ["script", "k"] F__law_begun) : FnG P w K mg base 7 T.d_law.f T.d_law.fd ["script"] (fnBody 13 (g_law F_parting_road F__law_right F__law_rings F__law_draw F__law_value F__law_store F__law_begun)) :=
  FnG.of (N := ["script", "turn", "store", "told", "m", "lap", "p", "q", "s", "size", "rings", "first", "second"]) T.d_law.fu sc_law fun cdv A outer s H E c =>
  (csC (csFor c (ciR1 rfl T.b_range (caC (cAdd cInt (cIntOf rfl T.b_int (caC (cGt (cLen rfl T.b_len (caC (cv 0) caN)) cInt) caN))) caN)) (cgN 1 c.nd) (csC (csSet 4 c (cCall c h__law_begun (by decide) T.d__law_begun.m T.d__law_begun.fu.kp T.d__law_begun.b (caC (cv 0) (caC (cv 1) caN)) 2))
  (csO (csFor c (ciR1 rfl T.b_range (caC cInt caN)) (cgN 5 c.nd) (csC (csSet 9 c (cAdd cInt (cCall c h__law_draw (by decide) T.d__law_draw.m T.d__law_draw.fu.kp T.d__law_draw.b (caC (cv 4) (caC cInt caN)) 2)))
  (csC (csSet 2 c (cCall c h__law_store (by decide) T.d__law_store.m T.d__law_store.fu.kp T.d__law_store.b (caC (cv 4) (caC (cv 9) caN)) 2))
  (csC (csIf (ctNot (tTru (cCall c h__law_right (by decide) T.d__law_right.m T.d__law_right.fu.kp T.d__law_right.b (caC (cv 4) (caC (cv 2) (caC (cCall c h__law_value (by decide) T.d__law_value.m T.d__law_value.fu.kp T.d__law_value.b (caC (cv 4) (caC (cv 9) caN)) 2) (caC (cCall c h__law_value (by decide) T.d__law_value.m T.d__law_value.fu.kp T.d__law_value.b (caC (cv 4) (caC (cv 9) caN)) 2) caN)))) 4))) (csO (csRet cBl)) csN)
  (csC (csIf (ctNot (tTru (cCall c h__law_right (by decide) T.d__law_right.m T.d__law_right.fu.kp T.d__law_right.b (caC (cv 4) (caC (cv 2) (caC (cTup (caC cStr (caC (cCall c h__law_draw (by decide) T.d__law_draw.m T.d__law_draw.fu.kp T.d__law_draw.b (caC (cv 4) (caC (cv 9) caN)) 2) caN))) (caC (cTup (caC cStr (caC (cCall c h__law_draw (by decide) T.d__law_draw.m T.d__law_draw.fu.kp T.d__law_draw.b (caC (cv 4) (caC (cv 9) caN)) 2) caN))) caN)))) 4))) (csO (csRet cBl)) csN)
  (csC (csAsg (cCall c h__law_rings (by decide) T.d__law_rings.m T.d__law_rings.fu.kp T.d__law_rings.b (caC (cv 4) caN) 1) (cgT c (cgsC (cgN 10 c.nd) (cgsC (cgN 11 c.nd) (cgsC (cgN 12 c.nd) cgsN)))))
  (csO (csIf (ctNot (tTru (cCall c h__law_right (by decide) T.d__law_right.m T.d__law_right.fu.kp T.d__law_right.b (caC (cv 4) (caC (cv 10) (caC (cv 11) (caC (cv 12) caN)))) 4))) (csO (csRet cBl)) csN)))))))))))
  (csC (csAsg (cTup (caC (cTup (caC cStr (caC cInt (caC (cTup (caC cStr (caC cInt caN))) caN)))) (caC (cTup (caC cStr (caC cInt (caC (cTup (caC cStr (caC cInt caN))) caN)))) (caC (cTup (caC cStr (caC cInt (caC (cTup (caC cStr (caC cInt caN))) caN)))) caN)))) (cgT c (cgsC (cgN 6 c.nd) (cgsC (cgN 7 c.nd) (cgsC (cgN 8 c.nd) cgsN)))))
  (csC (csSet 2 c (cTup (caC (cv 6) (caC (cv 7) (caC (cv 8) (caC (cTup (caC cStr (caC cInt (caC (cTup (caC cStr (caC cInt caN))) caN)))) (caC (cTup (caC cStr (caC cInt (caC (cTup (caC cStr (caC cInt caN))) caN)))) caN)))))))
  (csC (csSet 3 c (cLst (caC (cCall c h_parting_road (by decide) T.d_parting_road.m T.d_parting_road.fu.kp T.d_parting_road.b (caC (cv 2) (caC (cTup (caC cStr (caC cInt caN))) (caC (cTup (caC cStr (caC cInt caN))) caN))) 3) (caC (cCall c h_parting_road (by decide) T.d_parting_road.m T.d_parting_road.fu.kp T.d_parting_road.b (caC (cv 2) (caC (cTup (caC cStr (caC cInt caN))) (caC (cTup (caC cStr (caC cInt caN))) caN))) 3) caN))))
  (csO (csRet (cEq c (cRpr c rfl T.b_repr (caC (cv 3) caN)) (cRpr c rfl T.b_repr (caC (cLst (caC cNon (caC (cTup (caC cInt (caC cInt caN))) caN))) caN)))))))))

end
end Lw
/-! Printed by genz.py: the head and the end. -/
namespace Lw
open PySem PySem.Spec L2 Cl
section
variable {P : Program} {w : World} {K : PySem.W.Frag} {mg : Str → Option Value}
def Def1.of {h : Heap} {x : Str} {st : Stmt} {ps : List Str} {f : Addr} {oc : Value} {od an : Option Addr} {osl : Array (Option Value)} {kV doc pm cdv ct : Value} (X : K.In h) (G : h.Ns mainGlobals mg)
    (a : PySem.W.nsIn K mainGlobals x = some (some (.ref f))) (l : K.lookup f = some ⟨oc, od, .func (PySem.W.fnOf x x (defArgs st) (defBody st) (defScope st) .none kV doc pm an cdv ct), osl⟩)
    (c : PySem.W.codeIn K cdv x = true) (k : PySem.W.keepIn K (.ref f) = true)
    (hb : ∀ (kV doc pm : Value) (an : Option Addr) (cdv ct : Value) (us : List Value), us.length = ps.length → bindArgs (PySem.W.fnOf x x (defArgs st) (defBody st) (defScope st) .none kV doc pm an cdv ct) ⟨us, []⟩ = pure (ps.zip us)) : Def1 K mg x st ps :=
  ⟨f, PySem.W.fnOf x x (defArgs st) (defBody st) (defScope st) .none kV doc pm an cdv ct, fun_mk l c k, PySem.W.mg_of X G a, (fun_mk l c k).binds hb⟩
theorem em_self {S : Addr} (h1 : PySem.W.subIn K (.ref S) (.type "BaseException") = some true) (h2 : PySem.W.isClsIn K S = true) (h3 : PySem.W.typeIn K (.ref S) = some (.type "type")) (h4 : PySem.W.subIn K (.ref S) (.ref S) = some true) : PySem.W.exmOne K (.ref S) (.ref S) = some true := by
  have h2 : (PySem.W.clsIn K S).isSome = true := h2
  unfold PySem.W.exmOne PySem.W.kitCls
  simp only [h1, h2, h3, h4, beq_self_eq_true, Bool.and_self, if_true]
def ExcD.of {h : Heap} {x qn : Str} {st : Stmt} {ns ps : List Str} {C f N : Addr} {nm q : Str} {bs bm : List Value} {sn : List Str} {sub : List Value} {ab : Bool} {col : Option Bool} {dd : Option Addr} {m0 m1 m2 m3 m5 : Option Value} {oc : Value} {od an : Option Addr} {osl : Array (Option Value)} {kV doc pm cdv ct : Value} (X : K.In h) (G : h.Ns mainGlobals mg)
    (aC : PySem.W.nsIn K mainGlobals x = some (some (.ref C))) (xL : K.lookup C = some (PySem.excClassObj nm q C N bs bm true sn sub ab col dd m0 m1 m2 m3 m5 "ValueError.__new__")) (hbm : PySem.HandSPX.refsVE bm = true)
    (sa : PySem.W.findIn K (.ref C) "__setattr__" = some (some (.builtin "object.__setattr__"))) (ga : PySem.W.findIn K (.ref C) "__getattribute__" = some (some (.builtin "BaseException.__getattribute__"))) (gg : PySem.W.findIn K (.ref C) "__getattr__" = some none)
    (no : ∀ n ∈ ns, PySem.W.findIn K (.ref C) n = some none) (iC : PySem.W.findIn K (.ref C) "__init__" = some (some (.ref f))) (tI : PySem.W.typeIn K (.ref f) = some (.type "function"))
    (l : K.lookup f = some ⟨oc, od, .func (PySem.W.fnOf "__init__" qn (defArgs st) (defBody st) (defScope st) .none kV doc pm an cdv ct), osl⟩) (c : PySem.W.codeIn K cdv qn = true) (k : PySem.W.keepIn K (.ref f) = true)
    (kC : PySem.W.keepIn K (.ref C) = true) (eC : PySem.W.subIn K (.ref C) (.type "BaseException") = some true) (tC : PySem.W.typeIn K (.ref C) = some (.type "type")) (hC : PySem.W.hasDictIn K C = true) (cC : PySem.W.isClsIn K C = true) (sC : PySem.W.subIn K (.ref C) (.ref C) = some true)
    (hb : ∀ (kV doc pm : Value) (an : Option Addr) (cdv ct : Value) (us : List Value), us.length = ps.length → bindArgs (PySem.W.fnOf "__init__" qn (defArgs st) (defBody st) (defScope st) .none kV doc pm an cdv ct) ⟨us, []⟩ = pure (ps.zip us)) : ExcD K mg x qn st ns ps :=
  ⟨C, f, PySem.W.fnOf "__init__" qn (defArgs st) (defBody st) (defScope st) .none kV doc pm an cdv ct, ⟨⟨nm, q, N, bs, bm, sn, sub, ab, col, dd, m0, m1, m2, m3, m5, xL, hbm⟩, sa, eC, tC, kC⟩, ⟨ga, gg, eC, hC⟩, no, PySem.W.mg_of X G aC, em_self eC cC tC sC, fun_mk l c k, iC, tI, (fun_mk l c k).binds hb⟩
theorem law_k (T : Txt K mg) (base : Heap) : FnG P w K mg base 7 T.d_law.f T.d_law.fd ["script"] F_true := by
  have hkind := ok_kind_of (P := P) (w := w) (base := base) T
  have hone := ok_are_one (P := P) (w := w) (base := base) T
  have hhead := ok_head (P := P) (w := w) (base := base) T
  have hjoin := ok_join T hhead
  have hroad := ok_road_to (P := P) (w := w) (base := base) T
  have hpart := (ok_parting_road T hjoin hone hroad hkind).spec (fun ds C wf _ _ => part_cuts ds C wf)
  have halike := ok_alike T hpart
  have hva := ok_value_at T hkind
  have hbegun := ok__law_begun (P := P) (w := w) (base := base) T
  have hdraw := ok__law_draw (P := P) (w := w) (base := base) T
  have hof := ok__law_of T hdraw
  have hvalue := ok__law_value T hof hdraw
  have hstore := ok__law_store T hdraw hvalue hof
  have hrings := ok__law_rings T hdraw hof
  have hlkind := ok__law_kind (P := P) (w := w) (base := base) T
  have hleast := (ok__law_least T hlkind).spec (fun ds C wf _ _ => least_cuts ds C wf)
  have hla := ok__law_at T hlkind
  have htold := ok__law_told_at T hva
  have hled := ok__law_led (P := P) (w := w) (base := base) T
  have hmoved := ok__law_moved T hled hdraw
  have hright := ok__law_right T htold hla hdraw halike hpart hmoved hleast
  exact (ok_law T hpart hright hrings hdraw hvalue hstore hbegun).spec (fun ds C _ _ _ => true_cuts _ ds C)

end
theorem all_mk {P : Program} {w : World} {K : PySem.W.Frag} {h : Heap} {mg : Str → Option Value} {fa f0 f1 f2 f3 f4 f5 f6 f7 f8 f9 f10 f11 f12 f13 f14 f15 f16 f17 f18 f19 f20 f21 : Addr} (X : K.In h) (G : h.Ns mainGlobals mg) (hfa : mg "law" = some (.ref fa))
    {od0 an0 od1 an1 od2 an2 od3 an3 od4 an4 od5 an5 od6 an6 od7 an7 od8 an8 od9 an9 od10 an10 od11 an11 od12 an12 od13 an13 od14 an14 od15 an15 od16 an16 od17 an17 od18 an18 od19 an19 od20 an20 od21 an21 : Option Addr} {sl0 sl1 sl2 sl3 sl4 sl5 sl6 sl7 sl8 sl9 sl10 sl11 sl12 sl13 sl14 sl15 sl16 sl17 sl18 sl19 sl20 sl21 : Array (Option Value)} {oc0 kV0 dc0 pm0 cd0 ct0 oc1 kV1 dc1 pm1 cd1 ct1 oc2 kV2 dc2 pm2 cd2 ct2 oc3 kV3 dc3 pm3 cd3 ct3 oc4 kV4 dc4 pm4 cd4 ct4 oc5 kV5 dc5 pm5 cd5 ct5 oc6 kV6 dc6 pm6 cd6 ct6 oc7 kV7 dc7 pm7 cd7 ct7 oc8 kV8 dc8 pm8 cd8 ct8 oc9 kV9 dc9 pm9 cd9 ct9 oc10 kV10 dc10 pm10 cd10 ct10 oc11 kV11 dc11 pm11 cd11 ct11 oc12 kV12 dc12 pm12 cd12 ct12 oc13 kV13 dc13 pm13 cd13 ct13 oc14 kV14 dc14 pm14 cd14 ct14 oc15 kV15 dc15 pm15 cd15 ct15 oc16 kV16 dc16 pm16 cd16 ct16 oc17 kV17 dc17 pm17 cd17 ct17 oc18 kV18 dc18 pm18 cd18 ct18 oc19 kV19 dc19 pm19 cd19 ct19 oc20 kV20 dc20 pm20 cd20 ct20 oc21 kV21 dc21 pm21 cd21 ct21 : Value} {CX0 fX0 NX0 : Addr} {nmX0 qX0 : Str} {bsX0 bmX0 : List Value} {snX0 : List Str} {subX0 : List Value} {abX0 : Bool} {colX0 : Option Bool} {ddX0 : Option Addr} {mX00 mX10 mX20 mX30 mX50 : Option Value} {ocX0 : Value} {odX0 anX0 : Option Addr} {oslX0 : Array (Option Value)} {kVX0 docX0 pmX0 cdvX0 ctX0 : Value}
    (a0 : PySem.W.nsIn K mainGlobals "kind_of" = some (some (.ref f0))) (l0 : K.lookup f0 = some ⟨oc0, od0, .func (PySem.W.fnOf "kind_of" "kind_of" (defArgs s_kind_of) (defBody s_kind_of) (defScope s_kind_of) .none kV0 dc0 pm0 an0 cd0 ct0), sl0⟩) (c0 : PySem.W.codeIn K cd0 "kind_of" = true) (k0 : PySem.W.keepIn K (.ref f0) = true)
    (a1 : PySem.W.nsIn K mainGlobals "are_one" = some (some (.ref f1))) (l1 : K.lookup f1 = some ⟨oc1, od1, .func (PySem.W.fnOf "are_one" "are_one" (defArgs s_are_one) (defBody s_are_one) (defScope s_are_one) .none kV1 dc1 pm1 an1 cd1 ct1), sl1⟩) (c1 : PySem.W.codeIn K cd1 "are_one" = true) (k1 : PySem.W.keepIn K (.ref f1) = true)
    (a2 : PySem.W.nsIn K mainGlobals "head" = some (some (.ref f2))) (l2 : K.lookup f2 = some ⟨oc2, od2, .func (PySem.W.fnOf "head" "head" (defArgs s_head) (defBody s_head) (defScope s_head) .none kV2 dc2 pm2 an2 cd2 ct2), sl2⟩) (c2 : PySem.W.codeIn K cd2 "head" = true) (k2 : PySem.W.keepIn K (.ref f2) = true)
    (a3 : PySem.W.nsIn K mainGlobals "join" = some (some (.ref f3))) (l3 : K.lookup f3 = some ⟨oc3, od3, .func (PySem.W.fnOf "join" "join" (defArgs s_join) (defBody s_join) (defScope s_join) .none kV3 dc3 pm3 an3 cd3 ct3), sl3⟩) (c3 : PySem.W.codeIn K cd3 "join" = true) (k3 : PySem.W.keepIn K (.ref f3) = true)
    (a4 : PySem.W.nsIn K mainGlobals "road_to" = some (some (.ref f4))) (l4 : K.lookup f4 = some ⟨oc4, od4, .func (PySem.W.fnOf "road_to" "road_to" (defArgs s_road_to) (defBody s_road_to) (defScope s_road_to) .none kV4 dc4 pm4 an4 cd4 ct4), sl4⟩) (c4 : PySem.W.codeIn K cd4 "road_to" = true) (k4 : PySem.W.keepIn K (.ref f4) = true)
    (a5 : PySem.W.nsIn K mainGlobals "parting_road" = some (some (.ref f5))) (l5 : K.lookup f5 = some ⟨oc5, od5, .func (PySem.W.fnOf "parting_road" "parting_road" (defArgs s_parting_road) (defBody s_parting_road) (defScope s_parting_road) .none kV5 dc5 pm5 an5 cd5 ct5), sl5⟩) (c5 : PySem.W.codeIn K cd5 "parting_road" = true) (k5 : PySem.W.keepIn K (.ref f5) = true)
    (a6 : PySem.W.nsIn K mainGlobals "alike" = some (some (.ref f6))) (l6 : K.lookup f6 = some ⟨oc6, od6, .func (PySem.W.fnOf "alike" "alike" (defArgs s_alike) (defBody s_alike) (defScope s_alike) .none kV6 dc6 pm6 an6 cd6 ct6), sl6⟩) (c6 : PySem.W.codeIn K cd6 "alike" = true) (k6 : PySem.W.keepIn K (.ref f6) = true)
    (a7 : PySem.W.nsIn K mainGlobals "value_at" = some (some (.ref f7))) (l7 : K.lookup f7 = some ⟨oc7, od7, .func (PySem.W.fnOf "value_at" "value_at" (defArgs s_value_at) (defBody s_value_at) (defScope s_value_at) .none kV7 dc7 pm7 an7 cd7 ct7), sl7⟩) (c7 : PySem.W.codeIn K cd7 "value_at" = true) (k7 : PySem.W.keepIn K (.ref f7) = true)
    (a8 : PySem.W.nsIn K mainGlobals "_law_begun" = some (some (.ref f8))) (l8 : K.lookup f8 = some ⟨oc8, od8, .func (PySem.W.fnOf "_law_begun" "_law_begun" (defArgs s__law_begun) (defBody s__law_begun) (defScope s__law_begun) .none kV8 dc8 pm8 an8 cd8 ct8), sl8⟩) (c8 : PySem.W.codeIn K cd8 "_law_begun" = true) (k8 : PySem.W.keepIn K (.ref f8) = true)
    (a9 : PySem.W.nsIn K mainGlobals "_law_draw" = some (some (.ref f9))) (l9 : K.lookup f9 = some ⟨oc9, od9, .func (PySem.W.fnOf "_law_draw" "_law_draw" (defArgs s__law_draw) (defBody s__law_draw) (defScope s__law_draw) .none kV9 dc9 pm9 an9 cd9 ct9), sl9⟩) (c9 : PySem.W.codeIn K cd9 "_law_draw" = true) (k9 : PySem.W.keepIn K (.ref f9) = true)
    (a10 : PySem.W.nsIn K mainGlobals "_law_of" = some (some (.ref f10))) (l10 : K.lookup f10 = some ⟨oc10, od10, .func (PySem.W.fnOf "_law_of" "_law_of" (defArgs s__law_of) (defBody s__law_of) (defScope s__law_of) .none kV10 dc10 pm10 an10 cd10 ct10), sl10⟩) (c10 : PySem.W.codeIn K cd10 "_law_of" = true) (k10 : PySem.W.keepIn K (.ref f10) = true)
    (a11 : PySem.W.nsIn K mainGlobals "_law_value" = some (some (.ref f11))) (l11 : K.lookup f11 = some ⟨oc11, od11, .func (PySem.W.fnOf "_law_value" "_law_value" (defArgs s__law_value) (defBody s__law_value) (defScope s__law_value) .none kV11 dc11 pm11 an11 cd11 ct11), sl11⟩) (c11 : PySem.W.codeIn K cd11 "_law_value" = true) (k11 : PySem.W.keepIn K (.ref f11) = true)
    (a12 : PySem.W.nsIn K mainGlobals "_law_store" = some (some (.ref f12))) (l12 : K.lookup f12 = some ⟨oc12, od12, .func (PySem.W.fnOf "_law_store" "_law_store" (defArgs s__law_store) (defBody s__law_store) (defScope s__law_store) .none kV12 dc12 pm12 an12 cd12 ct12), sl12⟩) (c12 : PySem.W.codeIn K cd12 "_law_store" = true) (k12 : PySem.W.keepIn K (.ref f12) = true)
    (a13 : PySem.W.nsIn K mainGlobals "_law_rings" = some (some (.ref f13))) (l13 : K.lookup f13 = some ⟨oc13, od13, .func (PySem.W.fnOf "_law_rings" "_law_rings" (defArgs s__law_rings) (defBody s__law_rings) (defScope s__law_rings) .none kV13 dc13 pm13 an13 cd13 ct13), sl13⟩) (c13 : PySem.W.codeIn K cd13 "_law_rings" = true) (k13 : PySem.W.keepIn K (.ref f13) = true)
    (a14 : PySem.W.nsIn K mainGlobals "_law_kind" = some (some (.ref f14))) (l14 : K.lookup f14 = some ⟨oc14, od14, .func (PySem.W.fnOf "_law_kind" "_law_kind" (defArgs s__law_kind) (defBody s__law_kind) (defScope s__law_kind) .none kV14 dc14 pm14 an14 cd14 ct14), sl14⟩) (c14 : PySem.W.codeIn K cd14 "_law_kind" = true) (k14 : PySem.W.keepIn K (.ref f14) = true)
    (a15 : PySem.W.nsIn K mainGlobals "_law_least" = some (some (.ref f15))) (l15 : K.lookup f15 = some ⟨oc15, od15, .func (PySem.W.fnOf "_law_least" "_law_least" (defArgs s__law_least) (defBody s__law_least) (defScope s__law_least) .none kV15 dc15 pm15 an15 cd15 ct15), sl15⟩) (c15 : PySem.W.codeIn K cd15 "_law_least" = true) (k15 : PySem.W.keepIn K (.ref f15) = true)
    (a16 : PySem.W.nsIn K mainGlobals "_law_at" = some (some (.ref f16))) (l16 : K.lookup f16 = some ⟨oc16, od16, .func (PySem.W.fnOf "_law_at" "_law_at" (defArgs s__law_at) (defBody s__law_at) (defScope s__law_at) .none kV16 dc16 pm16 an16 cd16 ct16), sl16⟩) (c16 : PySem.W.codeIn K cd16 "_law_at" = true) (k16 : PySem.W.keepIn K (.ref f16) = true)
    (a17 : PySem.W.nsIn K mainGlobals "_law_told_at" = some (some (.ref f17))) (l17 : K.lookup f17 = some ⟨oc17, od17, .func (PySem.W.fnOf "_law_told_at" "_law_told_at" (defArgs s__law_told_at) (defBody s__law_told_at) (defScope s__law_told_at) .none kV17 dc17 pm17 an17 cd17 ct17), sl17⟩) (c17 : PySem.W.codeIn K cd17 "_law_told_at" = true) (k17 : PySem.W.keepIn K (.ref f17) = true)
    (a18 : PySem.W.nsIn K mainGlobals "_law_moved" = some (some (.ref f18))) (l18 : K.lookup f18 = some ⟨oc18, od18, .func (PySem.W.fnOf "_law_moved" "_law_moved" (defArgs s__law_moved) (defBody s__law_moved) (defScope s__law_moved) .none kV18 dc18 pm18 an18 cd18 ct18), sl18⟩) (c18 : PySem.W.codeIn K cd18 "_law_moved" = true) (k18 : PySem.W.keepIn K (.ref f18) = true)
    (a19 : PySem.W.nsIn K mainGlobals "_law_led" = some (some (.ref f19))) (l19 : K.lookup f19 = some ⟨oc19, od19, .func (PySem.W.fnOf "_law_led" "_law_led" (defArgs s__law_led) (defBody s__law_led) (defScope s__law_led) .none kV19 dc19 pm19 an19 cd19 ct19), sl19⟩) (c19 : PySem.W.codeIn K cd19 "_law_led" = true) (k19 : PySem.W.keepIn K (.ref f19) = true)
    (a20 : PySem.W.nsIn K mainGlobals "_law_right" = some (some (.ref f20))) (l20 : K.lookup f20 = some ⟨oc20, od20, .func (PySem.W.fnOf "_law_right" "_law_right" (defArgs s__law_right) (defBody s__law_right) (defScope s__law_right) .none kV20 dc20 pm20 an20 cd20 ct20), sl20⟩) (c20 : PySem.W.codeIn K cd20 "_law_right" = true) (k20 : PySem.W.keepIn K (.ref f20) = true)
    (a21 : PySem.W.nsIn K mainGlobals "law" = some (some (.ref f21))) (l21 : K.lookup f21 = some ⟨oc21, od21, .func (PySem.W.fnOf "law" "law" (defArgs s_law) (defBody s_law) (defScope s_law) .none kV21 dc21 pm21 an21 cd21 ct21), sl21⟩) (c21 : PySem.W.codeIn K cd21 "law" = true) (k21 : PySem.W.keepIn K (.ref f21) = true)
    (xa0 : PySem.W.nsIn K mainGlobals "NoRoad" = some (some (.ref CX0)))
    (xl0 : K.lookup CX0 = some (PySem.excClassObj nmX0 qX0 CX0 NX0 bsX0 bmX0 true snX0 subX0 abX0 colX0 ddX0 mX00 mX10 mX20 mX30 mX50 "ValueError.__new__"))
    (xb0 : PySem.HandSPX.refsVE bmX0 = true)
    (xs0 : PySem.W.findIn K (.ref CX0) "__setattr__" = some (some (.builtin "object.__setattr__")))
    (xg0 : PySem.W.findIn K (.ref CX0) "__getattribute__" = some (some (.builtin "BaseException.__getattribute__")))
    (xh0 : PySem.W.findIn K (.ref CX0) "__getattr__" = some none)
    (xn0_0 : PySem.W.findIn K (.ref CX0) "number" = some none)
    (xi0 : PySem.W.findIn K (.ref CX0) "__init__" = some (some (.ref fX0)))
    (xt0 : PySem.W.typeIn K (.ref fX0) = some (.type "function"))
    (xf0 : K.lookup fX0 = some ⟨ocX0, odX0, .func (PySem.W.fnOf "__init__" "NoRoad.__init__" (defArgs s_init_NoRoad) (defBody s_init_NoRoad) (defScope s_init_NoRoad) .none kVX0 docX0 pmX0 anX0 cdvX0 ctX0), oslX0⟩)
    (xc0 : PySem.W.codeIn K cdvX0 "NoRoad.__init__" = true)
    (xk0 : PySem.W.keepIn K (.ref fX0) = true)
    (xK0 : PySem.W.keepIn K (.ref CX0) = true)
    (xe0 : PySem.W.subIn K (.ref CX0) (.type "BaseException") = some true)
    (xy0 : PySem.W.typeIn K (.ref CX0) = some (.type "type"))
    (xd0 : PySem.W.hasDictIn K CX0 = true)
    (xz0 : PySem.W.isClsIn K CX0 = true)
    (xw0 : PySem.W.subIn K (.ref CX0) (.ref CX0) = some true)
    (z0 : PySem.W.nsIn K mainGlobals "bool" = some none)
    (z1 : PySem.W.nsIn K mainGlobals "enumerate" = some none)
    (z2 : PySem.W.nsIn K mainGlobals "int" = some none)
    (z3 : PySem.W.nsIn K mainGlobals "isinstance" = some none)
    (z4 : PySem.W.nsIn K mainGlobals "len" = some none)
    (z5 : PySem.W.nsIn K mainGlobals "list" = some none)
    (z6 : PySem.W.nsIn K mainGlobals "range" = some none)
    (z7 : PySem.W.nsIn K mainGlobals "repr" = some none)
    (z8 : PySem.W.nsIn K mainGlobals "tuple" = some none) :
    ∃ fd : FuncData, (∀ (s : Shared) (u : Value), BindsTo s fd ⟨[u], []⟩ [("script", u)]) ∧ ∀ base : Heap, K.In base → base.Ns mainGlobals mg → FnG P w K mg base 7 fa fd ["script"] F_true := by
  have e := hfa.symm.trans (PySem.W.mg_of X G a21)
  cases e
  let T : Txt K mg := ⟨Def1.of (st := s_kind_of) X G a0 l0 c0 k0 (fun _ _ _ _ _ _ us hl => match us, hl with | [_, _], _ => rfl),
    Def1.of (st := s_are_one) X G a1 l1 c1 k1 (fun _ _ _ _ _ _ us hl => match us, hl with | [_, _], _ => rfl),
    Def1.of (st := s_head) X G a2 l2 c2 k2 (fun _ _ _ _ _ _ us hl => match us, hl with | [_, _], _ => rfl),
    Def1.of (st := s_join) X G a3 l3 c3 k3 (fun _ _ _ _ _ _ us hl => match us, hl with | [_, _, _], _ => rfl),
    Def1.of (st := s_road_to) X G a4 l4 c4 k4 (fun _ _ _ _ _ _ us hl => match us, hl with | [_, _], _ => rfl),
    Def1.of (st := s_parting_road) X G a5 l5 c5 k5 (fun _ _ _ _ _ _ us hl => match us, hl with | [_, _, _], _ => rfl),
    Def1.of (st := s_alike) X G a6 l6 c6 k6 (fun _ _ _ _ _ _ us hl => match us, hl with | [_, _, _], _ => rfl),
    Def1.of (st := s_value_at) X G a7 l7 c7 k7 (fun _ _ _ _ _ _ us hl => match us, hl with | [_, _, _], _ => rfl),
    Def1.of (st := s__law_begun) X G a8 l8 c8 k8 (fun _ _ _ _ _ _ us hl => match us, hl with | [_, _], _ => rfl),
    Def1.of (st := s__law_draw) X G a9 l9 c9 k9 (fun _ _ _ _ _ _ us hl => match us, hl with | [_, _], _ => rfl),
    Def1.of (st := s__law_of) X G a10 l10 c10 k10 (fun _ _ _ _ _ _ us hl => match us, hl with | [_, _], _ => rfl),
    Def1.of (st := s__law_value) X G a11 l11 c11 k11 (fun _ _ _ _ _ _ us hl => match us, hl with | [_, _], _ => rfl),
    Def1.of (st := s__law_store) X G a12 l12 c12 k12 (fun _ _ _ _ _ _ us hl => match us, hl with | [_, _], _ => rfl),
    Def1.of (st := s__law_rings) X G a13 l13 c13 k13 (fun _ _ _ _ _ _ us hl => match us, hl with | [_], _ => rfl),
    Def1.of (st := s__law_kind) X G a14 l14 c14 k14 (fun _ _ _ _ _ _ us hl => match us, hl with | [_, _], _ => rfl),
    Def1.of (st := s__law_least) X G a15 l15 c15 k15 (fun _ _ _ _ _ _ us hl => match us, hl with | [_, _, _], _ => rfl),
    Def1.of (st := s__law_at) X G a16 l16 c16 k16 (fun _ _ _ _ _ _ us hl => match us, hl with | [_, _, _], _ => rfl),
    Def1.of (st := s__law_told_at) X G a17 l17 c17 k17 (fun _ _ _ _ _ _ us hl => match us, hl with | [_, _, _], _ => rfl),
    Def1.of (st := s__law_moved) X G a18 l18 c18 k18 (fun _ _ _ _ _ _ us hl => match us, hl with | [_, _, _], _ => rfl),
    Def1.of (st := s__law_led) X G a19 l19 c19 k19 (fun _ _ _ _ _ _ us hl => match us, hl with | [_, _], _ => rfl),
    Def1.of (st := s__law_right) X G a20 l20 c20 k20 (fun _ _ _ _ _ _ us hl => match us, hl with | [_, _, _, _], _ => rfl),
    Def1.of (st := s_law) X G a21 l21 c21 k21 (fun _ _ _ _ _ _ us hl => match us, hl with | [_], _ => rfl),
    ExcD.of (st := s_init_NoRoad) X G xa0 xl0 xb0 xs0 xg0 xh0 (fun n hn => by rw [List.mem_singleton.mp hn]; exact xn0_0) xi0 xt0 xf0 xc0 xk0 xK0 xe0 xy0 xd0 xz0 xw0 (fun _ _ _ _ _ _ us hl => match us, hl with | [_, _], _ => rfl),
    PySem.W.mg_none_of X G z0,
    PySem.W.mg_none_of X G z1,
    PySem.W.mg_none_of X G z2,
    PySem.W.mg_none_of X G z3,
    PySem.W.mg_none_of X G z4,
    PySem.W.mg_none_of X G z5,
    PySem.W.mg_none_of X G z6,
    PySem.W.mg_none_of X G z7,
    PySem.W.mg_none_of X G z8⟩
  exact ⟨T.d_law.fd, fun s v => .of_eq rfl, fun base _ _ => law_k T base⟩
end Lw
open PySem PySem.W PyProof.Rows in
set_option maxRecDepth 100000 in
set_option maxHeartbeats 0 in
theorem PySem.Challenge.cw_keptrest_k22_whole_least_roads_holds : PySem.Challenge.rw_keptrest_k22_whole_least_roads.Holds := by
  w_on; o_law; k_head; (case hw => w_witness2)
  k_fill
  refine Cl.walkG (l := PySem.Challenge.rw_keptrest_k22_whole_least_roads) (n := 63) (k := 7) (x := "script") rfl (by decide) rfl ⟨rfl, by decide, by decide⟩ (fun w h Y => PySem.W.kIn_of Y) ?F (fun ns hl hb => Lw.true_ok ns hl)
  case F =>
    intro w mg fa h KX G hmg
    refine' Lw.all_mk KX G hmg ?a0 ?l0 ?c0 ?k0 ?a1 ?l1 ?c1 ?k1 ?a2 ?l2 ?c2 ?k2 ?a3 ?l3 ?c3 ?k3 ?a4 ?l4 ?c4 ?k4 ?a5 ?l5 ?c5 ?k5 ?a6 ?l6 ?c6 ?k6 ?a7 ?l7 ?c7 ?k7 ?a8 ?l8 ?c8 ?k8 ?a9 ?l9 ?c9 ?k9 ?a10 ?l10 ?c10 ?k10 ?a11 ?l11 ?c11 ?k11 ?a12 ?l12 ?c12 ?k12 ?a13 ?l13 ?c13 ?k13 ?a14 ?l14 ?c14 ?k14 ?a15 ?l15 ?c15 ?k15 ?a16 ?l16 ?c16 ?k16 ?a17 ?l17 ?c17 ?k17 ?a18 ?l18 ?c18 ?k18 ?a19 ?l19 ?c19 ?k19 ?a20 ?l20 ?c20 ?k20 ?a21 ?l21 ?c21 ?k21 ?xa0 ?xl0 ?xb0 ?xs0 ?xg0 ?xh0 ?xn0_0 ?xi0 ?xt0 ?xf0 ?xc0 ?xk0 ?xK0 ?xe0 ?xy0 ?xd0 ?xz0 ?xw0 ?z0 ?z1 ?z2 ?z3 ?z4 ?z5 ?z6 ?z7 ?z8
    (case a0 => k_is)
    (case l0 => k_is)
    (case c0 => k_is)
    (case k0 => k_is)
    (case a1 => k_is)
    (case l1 => k_is)
    (case c1 => k_is)
    (case k1 => k_is)
    (case a2 => k_is)
    (case l2 => k_is)
    (case c2 => k_is)
    (case k2 => k_is)
    (case a3 => k_is)
    (case l3 => k_is)
    (case c3 => k_is)
    (case k3 => k_is)
    (case a4 => k_is)
    (case l4 => k_is)
    (case c4 => k_is)
    (case k4 => k_is)
    (case a5 => k_is)
    (case l5 => k_is)
    (case c5 => k_is)
    (case k5 => k_is)
    (case a6 => k_is)
    (case l6 => k_is)
    (case c6 => k_is)
    (case k6 => k_is)
    (case a7 => k_is)
    (case l7 => k_is)
    (case c7 => k_is)
    (case k7 => k_is)
    (case a8 => k_is)
    (case l8 => k_is)
    (case c8 => k_is)
    (case k8 => k_is)
    (case a9 => k_is)
    (case l9 => k_is)
    (case c9 => k_is)
    (case k9 => k_is)
    (case a10 => k_is)
    (case l10 => k_is)
    (case c10 => k_is)
    (case k10 => k_is)
    (case a11 => k_is)
    (case l11 => k_is)
    (case c11 => k_is)
    (case k11 => k_is)
    (case a12 => k_is)
    (case l12 => k_is)
    (case c12 => k_is)
    (case k12 => k_is)
    (case a13 => k_is)
    (case l13 => k_is)
    (case c13 => k_is)
    (case k13 => k_is)
    (case a14 => k_is)
    (case l14 => k_is)
    (case c14 => k_is)
    (case k14 => k_is)
    (case a15 => k_is)
    (case l15 => k_is)
    (case c15 => k_is)
    (case k15 => k_is)
    (case a16 => k_is)
    (case l16 => k_is)
    (case c16 => k_is)
    (case k16 => k_is)
    (case a17 => k_is)
    (case l17 => k_is)
    (case c17 => k_is)
    (case k17 => k_is)
    (case a18 => k_is)
    (case l18 => k_is)
    (case c18 => k_is)
    (case k18 => k_is)
    (case a19 => k_is)
    (case l19 => k_is)
    (case c19 => k_is)
    (case k19 => k_is)
    (case a20 => k_is)
    (case l20 => k_is)
    (case c20 => k_is)
    (case k20 => k_is)
    (case a21 => k_is)
    (case l21 => k_is)
    (case c21 => k_is)
    (case k21 => k_is)
    (case xa0 => k_is)
    (case xl0 => k_is)
    (case xb0 => first | rfl | decide +kernel | k_is)
    (case xs0 => k_is)
    (case xg0 => k_is)
    (case xh0 => k_is)
    (case xn0_0 => k_is)
    (case xi0 => k_is)
    (case xt0 => k_is)
    (case xf0 => k_is)
    (case xc0 => k_is)
    (case xk0 => k_is)
    (case xK0 => k_is)
    (case xe0 => k_is)
    (case xy0 => k_is)
    (case xd0 => k_is)
    (case xz0 => k_is)
    (case xw0 => first | rfl | decide +kernel | k_is)
    (case z0 => k_is)
    (case z1 => k_is)
    (case z2 => k_is)
    (case z3 => k_is)
    (case z4 => k_is)
    (case z5 => k_is)
    (case z6 => k_is)
    (case z7 => k_is)
    (case z8 => k_is)
