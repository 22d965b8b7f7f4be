import PyProof.Rows.All
import Wide.All
import OpenK.AllK
import Wide.FinOn
import HandS.ForMost
import HandS.ForExc
import HandS.IsInst
import HandS.Flow
import HandS.TupLe
import HandS.TupAny
import HandS.WideBits
import HandS.Wide
import HandS.Style
import KE.DataEq
import HandS.ExcIs
import HandS.EndBits
import KE.KExcIs
import PyProof.Draws
import PyProof.EnumMake
import HandS.Zip
import HandS.Text
import HandS.Conv
import HandS.Replace
import KE.DatumIndex
import PyProof.ReprRoads
import HandS.Defaults
import HandS.TryOnly
import PyProof.ListStr
import PySem.Challenge.RW_sealedreach_k08_rooms_and_greatest_highs
set_option Elab.async false
set_option linter.all false
set_option maxRecDepth 100000
set_option maxHeartbeats 4000000
namespace Ev
open PySem PySem.Spec PyProof.Rows L2

/-! ### values, stores, results -/
inductive D where
  | non
  | bl (b : Bool)
  | int (i : Int)
  | str (x : Str)
  | tup (xs : List D)
  | lst (xs : List D)
  | dct (ks : List Key) (xs : List D)
  | loc (n : Nat)
  | exn (c : Nat) (ns : List Str) (xs : List D)
  deriving Inhabited
inductive MO where
  | lst (xs : List D)
  | dK (ks : List Key) (xs : List D)
  | ins (c : Nat) (ns : List Str) (xs : List D)
abbrev Store := List MO
abbrev Env := List (Option D)
structure Exn where
  c : Nat
  ns : List Str
  xs : List D
inductive Res (A : Type) where
  | ok (a : A) (S : Store)
  | err (x : Exn) (S : Store)
  | bad
def Res.bind {A B : Type} : Res A → (A → Store → Res B) → Res B
  | .ok a S, f => f a S
  | .err x S, _ => .err x S
  | .bad, _ => .bad
def ofO {A : Type} : Option A → Store → Res A
  | some a, S => .ok a S
  | none, _ => .bad

/-! ### what a value stands for -/
/-- where the store objects stand; what else is kept aside (a list that a comprehension fills) -/
structure Io where
  l : List Addr
  h : List (Addr × HO)
def Io.all (io : Io) : List Addr := io.l ++ io.h.map (·.1)
/-- the part of the heap that no store object stands in -/
def Fz (io : Io) (H : Hp) : Hp := fun a => if a ∈ io.all then none else H a
theorem Fz_out {io : Io} {H : Hp} {a : Addr} (h : a ∉ io.all) : Fz io H a = H a := by unfold Fz; rw [if_neg h]
theorem Fz_in {io : Io} {H : Hp} {a : Addr} (h : a ∈ io.all) : Fz io H a = none := by unfold Fz; rw [if_pos h]
theorem Fz_same (io : Io) (H : Hp) : Same (Fz io H) H := fun b o e => by
  unfold Fz at e
  split at e
  · cases e
  · exact e
theorem sqT_same {K : PySem.W.Frag} {H H' : Hp} {a : Addr} {xs : List V} (e : Same H H') (h : SqT K H a xs) : SqT K H' a xs := by
  rcases h with (h | ⟨o, h⟩) | h
  · exact .inl (.inl (e _ _ h))
  · exact .inl (.inr ⟨o, e _ _ h⟩)
  · exact .inr h

/-- an exception that was caught: its class, its own dict -/
def exH (a : Addr) (cls : Value) (d : Option Addr) : HO := .ext fun h => ∃ oe vs, h.get? a = some oe ∧ oe.cls = cls ∧ oe.dict = d ∧ oe.data = .fields vs
variable (K : PySem.W.Frag) (C : Nat → Addr)
mutual
inductive Rep (io : Io) (F : Hp) : D → V → Prop
  | non : Rep io F .non .non
  | bl (b : Bool) : Rep io F (.bl b) (.bl b)
  | int (i : Int) : Rep io F (.int i) (.int i)
  | str (x : Str) : Rep io F (.str x) (.str x)
  | tup {a : Addr} {vs : List V} {ds : List D} : SqT K F a vs → Reps io F ds vs → Rep io F (.tup ds) (.ref a)
  | lst {a : Addr} {vs : List V} {ds : List D} : SqL K F a vs → Reps io F ds vs → Rep io F (.lst ds) (.ref a)
  | dct {a : Addr} {kvs : List (Key × V)} {ks : List Key} {vs : List V} {ds : List D} : F a = some (.dK kvs) → kvs.map (·.1) = ks → kvs.map (·.2) = vs → Reps io F ds vs → Rep io F (.dct ks ds) (.ref a)
  | loc {n : Nat} {a : Addr} : io.l[n]? = some a → Rep io F (.loc n) (.ref a)
  | exn0 {c : Nat} {a : Addr} : F a = some (exH a (.ref (C c)) none) → Rep io F (.exn c [] []) (.ref a)
  | exnF {c : Nat} {a d : Addr} {fs : List (Str × V)} {ns : List Str} {vs : List V} {ds : List D} : F a = some (exH a (.ref (C c)) (some d)) → F d = some (.xd fs) → fs.map (·.1) = ns → fs.map (·.2) = vs → Reps io F ds vs → Rep io F (.exn c ns ds) (.ref a)
inductive Reps (io : Io) (F : Hp) : List D → List V → Prop
  | nil : Reps io F [] []
  | cons {d : D} {ds : List D} {v : V} {vs : List V} : Rep io F d v → Reps io F ds vs → Reps io F (d :: ds) (v :: vs)
end
variable {K C}
/-- the world goes on: more store objects, more that stands still -/
structure Ext (io : Io) (H : Hp) (io' : Io) (H' : Hp) : Prop where
  pre : ∀ (n : Nat) (a : Addr), io.l[n]? = some a → io'.l[n]? = some a
  hid : io'.h = io.h
  same : Same (Fz io H) (Fz io' H')
theorem Ext.refl (io : Io) (H : Hp) : Ext io H io H := ⟨fun _ _ h => h, rfl, fun _ _ h => h⟩
theorem Ext.trans {io io1 io2 : Io} {H H1 H2 : Hp} (a : Ext io H io1 H1) (b : Ext io1 H1 io2 H2) : Ext io H io2 H2 :=
  ⟨fun n x h => b.pre n x (a.pre n x h), b.hid.trans a.hid, a.same.trans b.same⟩
mutual
theorem Rep.mono {io io' : Io} {F F' : Hp} (hp : ∀ (n : Nat) (a : Addr), io.l[n]? = some a → io'.l[n]? = some a) (hs : Same F F') : ∀ {d : D} {v : V}, Rep K C io F d v → Rep K C io' F' d v
  | _, _, .non => .non
  | _, _, .bl b => .bl b
  | _, _, .int i => .int i
  | _, _, .str x => .str x
  | _, _, .tup h r => .tup (sqT_same hs h) (Reps.mono hp hs r)
  | _, _, .lst h r => .lst (hs.seq h) (Reps.mono hp hs r)
  | _, _, .dct h e1 e2 r => .dct (hs _ _ h) e1 e2 (Reps.mono hp hs r)
  | _, _, .loc h => .loc (hp _ _ h)
  | _, _, .exn0 h => .exn0 (hs _ _ h)
  | _, _, .exnF h h2 e1 e2 r => .exnF (hs _ _ h) (hs _ _ h2) e1 e2 (Reps.mono hp hs r)
theorem Reps.mono {io io' : Io} {F F' : Hp} (hp : ∀ (n : Nat) (a : Addr), io.l[n]? = some a → io'.l[n]? = some a) (hs : Same F F') : ∀ {ds : List D} {vs : List V}, Reps K C io F ds vs → Reps K C io' F' ds vs
  | _, _, .nil => .nil
  | _, _, .cons h r => .cons (Rep.mono hp hs h) (Reps.mono hp hs r)
end
theorem Rep.ext {io io' : Io} {H H' : Hp} (e : Ext io H io' H') {d : D} {v : V} (r : Rep K C io (Fz io H) d v) : Rep K C io' (Fz io' H') d v := r.mono e.pre e.same
theorem Reps.ext {io io' : Io} {H H' : Hp} (e : Ext io H io' H') {d : List D} {v : List V} (r : Reps K C io (Fz io H) d v) : Reps K C io' (Fz io' H') d v := r.mono e.pre e.same
theorem Reps.length {io : Io} {F : Hp} : ∀ {ds : List D} {vs : List V}, Reps K C io F ds vs → ds.length = vs.length
  | _, _, .nil => rfl
  | _, _, .cons _ r => by simp [Reps.length r]
theorem Reps.get {io : Io} {F : Hp} : ∀ {ds : List D} {vs : List V} {i : Nat} {d : D}, Reps K C io F ds vs → ds[i]? = some d → ∃ v, vs[i]? = some v ∧ Rep K C io F d v
  | _, _, 0, _, .cons h _, e => by simp at e; subst e; exact ⟨_, rfl, h⟩
  | _, _, i + 1, d, .cons _ r, e => by
    obtain ⟨v, h1, h2⟩ := Reps.get (i := i) (d := d) r (by simpa using e)
    exact ⟨v, by simpa using h1, h2⟩
theorem Reps.getV {io : Io} {F : Hp} : ∀ {ds : List D} {vs : List V} {i : Nat} {v : V}, Reps K C io F ds vs → vs[i]? = some v → ∃ d, ds[i]? = some d ∧ Rep K C io F d v
  | _, _, 0, _, .cons h _, e => by simp at e; subst e; exact ⟨_, rfl, h⟩
  | _, _, i + 1, d, .cons _ r, e => by
    obtain ⟨v, h1, h2⟩ := Reps.getV (i := i) (v := d) r (by simpa using e)
    exact ⟨v, by simpa using h1, h2⟩
theorem Reps.append {io : Io} {F : Hp} : ∀ {ds es : List D} {vs us : List V}, Reps K C io F ds vs → Reps K C io F es us → Reps K C io F (ds ++ es) (vs ++ us)
  | _, _, _, _, .nil, s => s
  | _, _, _, _, .cons h r, s => .cons h (Reps.append r s)
theorem Reps.set {io : Io} {F : Hp} {d : D} {v : V} (h : Rep K C io F d v) : ∀ {ds : List D} {vs : List V} (i : Nat), Reps K C io F ds vs → Reps K C io F (ds.set i d) (vs.set i v)
  | _, _, _, .nil => .nil
  | _, _, 0, .cons _ r => .cons h r
  | _, _, i + 1, .cons q r => .cons q (Reps.set h i r)
theorem Reps.take {io : Io} {F : Hp} : ∀ {ds : List D} {vs : List V} (n : Nat), Reps K C io F ds vs → Reps K C io F (ds.take n) (vs.take n)
  | _, _, 0, _ => .nil
  | _, _, _ + 1, .nil => .nil
  | _, _, n + 1, .cons h r => .cons h (Reps.take n r)
theorem Reps.drop {io : Io} {F : Hp} : ∀ {ds : List D} {vs : List V} (n : Nat), Reps K C io F ds vs → Reps K C io F (ds.drop n) (vs.drop n)
  | _, _, 0, r => r
  | _, _, _ + 1, .nil => .nil
  | _, _, n + 1, .cons _ r => Reps.drop n r

/-! ### the store -/
variable (K C) in
def ORep (io : Io) (H : Hp) (a : Addr) : MO → Prop
  | .lst ds => ∃ vs, H a = some (.lst vs) ∧ Reps K C io (Fz io H) ds vs
  | .dK ks ds => ∃ kvs, H a = some (.dK kvs) ∧ kvs.map (·.1) = ks ∧ Reps K C io (Fz io H) ds (kvs.map (·.2))
  | .ins c ns ds => ∃ dx fs, H a = some (.ins (C c) dx fs) ∧ H dx = some (.own a) ∧ fs.map (·.1) = ns ∧ Reps K C io (Fz io H) ds (fs.map (·.2))
/-- what a store object's thing is -/
def isMut : HO → Bool
  | .lst _ => true
  | .dK _ => true
  | .ins _ _ _ => true
  | _ => false
variable (K C) in
structure Den (io : Io) (S : Store) (H : Hp) : Prop where
  len : io.l.length = S.length
  nd : io.all.Nodup
  obj : ∀ (n : Nat) (o : MO) (a : Addr), S[n]? = some o → io.l[n]? = some a → ORep K C io H a o
  hid : ∀ p ∈ io.h, H p.1 = some p.2 ∧ isMut p.2 = true
theorem ORep.at {io : Io} {H : Hp} {a : Addr} {o : MO} (h : ORep K C io H a o) : ∃ u, H a = some u ∧ isMut u = true := by
  cases o with
  | lst ds => obtain ⟨vs, e, _⟩ := h; exact ⟨_, e, rfl⟩
  | dK ks ds => obtain ⟨vs, e, _⟩ := h; exact ⟨_, e, rfl⟩
  | ins c ns ds => obtain ⟨_, _, e, _⟩ := h; exact ⟨_, e, rfl⟩
theorem Den.at {io : Io} {S : Store} {H : Hp} (d : Den K C io S H) {a : Addr} (h : a ∈ io.all) : ∃ u, H a = some u ∧ isMut u = true := by
  rcases List.mem_append.mp h with h | h
  · obtain ⟨n, hn, e⟩ := List.getElem_of_mem h
    have hS : n < S.length := by rw [← d.len]; exact hn
    exact (d.obj n S[n] a (by simp [hS]) (by simp [hn, e])).at
  · obtain ⟨p, hp, rfl⟩ := List.mem_map.mp h
    exact ⟨p.2, d.hid p hp⟩
theorem Den.fresh {io : Io} {S : Store} {H : Hp} (d : Den K C io S H) {p : Addr} (h : H p = none) : p ∉ io.all := fun z => by
  obtain ⟨u, e, _⟩ := d.at z
  rw [h] at e; cases e
theorem Den.notOwn {io : Io} {S : Store} {H : Hp} (d : Den K C io S H) {p x : Addr} (h : H p = some (.own x)) : p ∉ io.all := fun z => by
  obtain ⟨u, e, m⟩ := d.at z
  rw [h] at e; cases e; cases m
theorem mem_all {io : Io} {n : Nat} {a : Addr} (h : io.l[n]? = some a) : a ∈ io.all := List.mem_append_left _ (List.mem_of_getElem? h)
/-- a new thing that stands still -/
theorem Fz_upd_new {io : Io} {H : Hp} {p : Addr} {o : HO} (hp : p ∉ io.all) : Fz io (upd H p o) = upd (Fz io H) p o := by
  funext b
  unfold Fz upd
  by_cases e : b = p
  · subst e; simp [hp]
  · simp [e]
theorem Fz_upd_old {io : Io} {H : Hp} {p : Addr} {o : HO} (hp : p ∈ io.all) : Fz io (upd H p o) = Fz io H := by
  funext b
  unfold Fz upd
  by_cases e : b = p
  · subst e; simp [hp]
  · simp [e]
/-- a further place -/
def Io.add (io : Io) (p : Addr) : Io := ⟨io.l ++ [p], io.h⟩
theorem mem_add {io : Io} {p b : Addr} : b ∈ (io.add p).all ↔ b = p ∨ b ∈ io.all := by
  unfold Io.add Io.all
  simp only [List.mem_append, List.mem_singleton]
  constructor
  · rintro ((h | h) | h)
    · exact .inr (.inl h)
    · exact .inl h
    · exact .inr (.inr h)
  · rintro (h | h | h)
    · exact .inl (.inr h)
    · exact .inl (.inl h)
    · exact .inr h
theorem Fz_upd_loc {io : Io} {H : Hp} {p : Addr} {o : HO} (hp : H p = none) : Fz (io.add p) (upd H p o) = Fz io H := by
  funext b
  unfold Fz upd
  simp only [mem_add]
  by_cases e : b = p
  · subst e; simp [hp]
  · simp [e]
theorem same_new {H : Hp} {p : Addr} {o : HO} (h : H p = none) : Same H (upd H p o) := fun b x e => by
  rw [upd_ne (ne_of_none e h)]; exact e
theorem Ext.new {io : Io} {S : Store} {H : Hp} {p : Addr} {o : HO} (d : Den K C io S H) (h : H p = none) : Ext io H io (upd H p o) :=
  ⟨fun _ _ e => e, rfl, by rw [Fz_upd_new (d.fresh h)]; exact same_new (by rw [Fz_out (d.fresh h)]; exact h)⟩
/-- an object that is left as it is -/
theorem ORep.mono {io io' : Io} {S : Store} {H H' : Hp} {a : Addr} {o : MO} (d : Den K C io S H) (e : Ext io H io' H') (ha : H' a = H a) (h : ORep K C io H a o) : ORep K C io' H' a o := by
  cases o with
  | lst ds => obtain ⟨vs, q, r⟩ := h; exact ⟨vs, by rw [ha]; exact q, r.ext e⟩
  | dK ks ds => obtain ⟨vs, q, q2, r⟩ := h; exact ⟨vs, by rw [ha]; exact q, q2, r.ext e⟩
  | ins c ns ds =>
    obtain ⟨dx, fs, q, q1, q2, r⟩ := h
    refine ⟨dx, fs, by rw [ha]; exact q, ?_, q2, r.ext e⟩
    exact Fz_same _ _ _ _ (e.same dx _ (by rw [Fz_out (d.notOwn q1)]; exact q1))
theorem hid_mem {io : Io} {p : Addr × HO} (h : p ∈ io.h) : p.1 ∈ io.all := List.mem_append_right _ (List.mem_map.mpr ⟨p, h, rfl⟩)
/-- a new frozen thing: the store is as it was -/
theorem Den.new {io : Io} {S : Store} {H : Hp} {p : Addr} {o : HO} (d : Den K C io S H) (h : H p = none) : Den K C io S (upd H p o) :=
  ⟨d.len, d.nd, fun n x a e1 e2 => by
    have e : a ≠ p := fun z => d.fresh h (z ▸ mem_all e2)
    exact (d.obj n x a e1 e2).mono d (Ext.new d h) (upd_ne e), fun q hq => by
    have e : q.1 ≠ p := fun z => d.fresh h (z ▸ hid_mem hq)
    rw [upd_ne e]; exact d.hid q hq⟩
/-- a new store object -/
theorem Ext.loc {io : Io} {H : Hp} {p : Addr} {o : HO} (h : H p = none) : Ext io H (io.add p) (upd H p o) :=
  ⟨fun n a e => by
    have := (List.getElem?_eq_some_iff.mp e).1
    show (io.l ++ [p])[n]? = some a
    rw [List.getElem?_append_left this]; exact e, rfl, by rw [Fz_upd_loc h]; exact fun _ _ e => e⟩
theorem nodup_add {io : Io} {p : Addr} (nd : io.all.Nodup) (h : p ∉ io.all) : (io.add p).all.Nodup := by
  unfold Io.add Io.all at *
  simp only [List.mem_append, not_or] at h
  rw [List.append_assoc]
  rw [List.nodup_append] at nd ⊢
  refine ⟨nd.1, ?_, fun a ha b hb => ?_⟩
  · rw [List.singleton_append, List.nodup_cons]
    exact ⟨h.2, nd.2.1⟩
  · rw [List.singleton_append, List.mem_cons] at hb
    rcases hb with rfl | hb
    · exact fun z => h.1 (z ▸ ha)
    · exact nd.2.2 a ha b hb
theorem Den.loc {io : Io} {S : Store} {H : Hp} {p : Addr} {o : HO} {m : MO} (d : Den K C io S H) (h : H p = none) (hm : ORep K C (io.add p) (upd H p o) p m) : Den K C (io.add p) (S ++ [m]) (upd H p o) := by
  refine ⟨by simp [Io.add, d.len], nodup_add d.nd (d.fresh h), fun n x a e1 e2 => ?_, fun q hq => ?_⟩
  · have e2' : (io.l ++ [p])[n]? = some a := e2
    by_cases hn : n < io.l.length
    · rw [List.getElem?_append_left hn] at e2'
      rw [List.getElem?_append_left (by rw [← d.len]; exact hn)] at e1
      have e : a ≠ p := fun z => d.fresh h (z ▸ mem_all e2')
      exact (d.obj n x a e1 e2').mono d (Ext.loc h) (upd_ne e)
    · have h1 : n = io.l.length := by
        have := (List.getElem?_eq_some_iff.mp e2').1
        simp at this; omega
      subst h1
      rw [List.getElem?_append_right (Nat.le_refl _)] at e2'
      rw [d.len, List.getElem?_append_right (Nat.le_refl _)] at e1
      simp at e1 e2'
      subst e1; subst e2'
      exact hm
  · have hq' : q ∈ io.h := hq
    have e : q.1 ≠ p := fun z => d.fresh h (z ▸ hid_mem hq')
    rw [upd_ne e]; exact d.hid q hq'
/-- a store object is changed -/
theorem Ext.put {io : Io} {H : Hp} {p : Addr} {o : HO} (h : p ∈ io.all) : Ext io H io (upd H p o) :=
  ⟨fun _ _ e => e, rfl, by rw [Fz_upd_old h]; exact fun _ _ e => e⟩
theorem nodup_at {io : List Addr} (nd : io.Nodup) {n m : Nat} {a : Addr} (h1 : io[n]? = some a) (h2 : io[m]? = some a) : n = m := by
  obtain ⟨p1, e1⟩ := List.getElem?_eq_some_iff.mp h1
  obtain ⟨p2, e2⟩ := List.getElem?_eq_some_iff.mp h2
  exact (List.getElem_inj nd).mp (e1.trans e2.symm)
theorem Den.put {io : Io} {S : Store} {H : Hp} {n : Nat} {p : Addr} {o : HO} {m : MO} (d : Den K C io S H) (h : io.l[n]? = some p) (hm : ORep K C io (upd H p o) p m) : Den K C io (S.set n m) (upd H p o) := by
  have nd := List.nodup_append.mp d.nd
  refine ⟨by simp [d.len], d.nd, fun k x a e1 e2 => ?_, fun q hq => ?_⟩
  · by_cases hk : k = n
    · subst hk
      rw [h] at e2
      cases e2
      rw [List.getElem?_set_self (by have := (List.getElem?_eq_some_iff.mp h).1; rw [← d.len]; exact this)] at e1
      cases e1
      exact hm
    · rw [List.getElem?_set_ne (Ne.symm hk)] at e1
      have e : a ≠ p := fun z => hk (nodup_at nd.1 e2 (z ▸ h))
      exact (d.obj k x a e1 e2).mono d (Ext.put (mem_all h)) (upd_ne e)
  · have e : q.1 ≠ p := fun z => nd.2.2 p (List.mem_of_getElem? h) q.1 (List.mem_map.mpr ⟨q, hq, rfl⟩) z.symm
    rw [upd_ne e]; exact d.hid q hq
/-! ### a list that is filled apart -/
def Io.hide (io : Io) (p : Addr) (o : HO) : Io := ⟨io.l, (p, o) :: io.h⟩
theorem mem_hide {io : Io} {p b : Addr} {o : HO} : b ∈ (io.hide p o).all ↔ b = p ∨ b ∈ io.all := by
  unfold Io.hide Io.all
  simp only [List.mem_append, List.map_cons, List.mem_cons]
  constructor
  · rintro (h | h | h)
    · exact .inr (.inl h)
    · exact .inl h
    · exact .inr (.inr h)
  · rintro (h | h | h)
    · exact .inr (.inl h)
    · exact .inl h
    · exact .inr (.inr h)
theorem Fz_hide {io : Io} {H : Hp} {p : Addr} {o u : HO} (hp : H p = none) : Fz (io.hide p o) (upd H p u) = Fz io H := by
  funext b
  unfold Fz upd
  simp only [mem_hide]
  by_cases e : b = p
  · subst e; simp [hp]
  · simp [e]
theorem Fz_hide_put {io : Io} {H : Hp} {p : Addr} {o o' u : HO} : Fz (io.hide p o') (upd H p u) = Fz (io.hide p o) H := by
  funext b
  unfold Fz upd
  simp only [mem_hide]
  by_cases e : b = p
  · subst e; simp
  · simp [e]
theorem nodup_hide {io : Io} {p : Addr} {o : HO} (nd : io.all.Nodup) (h : p ∉ io.all) : (io.hide p o).all.Nodup := by
  unfold Io.hide Io.all at *
  simp only [List.mem_append, not_or] at h
  rw [List.nodup_append] at nd ⊢
  refine ⟨nd.1, ?_, fun a ha b hb => ?_⟩
  · rw [List.map_cons, List.nodup_cons]
    exact ⟨h.2, nd.2.1⟩
  · rw [List.map_cons, List.mem_cons] at hb
    rcases hb with rfl | hb
    · exact fun z => h.1 (z ▸ ha)
    · exact nd.2.2 a ha b hb
/-- the same things, by the same frozen part -/
theorem ORep.same {io io' : Io} {S : Store} {H H' : Hp} {a : Addr} {o : MO} (d : Den K C io S H) (hl : io'.l = io.l) (hs : Same (Fz io H) (Fz io' H')) (ha : H' a = H a) (h : ORep K C io H a o) : ORep K C io' H' a o := by
  have hp : ∀ (n : Nat) (a : Addr), io.l[n]? = some a → io'.l[n]? = some a := fun n a e => by rw [hl]; exact e
  cases o with
  | lst ds => obtain ⟨vs, q, r⟩ := h; exact ⟨vs, by rw [ha]; exact q, r.mono hp hs⟩
  | dK ks ds => obtain ⟨vs, q, q2, r⟩ := h; exact ⟨vs, by rw [ha]; exact q, q2, r.mono hp hs⟩
  | ins c ns ds =>
    obtain ⟨dx, fs, q, q1, q2, r⟩ := h
    refine ⟨dx, fs, by rw [ha]; exact q, ?_, q2, r.mono hp hs⟩
    exact Fz_same _ _ _ _ (hs dx _ (by rw [Fz_out (d.notOwn q1)]; exact q1))
theorem Den.hide {io : Io} {S : Store} {H : Hp} {p : Addr} {o : HO} (d : Den K C io S H) (h : H p = none) (m : isMut o = true) : Den K C (io.hide p o) S (upd H p o) := by
  have hs : Same (Fz io H) (Fz (io.hide p o) (upd H p o)) := by rw [Fz_hide h]; exact fun _ _ e => e
  refine ⟨d.len, nodup_hide d.nd (d.fresh h), fun n x a e1 e2 => ?_, fun q hq => ?_⟩
  · have e : a ≠ p := fun z => d.fresh h (z ▸ mem_all (show io.l[n]? = some a from e2))
    exact (d.obj n x a e1 e2).same d rfl hs (upd_ne e)
  · have hq' : q = (p, o) ∨ q ∈ io.h := List.mem_cons.mp hq
    rcases hq' with rfl | hq'
    · exact ⟨upd_same, m⟩
    · have e : q.1 ≠ p := fun z => d.fresh h (z ▸ hid_mem hq')
      rw [upd_ne e]; exact d.hid q hq'
theorem Den.rehide {io : Io} {S : Store} {H : Hp} {p : Addr} {o o' : HO} (d : Den K C (io.hide p o) S H) (m : isMut o' = true) : Den K C (io.hide p o') S (upd H p o') := by
  have hs : Same (Fz (io.hide p o) H) (Fz (io.hide p o') (upd H p o')) := by rw [Fz_hide_put (o := o)]; exact fun _ _ e => e
  have nd := List.nodup_append.mp d.nd
  have nd2 : p ∉ io.h.map (·.1) ∧ _ := List.nodup_cons.mp (show (p :: io.h.map (·.1)).Nodup from nd.2.1)
  refine ⟨d.len, d.nd, fun n x a e1 e2 => ?_, fun q hq => ?_⟩
  · have e : a ≠ p := fun z => nd.2.2 a (List.mem_of_getElem? e2) p (by simp [Io.hide]) z
    exact (d.obj n x a e1 e2).same d rfl hs (upd_ne e)
  · have hq' : q = (p, o') ∨ q ∈ io.h := List.mem_cons.mp hq
    rcases hq' with rfl | hq'
    · exact ⟨upd_same, m⟩
    · have e : q.1 ≠ p := fun z => nd2.1 (z ▸ List.mem_map.mpr ⟨q, hq', rfl⟩)
      rw [upd_ne e]; exact d.hid q (List.mem_cons_of_mem _ hq')
/-- it is filled: it stands still from now on -/
theorem Fz_unhide {io : Io} {H : Hp} {p : Addr} {o : HO} (hp : p ∉ io.all) (e : H p = some o) : Same (Fz (io.hide p o) H) (Fz io H) ∧ Fz io H p = some o := by
  refine ⟨fun b u q => ?_, by rw [Fz_out hp]; exact e⟩
  unfold Fz at q ⊢
  simp only [mem_hide] at q
  by_cases hb : b ∈ io.all
  · simp [hb] at q
  · simp only [hb, or_false, if_false] at q ⊢
    split at q
    · cases q
    · exact q
theorem Den.unhide {io : Io} {S : Store} {H : Hp} {p : Addr} {o : HO} (d : Den K C (io.hide p o) S H) : Den K C io S H ∧ p ∉ io.all ∧ H p = some o := by
  have nd := List.nodup_append.mp d.nd
  have nd2 : p ∉ io.h.map (·.1) ∧ (io.h.map (·.1)).Nodup := List.nodup_cons.mp (show (p :: io.h.map (·.1)).Nodup from nd.2.1)
  have hp : p ∉ io.all := fun z => by
    rcases List.mem_append.mp z with z | z
    · exact nd.2.2 p z p (by simp [Io.hide]) rfl
    · exact nd2.1 z
  have e : H p = some o := (d.hid (p, o) List.mem_cons_self).1
  refine ⟨⟨d.len, ?_, fun n x a e1 e2 => ?_, fun q hq => d.hid q (List.mem_cons_of_mem _ hq)⟩, hp, e⟩
  · unfold Io.all
    rw [List.nodup_append]
    exact ⟨nd.1, nd2.2, fun a ha b hb => nd.2.2 a ha b (List.mem_cons_of_mem _ hb)⟩
  · exact (d.obj n x a e1 e2).same d rfl (Fz_unhide hp e).1 rfl
end Ev
namespace Ev
open PySem PySem.Spec L2

/-! ### states -/
structure Slots (K : PySem.W.Frag) (C : Nat → Addr) (io : Io) (F : Hp) (e : Env) (sg : St) : Prop where
  len : e.length = sg.length
  get : ∀ (i : Nat) (d : D), e[i]? = some (some d) → ∃ v, sg[i]? = some (some v) ∧ Rep K C io F d v
theorem Slots.ext {K : PySem.W.Frag} {C : Nat → Addr} {io io' : Io} {H H' : Hp} {e : Env} {sg : St} (x : Ext io H io' H') (s : Slots K C io (Fz io H) e sg) : Slots K C io' (Fz io' H') e sg :=
  ⟨s.len, fun i d h => let ⟨v, h1, h2⟩ := s.get i d h; ⟨v, h1, h2.ext x⟩⟩
theorem Slots.set {K : PySem.W.Frag} {C : Nat → Addr} {io : Io} {F : Hp} {e : Env} {sg : St} {d : D} {v : V} (s : Slots K C io F e sg) (i : Nat) (r : Rep K C io F d v) : Slots K C io F (e.set i (some d)) (sg.set i (some v)) := by
  refine ⟨by simp [s.len], fun j x h => ?_⟩
  by_cases hj : j = i
  · subst hj
    by_cases hl : j < e.length
    · rw [List.getElem?_set_self hl] at h
      cases h
      exact ⟨v, by rw [List.getElem?_set_self (by rw [← s.len]; exact hl)], r⟩
    · rw [List.getElem?_eq_none (by simp; omega)] at h; cases h
  · rw [List.getElem?_set_ne (Ne.symm hj)] at h
    obtain ⟨u, h1, h2⟩ := s.get j x h
    exact ⟨u, by rw [List.getElem?_set_ne (Ne.symm hj)]; exact h1, h2⟩
theorem Slots.none {K : PySem.W.Frag} {C : Nat → Addr} {io : Io} {F : Hp} {e : Env} {sg : St} (s : Slots K C io F e sg) (i : Nat) : Slots K C io F (e.set i none) (sg.set i none) := by
  refine ⟨by simp [s.len], fun j x h => ?_⟩
  by_cases hj : j = i
  · subst hj
    by_cases hl : j < e.length
    · rw [List.getElem?_set_self hl] at h; cases h
    · rw [List.getElem?_eq_none (by simp; omega)] at h; cases h
  · rw [List.getElem?_set_ne (Ne.symm hj)] at h
    obtain ⟨u, h1, h2⟩ := s.get j x h
    exact ⟨u, by rw [List.getElem?_set_ne (Ne.symm hj)]; exact h1, h2⟩
/-- an exception: its class, its own dict -/
def XR (K : PySem.W.Frag) (C : Nat → Addr) (io : Io) (H : Hp) (x : Exn) (cls : Value) (dd : Option Addr) : Prop :=
  cls = .ref (C x.c) ∧ ((x.ns = [] ∧ x.xs = [] ∧ dd = none) ∨ ∃ d fs, dd = some d ∧ H d = some (.xd fs) ∧ fs.map (·.1) = x.ns ∧ Reps K C io (Fz io H) x.xs (fs.map (·.2)))

/-! ### what is wanted behind a result -/
def Post {A B : Type} (K : PySem.W.Frag) (C : Nat → Addr) (R : Io → Hp → A → B → Prop) (W : WX) (sg : St) (io : Io) (H : Hp) (r : Res A) (Q : B → Hp → Prop) : Prop :=
  match r with
  | .ok a S => ∀ b H' io', Ext io H io' H' → Den K C io' S H' → R io' (Fz io' H') a b → Q b H'
  | .err x S => ∀ cls dd H' io', Ext io H io' H' → Den K C io' S H' → XR K C io' H' x cls dd → W cls dd sg H'
  | .bad => False
abbrev RepR (K : PySem.W.Frag) (C : Nat → Addr) : Io → Hp → D → V → Prop := fun io F d v => Rep K C io F d v
abbrev RepsR (K : PySem.W.Frag) (C : Nat → Addr) : Io → Hp → List D → List V → Prop := fun io F d v => Reps K C io F d v
abbrev EqR {A : Type} : Io → Hp → A → A → Prop := fun _ _ a b => a = b
section
variable {K : PySem.W.Frag} {C : Nat → Addr} {A B A' B' : Type} {R : Io → Hp → A → B → Prop} {R' : Io → Hp → A' → B' → Prop} {W : WX} {sg : St} {io io' : Io} {H H' : Hp} {r : Res A} {Q Q' : B → Hp → Prop}
theorem Post.ext (e : Ext io H io' H') (h : Post K C R W sg io H r Q) : Post K C R W sg io' H' r Q := by
  cases r with
  | ok a S => exact fun b H2 io2 x d q => h b H2 io2 (e.trans x) d q
  | err x S => exact fun c dd H2 io2 x' d q => h c dd H2 io2 (e.trans x') d q
  | bad => exact h
theorem Post.mono (h : Post K C R W sg io H r Q) (m : ∀ b H', Q b H' → Q' b H') : Post K C R W sg io H r Q' := by
  cases r with
  | ok a S => exact fun b H2 io2 x d q => m _ _ (h b H2 io2 x d q)
  | err x S => exact h
  | bad => exact h
theorem Post.bind {k : A → Store → Res A'} {Q : B' → Hp → Prop} (h : Post K C R' W sg io H (r.bind k) Q) :
    Post K C R W sg io H r (fun b H1 => ∃ io1 S1 a, Ext io H io1 H1 ∧ Den K C io1 S1 H1 ∧ R io1 (Fz io1 H1) a b ∧ Post K C R' W sg io1 H1 (k a S1) Q) := by
  cases r with
  | ok a S => exact fun b H2 io2 x d q => ⟨io2, S, a, x, d, q, Post.ext x h⟩
  | err x S => exact h
  | bad => exact h
theorem Post.ofO {o : Option A} {S : Store} (h : Post K C R W sg io H (ofO o S) Q) : ∃ a, o = some a ∧ ∀ b H' io', Ext io H io' H' → Den K C io' S H' → R io' (Fz io' H') a b → Q b H' := by
  cases o with
  | some a => exact ⟨a, rfl, h⟩
  | none => exact h.elim
/-- nothing of the heap has changed -/
theorem Post.here {a : A} {S : Store} {b : B} (h : Post K C R W sg io H (.ok a S) Q) (d : Den K C io S H) (q : R io (Fz io H) a b) : Q b H := h b H io (Ext.refl io H) d q
end
/-- an expression, a test, arguments, by what they come to -/
abbrev RE := Env → Store → Res D
abbrev RT := Env → Store → Res Bool
abbrev RA := Env → Store → Res (List D)
def tR {A B : Type} (K : PySem.W.Frag) (C : Nat → Addr) (R : Io → Hp → A → B → Prop) (W : WX) (r : Env → Store → Res A) : St → Hp → (B → Hp → Prop) → Prop := fun sg H Q =>
  ∃ (e : Env) (S : Store) (io : Io), Den K C io S H ∧ Slots K C io (Fz io H) e sg ∧ Post K C R W sg io H (r e S) Q
abbrev tE (K : PySem.W.Frag) (C : Nat → Addr) (W : WX) (r : RE) : TE := tR K C (RepR K C) W r
abbrev tT (K : PySem.W.Frag) (C : Nat → Addr) (W : WX) (r : RT) : TT := tR K C EqR W r
abbrev tA (K : PySem.W.Frag) (C : Nat → Addr) (W : WX) (r : RA) : TA := tR K C (RepsR K C) W r
section
variable {K : PySem.W.Frag} {C : Nat → Addr} {A B A' B' A2 B2 : Type} {R : Io → Hp → A → B → Prop} {R' : Io → Hp → A' → B' → Prop} {R2 : Io → Hp → A2 → B2 → Prop} {W : WX} {sg : St} {H : Hp}
theorem tR.mono {r : Env → Store → Res A} {Q Q' : B → Hp → Prop} (h : tR K C R W r sg H Q) (m : ∀ b H', Q b H' → Q' b H') : tR K C R W r sg H Q' := by
  obtain ⟨e, S, io, d, s, p⟩ := h
  exact ⟨e, S, io, d, s, p.mono m⟩
/-- one thing, then the rest -/
theorem tR.seq1 {r : Env → Store → Res A} {r' : Env → Store → Res A'} {Q : B' → Hp → Prop} (k : Env → A → Store → Res A') (h : tR K C R' W r' sg H Q) (e' : ∀ e S, r' e S = (r e S).bind (k e)) :
    tR K C R W r sg H fun b H1 => ∃ e S io a, Den K C io S H1 ∧ Slots K C io (Fz io H1) e sg ∧ R io (Fz io H1) a b ∧ Post K C R' W sg io H1 (k e a S) Q := by
  obtain ⟨e, S, io, d, s, p⟩ := h
  rw [e'] at p
  exact ⟨e, S, io, d, s, p.bind.mono fun b H1 ⟨io1, S1, a, x, d1, q, p1⟩ => ⟨e, S1, io1, a, d1, s.ext x, q, p1⟩⟩
/-- two things, then the rest -/
theorem tR.seq2 {r : Env → Store → Res A} {r2 : Env → Store → Res A2} {r' : Env → Store → Res A'} (hm : ∀ {io io' H H' a b}, Ext io H io' H' → R io (Fz io H) a b → R io' (Fz io' H') a b) {Q : B' → Hp → Prop} (k : Env → A → A2 → Store → Res A')
    (h : tR K C R' W r' sg H Q) (e' : ∀ e S, r' e S = (r e S).bind fun a S1 => (r2 e S1).bind (k e a)) :
    tR K C R W r sg H fun b H1 => tR K C R2 W r2 sg H1 fun b2 H2 => ∃ e S io a a2, Den K C io S H2 ∧ Slots K C io (Fz io H2) e sg ∧ R io (Fz io H2) a b ∧ R2 io (Fz io H2) a2 b2 ∧ Post K C R' W sg io H2 (k e a a2 S) Q := by
  obtain ⟨e, S, io, d, s, p⟩ := h
  rw [e'] at p
  refine ⟨e, S, io, d, s, p.bind.mono fun b H1 ⟨io1, S1, a, x, d1, q, p1⟩ => ?_⟩
  exact ⟨e, S1, io1, d1, s.ext x, p1.bind.mono fun b2 H2 ⟨io2, S2, a2, x2, d2, q2, p2⟩ => ⟨e, S2, io2, a, a2, d2, (s.ext x).ext x2, hm x2 q, q2, p2⟩⟩
theorem bind_assoc {A B E : Type} (r : Res A) (f : A → Store → Res B) (g : B → Store → Res E) : (r.bind f).bind g = r.bind fun a S => (f a S).bind g := by cases r <;> rfl
end
theorem repM {K : PySem.W.Frag} {C : Nat → Addr} {io io' : Io} {H H' : Hp} {a : D} {b : V} (x : Ext io H io' H') (h : RepR K C io (Fz io H) a b) : RepR K C io' (Fz io' H') a b := Rep.ext x h
theorem repsM {K : PySem.W.Frag} {C : Nat → Addr} {io io' : Io} {H H' : Hp} {a : List D} {b : List V} (x : Ext io H io' H') (h : RepsR K C io (Fz io H) a b) : RepsR K C io' (Fz io' H') a b := Reps.ext x h
theorem eqM {A : Type} {io io' : Io} {H H' : Hp} {a b : A} (x : Ext io H io' H') (h : EqR io (Fz io H) a b) : EqR io' (Fz io' H') a b := h

theorem _root_.L2.PE.imp {X : Cx} {e : Expr} {t t' : TE} (h : PE X e t) (hi : ∀ sg H Q, t' sg H Q → t sg H Q) : PE X e t' := ⟨fun pins s sg H Q I hw => h.run pins s sg H Q I (hi _ _ _ hw)⟩
theorem _root_.L2.PT.imp {X : Cx} {e : Expr} {t t' : TT} (h : PT X e t) (hi : ∀ sg H Q, t' sg H Q → t sg H Q) : PT X e t' := ⟨fun pins s sg H Q I hw => h.run pins s sg H Q I (hi _ _ _ hw)⟩
theorem _root_.L2.PW.imp {X : Cx} {e : Expr} {t t' : TT} (h : PW X e t) (hi : ∀ sg H Q, t' sg H Q → t sg H Q) : PW X e t' := ⟨fun wh pins s sg H Q I hw => h.run wh pins s sg H Q I (hi _ _ _ hw)⟩
theorem _root_.L2.PA.imp {X : Cx} {e : List Expr} {t t' : TA} (h : PA X e t) (hi : ∀ sg H Q, t' sg H Q → t sg H Q) : PA X e t' := ⟨fun p pins s sg H Q I hw => h.run p pins s sg H Q I (hi _ _ _ hw)⟩
theorem _root_.L2.PS.imp {X : Cx} {e : Stmt} {t t' : TS} (h : PS X e t) (hi : ∀ D sg H, t' D sg H → t D sg H) : PS X e t' := ⟨fun pins s sg H D I hw => h.run pins s sg H D I (hi _ _ _ hw)⟩
theorem _root_.L2.PSs.imp {X : Cx} {e : List Stmt} {t t' : TS} (h : PSs X e t) (hi : ∀ D sg H, t' D sg H → t D sg H) : PSs X e t' := ⟨fun pins s sg H D I hw => h.run pins s sg H D I (hi _ _ _ hw)⟩
theorem _root_.L2.PE.or {X : Cx} {e : Expr} {t t' : TE} (h : PE X e t) (h' : PE X e t') : PE X e (fun sg H Q => t sg H Q ∨ t' sg H Q) := ⟨fun pins s sg H Q I hw => hw.elim (h.run pins s sg H Q I) (h'.run pins s sg H Q I)⟩

/-! ### operations by values -/
/-- an operation of two values over the store -/
def OpD (X : Cx) (C : Nat → Addr) (g : Value → Value → Sem Value) (f : Store → D → D → Option D) : Prop :=
  OpR X g (fun x y H Q => ∃ io S a b d, Den X.K C io S H ∧ Rep X.K C io (Fz io H) a x ∧ Rep X.K C io (Fz io H) b y ∧ f S a b = some d ∧ ∀ v H' io', Ext io H io' H' → Den X.K C io' S H' → Rep X.K C io' (Fz io' H') d v → Q v H')
def UnD (X : Cx) (C : Nat → Addr) (g : Value → Sem Value) (f : Store → D → Option D) : Prop :=
  UnR X g (fun x H Q => ∃ io S a d, Den X.K C io S H ∧ Rep X.K C io (Fz io H) a x ∧ f S a = some d ∧ ∀ v H' io', Ext io H io' H' → Den X.K C io' S H' → Rep X.K C io' (Fz io' H') d v → Q v H')
def CallD (X : Cx) (C : Nat → Addr) (g : Value) (f : Store → List D → Option D) : Prop :=
  CallR X g (fun xs H Q => ∃ io S as d, Den X.K C io S H ∧ Reps X.K C io (Fz io H) as xs ∧ f S as = some d ∧ ∀ v H' io', Ext io H io' H' → Den X.K C io' S H' → Rep X.K C io' (Fz io' H') d v → Q v H')
def rBin (f : Store → D → D → Option D) (a b : RE) : RE := fun e S => (a e S).bind fun x S1 => (b e S1).bind fun y S2 => ofO (f S2 x y) S2
def rUn (f : Store → D → Option D) (a : RE) : RE := fun e S => (a e S).bind fun x S1 => ofO (f S1 x) S1
def rCal (f : Store → List D → Option D) (a : RA) : RE := fun e S => (a e S).bind fun xs S1 => ofO (f S1 xs) S1
section
variable {X : Cx} {C : Nat → Addr} {W : WX} {a b : Expr} {ra rb : RE} {pos : Pos}
theorem ee_op {op : Operator} {f : Store → D → D → Option D} (ho : OpD X C (binaryOp op) f) (ha : PE X a (tE X.K C W ra)) (hb : PE X b (tE X.K C W rb)) : PE X (.BinOp a op b pos) (tE X.K C W (rBin f ra rb)) :=
  (pe_op ho ha hb).imp fun sg H Q h => (tR.seq2 repM (fun _ x y S => ofO (f S x y) S) h fun _ _ => rfl).mono fun x H1 h1 => h1.mono fun y H2 ⟨e, S, io, x1, y1, d, s, r1, r2, p⟩ => by
    obtain ⟨z, ez, p⟩ := p.ofO
    exact ⟨io, S, x1, y1, z, d, r1, r2, ez, p⟩
theorem ee_un {op : UnaryOp} {f : Store → D → Option D} (ho : UnD X C (unaryOp op) f) (ha : PE X a (tE X.K C W ra)) : PE X (.UnaryOp op a pos) (tE X.K C W (rUn f ra)) :=
  (pe_un ho ha).imp fun sg H Q h => (tR.seq1 (fun _ x S => ofO (f S x) S) h fun _ _ => rfl).mono fun x H1 ⟨e, S, io, x1, d, s, r1, p⟩ => by
    obtain ⟨z, ez, p⟩ := p.ofO
    exact ⟨io, S, x1, z, d, r1, ez, p⟩
theorem ee_cmp {op : CmpOp} {f : Store → D → D → Option D} (ho : OpD X C (compareOp op) f) (ha : PE X a (tE X.K C W ra)) (hb : PE X b (tE X.K C W rb)) (hm : behindInMarks op b = false) : PE X (.Compare a [op] [b] pos) (tE X.K C W (rBin f ra rb)) :=
  (pe_cmpR ho ha hb hm).imp fun sg H Q h => (tR.seq2 repM (fun _ x y S => ofO (f S x y) S) h fun _ _ => rfl).mono fun x H1 h1 => h1.mono fun y H2 ⟨e, S, io, x1, y1, d, s, r1, r2, p⟩ => by
    obtain ⟨z, ez, p⟩ := p.ofO
    exact ⟨io, S, x1, y1, z, d, r1, r2, ez, p⟩
/-- a truth of an answer -/
def asB : D → Option Bool
  | .bl b => some b
  | _ => none
def rTest (a : RE) : RT := fun e S => (a e S).bind fun x S1 => ofO (asB x) S1
theorem asB_rep {K : PySem.W.Frag} {C : Nat → Addr} {io : Io} {F : Hp} {d : D} {v : V} {k : Bool} (h : asB d = some k) (r : Rep K C io F d v) : v = .bl k := by
  cases d <;> cases h
  cases r
  rfl
/-- what a test wants behind the value -/
theorem tTest_of {t : TE} {r : RE} (h1 : ∀ sg H Q, tE X.K C W r sg H Q → t sg H Q) (sg : L2.St) (H : Hp) (Q : Bool → Hp → Prop) (h : tT X.K C W (rTest r) sg H Q) : tTest t sg H Q :=
  h1 sg H _ ((tR.seq1 (R := RepR X.K C) (r := r) (fun _ x S => ofO (asB x) S) h fun _ _ => rfl).mono fun x H1 ⟨e, S, io, x1, d, s, r1, p⟩ => by
    obtain ⟨k, ek, p⟩ := p.ofO
    exact ⟨k, asB_rep ek r1, p k H1 io (Ext.refl _ _) d rfl⟩)
theorem et_cmp {op : CmpOp} {f : Store → D → D → Option D} (ho : OpD X C (compareOp op) f) (ha : PE X a (tE X.K C W ra)) (hb : PE X b (tE X.K C W rb)) (hm : behindInMarks op b = false) : PT X (.Compare a [op] [b] pos) (tT X.K C W (rTest (rBin f ra rb))) :=
  (pt_cmpR ho ha hb hm).imp (tTest_of fun sg H Q h => (tR.seq2 repM (fun _ x y S => ofO (f S x y) S) h fun _ _ => rfl).mono fun x H1 h1 => h1.mono fun y H2 ⟨e, S, io, x1, y1, d, s, r1, r2, p⟩ => by
    obtain ⟨z, ez, p⟩ := p.ofO
    exact ⟨io, S, x1, y1, z, d, r1, r2, ez, p⟩)
end
end Ev
namespace Ev
open PySem PySem.Spec L2

/-! ### names and constants -/
def rVar (i : Nat) : RE := fun e S => match e[i]? with
  | some (some d) => .ok d S
  | _ => .bad
def rCon (d : D) : RE := fun _ S => .ok d S
section
variable {X : Cx} {C : Nat → Addr} {W : WX}
theorem ee_var (i : Nat) {x : Str} {pos : Pos} (hN : X.N[i]? = some x := by rfl) (hv : Vis X.env.scope x := by first | exact Or.inl rfl | exact Or.inr (Or.inl rfl) | exact Or.inr (Or.inr rfl)) (hd : (x == ("__debug__" : Str)) = false := by decide)
    (hcd : (x == ("__classdict__" : Str)) = false := by decide) : PE X (.Name x pos) (tE X.K C W (rVar i)) :=
  (pv i hN hv hd hcd).imp fun sg H Q h => by
    obtain ⟨e, S, io, d, s, p⟩ := h
    unfold rVar at p
    split at p
    · rename_i y ey
      obtain ⟨v, h1, h2⟩ := s.get i y ey
      exact ⟨v, h1, p.here d h2⟩
    · exact p.elim
theorem ee_con {v : V} {d : D} {e : Expr} (h : PE X e (tC v)) (r : ∀ io F, Rep X.K C io F d v) : PE X e (tE X.K C W (rCon d)) :=
  h.imp fun sg H Q h => by
    obtain ⟨e, S, io, d, s, p⟩ := h
    exact p.here d (r _ _)
theorem ee_int {i j pos} : PE X (.Constant (.int i) j pos) (tE X.K C W (rCon (.int i))) := ee_con pe_int fun _ _ => .int i
theorem ee_bl {i j pos} : PE X (.Constant (.bool i) j pos) (tE X.K C W (rCon (.bl i))) := ee_con pe_bl fun _ _ => .bl i
theorem ee_str {i j pos} : PE X (.Constant (.str i) j pos) (tE X.K C W (rCon (.str i))) := ee_con pe_str fun _ _ => .str i
theorem ee_non {j pos} : PE X (.Constant .none j pos) (tE X.K C W (rCon .non)) := ee_con pe_non fun _ _ => .non
theorem ee_glob {x : Str} {v : V} {u : Value} {d : D} {pos : Pos} (hg : Gl X x) (hm : X.mg x = some u) (r : RelV v u) (rd : ∀ io F, Rep X.K C io F d v) (hd : (x == ("__debug__" : Str)) = false := by decide) : PE X (.Name x pos) (tE X.K C W (rCon d)) :=
  ee_con (pe_glob hg hm r hd) rd
end

/-! ### truth -/
def asL (S : Store) : D → Option (List D)
  | .lst xs => some xs
  | .loc n => match S[n]? with
    | some (.lst xs) => some xs
    | _ => none
  | _ => none
theorem asL_rep {K : PySem.W.Frag} {C : Nat → Addr} {io : Io} {S : Store} {H : Hp} {d : D} {v : V} {xs : List D} (h : asL S d = some xs) (dn : Den K C io S H) (r : Rep K C io (Fz io H) d v) :
    ∃ a vs, v = .ref a ∧ SqL K H a vs ∧ Reps K C io (Fz io H) xs vs := by
  cases r with
  | lst q rs => cases h; exact ⟨_, _, rfl, (Fz_same _ _).seq q, rs⟩
  | @loc n a q =>
    simp only [asL] at h
    split at h
    · rename_i ys e
      cases h
      obtain ⟨vs, h1, h2⟩ := dn.obj n _ a e q
      exact ⟨a, vs, rfl, .of h1, h2⟩
    · cases h
  | _ => cases h
theorem SqL.len {X : Cx} {pins : List (Addr × Obj)} {sg : L2.St} {H : Hp} {s : Shared} {a : Addr} {vs : List V} (I : Inv X pins sg H s) (h : SqL X.K H a vs) : vs.length ≤ sizeLine := let ⟨_, _, _, z⟩ := I.list h; z
def truthD (S : Store) : D → Option Bool
  | .non => some false
  | .bl b => some b
  | .int i => some (i != 0)
  | .str x => if x.length ≤ sizeLine then some ((x.length : Int) != 0) else none
  | .tup xs => some (!xs.isEmpty)
  | .lst xs => some (!xs.isEmpty)
  | .dct ks _ => some (!ks.isEmpty)
  | .loc n => match S[n]? with
    | some (.lst xs) => some (!xs.isEmpty)
    | some (.dK ks _) => some (!ks.isEmpty)
    | _ => none
  | .exn _ _ _ => none
theorem isEmpty_len {A B : Type} {xs : List A} {ys : List B} (h : xs.length = ys.length) : xs.isEmpty = ys.isEmpty := by
  cases xs <;> cases ys <;> first | rfl | cases h
theorem truth_rep {K : PySem.W.Frag} {C : Nat → Addr} {io : Io} {S : Store} {H : Hp} {d : D} {v : V} {k : Bool} (h : truthD S d = some k) (dn : Den K C io S H) (r : Rep K C io (Fz io H) d v) : TruV K v H k := by
  cases r with
  | non => cases h; rfl
  | bl => cases h; rfl
  | int => cases h; rfl
  | str x =>
    simp only [truthD] at h
    split at h
    · cases h; exact ⟨by assumption, rfl⟩
    · cases h
  | tup q rs => cases h; exact .inr (.inl ⟨_, sqT_same (Fz_same _ _) q, by rw [isEmpty_len rs.length]⟩)
  | lst q rs => cases h; exact .inl ⟨_, (Fz_same _ _).seq q, by rw [isEmpty_len rs.length]⟩
  | dct q e1 e2 rs => cases h; subst e1; exact .inr (.inr ⟨_, Fz_same _ _ _ _ q, by rw [isEmpty_len (List.length_map ..)]⟩)
  | @loc n a q =>
    simp only [truthD] at h
    split at h
    · rename_i ys e
      cases h
      obtain ⟨vs, h1, h2⟩ := dn.obj n _ a e q
      exact .inl ⟨vs, .of h1, by rw [isEmpty_len h2.length]⟩
    · rename_i ks ys e
      cases h
      obtain ⟨kvs, h1, h2, h3⟩ := dn.obj n _ a e q
      subst h2
      exact .inr (.inr ⟨kvs, h1, by rw [isEmpty_len (List.length_map ..)]⟩)
    · cases h
  | exn0 => cases h
  | exnF => cases h
def rTruth (a : RE) : RT := fun e S => (a e S).bind fun x S1 => ofO (truthD S1 x) S1
def rAndT (a b : RT) : RT := fun e S => (a e S).bind fun k S1 => if k = true then b e S1 else .ok false S1
def rOrT (a b : RT) : RT := fun e S => (a e S).bind fun k S1 => if k = true then .ok true S1 else b e S1
def rNotT (a : RT) : RT := fun e S => (a e S).bind fun k S1 => .ok (!k) S1
def rAnd (a b : RE) : RE := fun e S => (a e S).bind fun x S1 => (ofO (truthD S1 x) S1).bind fun k S2 => if k = true then b e S2 else .ok x S2
def rOr (a b : RE) : RE := fun e S => (a e S).bind fun x S1 => (ofO (truthD S1 x) S1).bind fun k S2 => if k = true then .ok x S2 else b e S2
def rNot (a : RE) : RE := fun e S => (a e S).bind fun x S1 => (ofO (truthD S1 x) S1).bind fun k S2 => .ok (.bl (!k)) S2
def rIf (t : RT) (a b : RE) : RE := fun e S => (t e S).bind fun k S1 => if k = true then a e S1 else b e S1
section
variable {X : Cx} {C : Nat → Addr} {W : WX} {a b c : Expr} {ra rb : RE} {ta tb tc : RT} {rest : List Expr} {pos : Pos}
theorem et_val (ha : PE X a (tE X.K C W ra)) (he : ∀ whole, isTrue a X.env whole = (do let v ← whole; standAt a.pos; holding [v] (truthy v)) := by intro _; rfl) : PT X a (tT X.K C W (rTruth ra)) :=
  (pt_truth ha he).imp fun sg H Q h => (tR.seq1 (fun _ x S => ofO (truthD S x) S) h fun _ _ => rfl).mono fun x H1 ⟨e, S, io, x1, d, s, r1, p⟩ => by
    obtain ⟨k, ek, p⟩ := p.ofO
    exact ⟨k, truth_rep ek d r1, p k H1 io (Ext.refl _ _) d rfl⟩
theorem et_and1 (ha : PT X a (tT X.K C W ta)) : PW X (.BoolOp .And [a] pos) (tT X.K C W ta) := pw_and1 ha
theorem et_or1 (ha : PT X a (tT X.K C W ta)) : PW X (.BoolOp .Or [a] pos) (tT X.K C W ta) := pw_or1 ha
theorem et_and (ha : PT X a (tT X.K C W ta)) (hb : PW X (.BoolOp .And (b :: rest) pos) (tT X.K C W tb)) : PW X (.BoolOp .And (a :: b :: rest) pos) (tT X.K C W (rAndT ta tb)) :=
  (pw_and ha hb).imp fun sg H Q h => (tR.seq1 (R := EqR) (fun e k S1 => if k = true then tb e S1 else .ok false S1) h fun _ _ => rfl).mono fun x H1 ⟨e, S, io, x1, d, s, r1, p⟩ => by
    cases r1
    cases x with
    | true => exact ⟨e, S, io, d, s, p⟩
    | false => exact p false H1 io (Ext.refl _ _) d rfl
theorem et_or (ha : PT X a (tT X.K C W ta)) (hb : PW X (.BoolOp .Or (b :: rest) pos) (tT X.K C W tb)) : PW X (.BoolOp .Or (a :: b :: rest) pos) (tT X.K C W (rOrT ta tb)) :=
  (pw_or ha hb).imp fun sg H Q h => (tR.seq1 (R := EqR) (fun e k S1 => if k = true then .ok true S1 else tb e S1) h fun _ _ => rfl).mono fun x H1 ⟨e, S, io, x1, d, s, r1, p⟩ => by
    cases r1
    cases x with
    | true => exact p true H1 io (Ext.refl _ _) d rfl
    | false => exact ⟨e, S, io, d, s, p⟩
theorem et_not (ha : PT X a (tT X.K C W ta)) : PT X (.UnaryOp .Not a pos) (tT X.K C W (rNotT ta)) :=
  (pt_not ha).imp fun sg H Q h => (tR.seq1 (R := EqR) (fun e k S1 => .ok (!k) S1) h fun _ _ => rfl).mono fun x H1 ⟨e, S, io, x1, d, s, r1, p⟩ => by
    cases r1
    exact p _ H1 io (Ext.refl _ _) d rfl
theorem ee_one {op} (h : PE X a (tE X.K C W ra)) : PE X (.BoolOp op [a] pos) (tE X.K C W ra) := pe_one h
theorem ee_and (ha : PE X a (tE X.K C W ra)) (hb : PE X (.BoolOp .And (b :: rest) pos) (tE X.K C W rb)) : PE X (.BoolOp .And (a :: b :: rest) pos) (tE X.K C W (rAnd ra rb)) :=
  (pe_andT ha hb).imp fun sg H Q h => (tR.seq1 (R := RepR X.K C) (fun e x S1 => (ofO (truthD S1 x) S1).bind fun k S2 => if k = true then rb e S2 else .ok x S2) h fun _ _ => rfl).mono fun x H1 ⟨e, S, io, x1, d, s, r1, p⟩ => by
    cases ek : truthD S x1 with
    | none => simp only [ek, ofO, Res.bind] at p; exact p.elim
    | some k =>
      simp only [ek, ofO, Res.bind] at p
      refine ⟨k, truth_rep ek d r1, ?_⟩
      cases k with
      | true => exact ⟨e, S, io, d, s, p⟩
      | false => exact p _ H1 io (Ext.refl _ _) d r1
theorem ee_or (ha : PE X a (tE X.K C W ra)) (hb : PE X (.BoolOp .Or (b :: rest) pos) (tE X.K C W rb)) : PE X (.BoolOp .Or (a :: b :: rest) pos) (tE X.K C W (rOr ra rb)) :=
  (pe_orT ha hb).imp fun sg H Q h => (tR.seq1 (R := RepR X.K C) (fun e x S1 => (ofO (truthD S1 x) S1).bind fun k S2 => if k = true then .ok x S2 else rb e S2) h fun _ _ => rfl).mono fun x H1 ⟨e, S, io, x1, d, s, r1, p⟩ => by
    cases ek : truthD S x1 with
    | none => simp only [ek, ofO, Res.bind] at p; exact p.elim
    | some k =>
      simp only [ek, ofO, Res.bind] at p
      refine ⟨k, truth_rep ek d r1, ?_⟩
      cases k with
      | true => exact p _ H1 io (Ext.refl _ _) d r1
      | false => exact ⟨e, S, io, d, s, p⟩
theorem ee_not (ha : PE X a (tE X.K C W ra)) : PE X (.UnaryOp .Not a pos) (tE X.K C W (rNot ra)) :=
  (pe_notT ha).imp fun sg H Q h => (tR.seq1 (R := RepR X.K C) (fun e x S1 => (ofO (truthD S1 x) S1).bind fun k S2 => .ok (.bl (!k)) S2) h fun _ _ => rfl).mono fun x H1 ⟨e, S, io, x1, d, s, r1, p⟩ => by
    cases ek : truthD S x1 with
    | none => simp only [ek, ofO, Res.bind] at p; exact p.elim
    | some k =>
      simp only [ek, ofO, Res.bind] at p
      exact ⟨k, truth_rep ek d r1, p _ H1 io (Ext.refl _ _) d (.bl _)⟩
theorem ee_if (hc : PT X c (tT X.K C W tc)) (ha : PE X a (tE X.K C W ra)) (hb : PE X b (tE X.K C W rb)) : PE X (.IfExp c a b pos) (tE X.K C W (rIf tc ra rb)) :=
  (pe_ifExp hc ha hb).imp fun sg H Q h => (tR.seq1 (R := EqR) (fun e k S1 => if k = true then ra e S1 else rb e S1) h fun _ _ => rfl).mono fun x H1 ⟨e, S, io, x1, d, s, r1, p⟩ => by
    cases r1
    cases x with
    | true => exact ⟨e, S, io, d, s, p⟩
    | false => exact ⟨e, S, io, d, s, p⟩
end

/-! ### argument lists, displays -/
def rNil : RA := fun _ S => .ok [] S
def rCons (a : RE) (r : RA) : RA := fun e S => (a e S).bind fun x S1 => (r e S1).bind fun xs S2 => .ok (x :: xs) S2
def AL (n : Nat) (r : RA) : Prop := ∀ e S xs S', r e S = .ok xs S' → xs.length = n
theorem al_nil : AL 0 rNil := fun e S xs S' h => by cases h; rfl
theorem al_cons {n : Nat} {a : RE} {r : RA} (h : AL n r) : AL (n + 1) (rCons a r) := fun e S xs S' q => by
  unfold rCons at q
  cases h1 : a e S with
  | ok x S1 =>
    rw [h1] at q
    simp only [Res.bind] at q
    cases h2 : r e S1 with
    | ok ys S2 =>
      rw [h2] at q
      cases q
      simp [h e S1 ys _ h2]
    | err x S2 => rw [h2] at q; cases q
    | bad => rw [h2] at q; cases q
  | err x S1 => rw [h1] at q; cases q
  | bad => rw [h1] at q; cases q
def rTup (r : RA) : RE := fun e S => (r e S).bind fun xs S1 => .ok (.tup xs) S1
def rLst (r : RA) : RE := fun e S => (r e S).bind fun xs S1 => .ok (.lst xs) S1
def rLstM (r : RA) : RE := fun e S => (r e S).bind fun xs S1 => .ok (.loc S1.length) (S1 ++ [.lst xs])
section
variable {X : Cx} {C : Nat → Addr} {W : WX} {a : Expr} {es : List Expr} {ra : RE} {rs : RA} {pos : Pos}
theorem ea_nil : PA X [] (tA X.K C W rNil) := pa_nil.imp fun sg H Q h => by
  obtain ⟨e, S, io, d, s, p⟩ := h
  exact p.here d .nil
theorem ea_cons (ha : PE X a (tE X.K C W ra)) (hr : PA X es (tA X.K C W rs)) (hs : starEach (a :: es) X.env = (false, eval a X.env) :: starEach es X.env := by rfl) : PA X (a :: es) (tA X.K C W (rCons ra rs)) :=
  (pa_cons ha hr hs).imp fun sg H Q h => (tR.seq2 repM (fun _ x xs S => .ok (x :: xs) S) h fun _ _ => rfl).mono fun x H1 h1 => h1.mono fun y H2 ⟨e, S, io, x1, y1, d, s, r1, r2, p⟩ =>
    p _ H2 io (Ext.refl _ _) d (.cons r1 r2)
/-- what a thing laid anew wants -/
theorem new_tup {K : PySem.W.Frag} {C : Nat → Addr} {io : Io} {S : Store} {H : Hp} {xs : List D} {vs : List V} {p : Addr} (d : Den K C io S H) (r : Reps K C io (Fz io H) xs vs) (hp : H p = none) :
    Ext io H io (upd H p (.tup vs)) ∧ Den K C io S (upd H p (.tup vs)) ∧ Rep K C io (Fz io (upd H p (.tup vs))) (.tup xs) (.ref p) :=
  ⟨Ext.new d hp, d.new hp, .tup (.inl (.inl (by rw [Fz_out (d.fresh hp)]; exact upd_same))) (r.ext (Ext.new d hp))⟩
theorem new_lst {K : PySem.W.Frag} {C : Nat → Addr} {io : Io} {S : Store} {H : Hp} {xs : List D} {vs : List V} {p : Addr} (d : Den K C io S H) (r : Reps K C io (Fz io H) xs vs) (hp : H p = none) :
    Ext io H io (upd H p (.lst vs)) ∧ Den K C io S (upd H p (.lst vs)) ∧ Rep K C io (Fz io (upd H p (.lst vs))) (.lst xs) (.ref p) :=
  ⟨Ext.new d hp, d.new hp, .lst (.inl (.inl (by rw [Fz_out (d.fresh hp)]; exact upd_same))) (r.ext (Ext.new d hp))⟩
theorem new_lstM {K : PySem.W.Frag} {C : Nat → Addr} {io : Io} {S : Store} {H : Hp} {xs : List D} {vs : List V} {p : Addr} (d : Den K C io S H) (r : Reps K C io (Fz io H) xs vs) (hp : H p = none) :
    Ext io H (io.add p) (upd H p (.lst vs)) ∧ Den K C (io.add p) (S ++ [.lst xs]) (upd H p (.lst vs)) ∧ Rep K C (io.add p) (Fz (io.add p) (upd H p (.lst vs))) (.loc S.length) (.ref p) :=
  ⟨Ext.loc hp, d.loc hp ⟨vs, upd_same, r.ext (Ext.loc hp)⟩, .loc (by rw [← d.len]; show (io.l ++ [p])[io.l.length]? = some p; rw [List.getElem?_append_right (Nat.le_refl _)]; simp)⟩
theorem al_le {n : Nat} {r : RA} {e : Env} {S S' : Store} {xs : List D} (h : AL n r) (hn : n ≤ sizeLine) (q : r e S = .ok xs S') : xs.length ≤ sizeLine := by rw [h e S xs S' q]; exact hn
/-- arguments, with their number -/
theorem tA.alen {n : Nat} {K : PySem.W.Frag} {C : Nat → Addr} {sg : L2.St} {H : Hp} {Q : List V → Hp → Prop} (hn : AL n rs) (h : tA K C W rs sg H Q) : tA K C W rs sg H (fun vs H1 => vs.length = n ∧ Q vs H1) := by
  obtain ⟨e, S, io, d, s, p⟩ := h
  refine ⟨e, S, io, d, s, ?_⟩
  cases q : rs e S with
  | ok xs S1 =>
    rw [q] at p
    exact fun b H' io' x d' r => ⟨r.length.symm.trans (hn e S xs S1 q), p b H' io' x d' r⟩
  | err x S1 => rw [q] at p; exact p
  | bad => rw [q] at p; exact p
theorem ee_tup {n : Nat} {k} (h : PA X es (tA X.K C W rs)) (hn : AL n rs) (hz : n ≤ sizeLine := by decide) : PE X (.Tuple es k pos) (tE X.K C W (rTup rs)) :=
  (pe_tup h).imp fun sg H Q h => tR.mono (tA.alen hn (tR.seq1 (fun _ xs S => .ok (.tup xs) S) h fun _ _ => rfl)) fun vs H1 ⟨hl, e, S, io, xs, d, s, r1, p⟩ =>
    ⟨by rw [hl]; exact hz, fun q hq => let ⟨x, d', r'⟩ := new_tup d r1 hq; p _ _ _ x d' r'⟩
theorem ee_lst {n : Nat} (h : PA X es (tA X.K C W rs)) (hn : AL n rs) (hz : n ≤ sizeLine := by decide) : PE X (.List es pos) (tE X.K C W (rLst rs)) :=
  (pe_lst h).imp fun sg H Q h => tR.mono (tA.alen hn (tR.seq1 (fun _ xs S => .ok (.lst xs) S) h fun _ _ => rfl)) fun vs H1 ⟨hl, e, S, io, xs, d, s, r1, p⟩ =>
    ⟨by rw [hl]; exact hz, fun q hq => let ⟨x, d', r'⟩ := new_lst d r1 hq; p _ _ _ x d' r'⟩
theorem ee_lstM {n : Nat} (h : PA X es (tA X.K C W rs)) (hn : AL n rs) (hz : n ≤ sizeLine := by decide) : PE X (.List es pos) (tE X.K C W (rLstM rs)) :=
  (pe_lst h).imp fun sg H Q h => tR.mono (tA.alen hn (tR.seq1 (fun _ xs S => .ok (.loc S.length) (S ++ [.lst xs])) h fun _ _ => rfl)) fun vs H1 ⟨hl, e, S, io, xs, d, s, r1, p⟩ =>
    ⟨by rw [hl]; exact hz, fun q hq => let ⟨x, d', r'⟩ := new_lstM d r1 hq; p _ _ _ x d' r'⟩
end
end Ev
namespace Ev
open PySem PySem.Spec L2

/-! ### numbers -/
section
variable {X : Cx} {C : Nat → Addr}
/-- an operation that lays nothing -/
theorem opD_flat {g : Value → Value → Sem Value} {f : Store → D → D → Option D} {r : R2} (h : OpR X g r)
    (hf : ∀ io S H a b d x y, Den X.K C io S H → Rep X.K C io (Fz io H) a x → Rep X.K C io (Fz io H) b y → f S a b = some d → ∃ z, (∀ F, Rep X.K C io F d z) ∧ ∀ Q : VK, Q z H → r x y H Q) : OpD X C g f := by
  intro pins s sg H x y v u Q I rx ry ⟨io, S, a, b, d, dn, ra, rb, e, q⟩
  obtain ⟨z, rz, hq⟩ := hf io S H a b d x y dn ra rb e
  exact h pins s sg H x y v u Q I rx ry (hq Q (q z H io (Ext.refl _ _) dn (rz _)))
theorem OpD.or {g : Value → Value → Sem Value} {f f1 f2 : Store → D → D → Option D} (h1 : OpD X C g f1) (h2 : OpD X C g f2) (h : ∀ S a b d, f S a b = some d → f1 S a b = some d ∨ f2 S a b = some d) : OpD X C g f := by
  intro pins s sg H x y v u Q I rx ry ⟨io, S, a, b, d, dn, ra, rb, e, q⟩
  rcases h S a b d e with e | e
  · exact h1 pins s sg H x y v u Q I rx ry ⟨io, S, a, b, d, dn, ra, rb, e, q⟩
  · exact h2 pins s sg H x y v u Q I rx ry ⟨io, S, a, b, d, dn, ra, rb, e, q⟩
/-- two ints -/
def i2 (c : Int → Int → Bool) (g : Int → Int → D) : Store → D → D → Option D
  | _, .int i, .int j => if c i j = true then some (g i j) else none
  | _, _, _ => none
theorem i2_some {c : Int → Int → Bool} {g : Int → Int → D} {S : Store} {a b d : D} (h : i2 c g S a b = some d) : ∃ i j, a = .int i ∧ b = .int j ∧ c i j = true ∧ d = g i j := by
  cases a <;> cases b <;> simp only [i2] at h <;> first | cases h | skip
  rename_i i j
  split at h
  · cases h; exact ⟨i, j, rfl, rfl, by assumption, rfl⟩
  · cases h
theorem opD_i2 {g : Value → Value → Sem Value} {c : Int → Int → Bool} {Cc : Int → Int → Prop} {k : Int → Int → V} {kd : Int → Int → D} (h : OpR X g (rI Cc k)) (hc : ∀ i j, c i j = true → Cc i j) (hk : ∀ io F i j, Rep X.K C io F (kd i j) (k i j)) : OpD X C g (i2 c kd) :=
  opD_flat h fun io S H a b d x y dn ra rb e => by
    obtain ⟨i, j, rfl, rfl, hb, rfl⟩ := i2_some e
    cases ra; cases rb
    exact ⟨k i j, fun F => hk io F i j, fun Q q => ⟨i, j, rfl, rfl, hc i j hb, q⟩⟩
theorem opD_i20 {g : Value → Value → Sem Value} {k : Int → Int → V} {kd : Int → Int → D} (h : OpR X g (rI0 k)) (hk : ∀ io F i j, Rep X.K C io F (kd i j) (k i j)) : OpD X C g (i2 (fun _ _ => true) kd) :=
  opD_flat h fun io S H a b d x y dn ra rb e => by
    obtain ⟨i, j, rfl, rfl, hb, rfl⟩ := i2_some e
    cases ra; cases rb
    exact ⟨k i j, fun F => hk io F i j, fun Q q => ⟨i, j, rfl, rfl, q⟩⟩

/-! ### + -/
def addD (S : Store) (a b : D) : Option D := match a, b with
  | .int i, .int j => some (.int (i + j))
  | .str x, .str y => if x.length + y.length ≤ sizeLine then some (.str (x ++ y)) else none
  | .tup xs, .tup ys => if xs.length + ys.length ≤ sizeLine then some (.tup (xs ++ ys)) else none
  | a, b => match asL S a, asL S b with
    | some xs, some ys => if xs.length + ys.length ≤ sizeLine then some (.lst (xs ++ ys)) else none
    | _, _ => none
/-- two lists that are read, glued -/
def rCatL (K : PySem.W.Frag) : R2 := fun x y H Q => ∃ l b xs zs, x = .ref l ∧ y = .ref b ∧ SqL K H l xs ∧ SqL K H b zs ∧ xs.length + zs.length ≤ sizeLine ∧ ∀ p, H p = none → Q (.ref p) (upd H p (.lst (xs ++ zs)))
open PyProof.Rows PySem.P in
theorem op_catL : OpR X (binaryOp .Add) (rCatL X.K) := by
  intro pins s sg H x y v u Q I rx ry h
  obtain ⟨l, b, xs, zs, rfl, rfl, hH, hB, hz, q⟩ := h
  cases rx
  cases ry
  obtain ⟨its, r, ⟨⟨c1, d1, t1, sl1⟩, n, e, hc, hd, hs⟩, z⟩ := I.list hH
  obtain ⟨its2, r2, ⟨⟨c2, d2, t2, sl2⟩, n2, e2, hc2, hd2, hs2⟩, z2⟩ := I.list hB
  simp only at hc hd hs hc2 hd2 hs2
  subst hc hd hs hc2 hd2 hs2
  have hl := r.length
  have hl2 := r2.length
  have ea : its.toArray ++ its2.toArray = (its ++ its2).toArray := by simp
  refine concat_meets ⟨_, e, rfl⟩ ⟨_, e2, rfl⟩ noFill_list_add seq_list_add PySem.F.slot_list_add PySem.F.entry_list_add (PySem.F.args_list_add_2 _ _) (list_addW l b its.toArray its2.toArray n n2 none none sl1 sl2 (by rw [List.size_toArray, List.size_toArray]; omega)) ⟨e, e2, ?_⟩
  rw [ea]
  exact ⟨.ref _, _, I.lnew (t' := s.toks) (r.append r2) (by rw [List.length_append]; omega), rfl, q _ I.fresh⟩

theorem addD_ok : OpD X C (binaryOp .Add) addD := by
  intro pins s sg H x y v u Q I rx ry ⟨io, S, a, b, d, dn, ra, rb, e, q⟩
  unfold addD at e
  split at e
  · cases e; cases ra; cases rb
    exact op_add pins s sg H _ _ v u Q I rx ry ⟨_, _, rfl, rfl, q _ H io (Ext.refl _ _) dn (.int _)⟩
  · split at e
    · cases e; cases ra; cases rb
      exact op_add_str pins s sg H _ _ v u Q I rx ry ⟨_, _, rfl, rfl, by assumption, q _ H io (Ext.refl _ _) dn (.str _)⟩
    · cases e
  · split at e
    · rename_i xs ys hz
      cases e
      cases ra with
      | @tup pa va _ qa ra =>
      cases rb with
      | @tup pb vb _ qb rb =>
      have l1 := ra.length
      have l2 := rb.length
      refine op_catA pins s sg H _ _ v u Q I rx ry ⟨_, _, _, _, rfl, rfl, sqT_same (Fz_same _ _) qa, sqT_same (Fz_same _ _) qb, by omega, fun ex => ?_, fun nx ey => ?_, fun nx ny p hp => ?_⟩
      · subst ex
        cases xs with
        | nil => exact q _ H io (Ext.refl _ _) dn (.tup qb rb)
        | cons _ _ => cases l1
      · subst ey
        cases ys with
        | nil => rw [List.append_nil] at q; exact q _ H io (Ext.refl _ _) dn (.tup qa ra)
        | cons _ _ => cases l2
      · obtain ⟨x1, d1, r1⟩ := new_tup dn (ra.append rb) hp
        exact q _ _ io x1 d1 r1
    · cases e
  · split at e
    · rename_i xs ys e1 e2
      split at e
      · cases e
        obtain ⟨p1, v1, rfl, h1, r1⟩ := asL_rep e1 dn ra
        obtain ⟨p2, v2, rfl, h2, r2⟩ := asL_rep e2 dn rb
        have l1 := r1.length
        have l2 := r2.length
        refine op_catL pins s sg H _ _ v u Q I rx ry ⟨_, _, _, _, rfl, rfl, h1, h2, by omega, fun p hp => ?_⟩
        obtain ⟨x1, d1, r1⟩ := new_lst dn (r1.append r2) hp
        exact q _ _ io x1 d1 r1
      · cases e
    · cases e
/-! ### the other operators of numbers -/
def mulOk (i j : Int) : Bool := (decide (-(2 ^ 64) < i) && decide (i < 2 ^ 64)) || (decide (-(2 ^ 64) < j) && decide (j < 2 ^ 64))
def subD : Store → D → D → Option D := i2 (fun _ _ => true) fun i j => .int (i - j)
def mulD : Store → D → D → Option D := i2 mulOk fun i j => .int (i * j)
def divD : Store → D → D → Option D := i2 (fun _ j => decide (0 < j) && decide (j < 18446744073709551616)) fun i j => .int (i / j)
def modD : Store → D → D → Option D := i2 (fun _ j => decide (0 < j)) fun i j => .int (i % j)
def powOk (i j : Int) : Bool := decide (0 ≤ j) && decide (j ≤ 1000000) && decide (i.natAbs < 2 ^ 64)
def powD : Store → D → D → Option D := i2 powOk fun i j => .int (i ^ j.toNat)
def shlD : Store → D → D → Option D := i2 powOk fun i j => .int (i * 2 ^ j.toNat)
def shrD : Store → D → D → Option D := i2 (fun _ j => decide (0 ≤ j)) fun i j => .int (i / 2 ^ j.toNat)
def andD : Store → D → D → Option D := i2 (fun _ _ => true) fun i j => .int (Builtin.bitAnd i j)
def orD : Store → D → D → Option D := i2 (fun _ _ => true) fun i j => .int (Builtin.bitOr i j)
def xorD : Store → D → D → Option D := i2 (fun _ _ => true) fun i j => .int (Builtin.bitXor i j)
def ltD : Store → D → D → Option D := i2 (fun _ _ => true) fun i j => .bl (decide (i < j))
def leD : Store → D → D → Option D := i2 (fun _ _ => true) fun i j => .bl (decide (i ≤ j))
def gtD : Store → D → D → Option D := i2 (fun _ _ => true) fun i j => .bl (decide (j < i))
def geD : Store → D → D → Option D := i2 (fun _ _ => true) fun i j => .bl (decide (j ≤ i))
theorem subD_ok : OpD X C (binaryOp .Sub) subD := opD_i20 op_sub fun _ _ _ _ => .int _
theorem mulD_ok : OpD X C (binaryOp .Mult) mulD := opD_i2 op_mul (fun i j h => by simpa [mulOk, CMul] using h) fun _ _ _ _ => .int _
theorem divD_ok : OpD X C (binaryOp .FloorDiv) divD := opD_i2 op_fdivW (fun i j h => by
  simp only [Bool.and_eq_true, decide_eq_true_eq] at h
  exact wide_div (b := 64) h.1 (by omega) (by decide) (by decide)) fun _ _ _ _ => .int _
theorem modD_ok : OpD X C (binaryOp .Mod) modD := opD_i2 op_mod (fun i j h => by simpa using h) fun _ _ _ _ => .int _
theorem powOk_of {i j : Int} (h : powOk i j = true) : CPow i j := by
  unfold powOk at h
  rw [Bool.and_eq_true, Bool.and_eq_true, decide_eq_true_iff, decide_eq_true_iff, decide_eq_true_iff] at h
  exact ⟨h.1.1, h.1.2, h.2⟩
theorem powD_ok : OpD X C (binaryOp .Pow) powD := opD_i2 op_pow (fun i j h => powOk_of h) fun _ _ _ _ => .int _
theorem shlD_ok : OpD X C (binaryOp .LShift) shlD := opD_i2 op_shl (fun i j h => powOk_of h) fun _ _ _ _ => .int _
theorem shrD_ok : OpD X C (binaryOp .RShift) shrD := opD_i2 op_shr (fun i j h => by simpa using h) fun _ _ _ _ => .int _
theorem andD_ok : OpD X C (binaryOp .BitAnd) andD := opD_i20 op_and fun _ _ _ _ => .int _
theorem orD_ok : OpD X C (binaryOp .BitOr) orD := opD_i20 op_or fun _ _ _ _ => .int _
theorem xorD_ok : OpD X C (binaryOp .BitXor) xorD := opD_i20 op_xor fun _ _ _ _ => .int _
theorem ltD_ok : OpD X C (compareOp .Lt) ltD := opD_i20 op_lt fun _ _ _ _ => .bl _
theorem leD_ok : OpD X C (compareOp .LtE) leD := opD_i20 op_le fun _ _ _ _ => .bl _
theorem gtD_ok : OpD X C (compareOp .Gt) gtD := opD_i20 op_gt fun _ _ _ _ => .bl _
theorem geD_ok : OpD X C (compareOp .GtE) geD := opD_i20 op_ge fun _ _ _ _ => .bl _
def negD : Store → D → Option D
  | _, .int i => some (.int (-i))
  | _, _ => none
theorem negD_ok : UnD X C (unaryOp .USub) negD := by
  intro pins s sg H x v Q I rx ⟨io, S, a, d, dn, ra, e, q⟩
  cases ra <;> cases e
  exact un_neg pins s sg H _ v Q I rx ⟨_, rfl, q _ H io (Ext.refl _ _) dn (.int _)⟩

/-! ### is None; data, == -/
def isN : Store → D → D → Option D
  | _, .non, .non => some (.bl true)
  | _, .loc _, .non => some (.bl false)
  | _, .exn _ _ _, .non => some (.bl false)
  | _, .bl _, .non => some (.bl false)
  | _, .int _, .non => some (.bl false)
  | _, .str _, .non => some (.bl false)
  | _, .tup _, .non => some (.bl false)
  | _, .lst _, .non => some (.bl false)
  | _, .dct _ _, .non => some (.bl false)
  | _, .bl a, .bl b => some (.bl (decide (a = b)))
  | _, _, _ => none
def isNot : Store → D → D → Option D
  | _, .non, .non => some (.bl false)
  | _, .loc _, .non => some (.bl true)
  | _, .exn _ _ _, .non => some (.bl true)
  | _, .bl _, .non => some (.bl true)
  | _, .int _, .non => some (.bl true)
  | _, .str _, .non => some (.bl true)
  | _, .tup _, .non => some (.bl true)
  | _, .lst _, .non => some (.bl true)
  | _, .dct _ _, .non => some (.bl true)
  | _, .bl a, .bl b => some (.bl (!decide (a = b)))
  | _, _, _ => none
theorem isN_ok : OpD X C (compareOp .Is) isN := opD_flat (op_isN.or op_is_bl) fun io S H a b d x y dn ra rb e => by
  cases rb <;> cases ra <;> cases e <;> first
    | exact ⟨.bl true, fun _ => .bl _, fun Q q => .inl ⟨rfl, q⟩⟩
    | exact ⟨.bl false, fun _ => .bl _, fun Q q => .inl ⟨rfl, q⟩⟩
    | exact ⟨_, fun _ => .bl _, fun Q q => .inr ⟨_, _, rfl, rfl, q⟩⟩
theorem isNot_ok : OpD X C (compareOp .IsNot) isNot := opD_flat (op_notN.or op_isnot_bl) fun io S H a b d x y dn ra rb e => by
  cases rb <;> cases ra <;> cases e <;> first
    | exact ⟨.bl true, fun _ => .bl _, fun Q q => .inl ⟨rfl, q⟩⟩
    | exact ⟨.bl false, fun _ => .bl _, fun Q q => .inl ⟨rfl, q⟩⟩
    | exact ⟨_, fun _ => .bl _, fun Q q => .inr ⟨_, _, rfl, rfl, q⟩⟩
end
def pyAll (f : D → Option PyData) : List D → Option (List PyData)
  | [] => some []
  | x :: xs => (f x).bind fun y => (pyAll f xs).bind fun ys => some (y :: ys)
/-- a value as plain data -/
def pyD (S : Store) : Nat → D → Option PyData
  | _, .non => some .none
  | _, .bl b => some (.bool b)
  | _, .int i => some (.int i)
  | _, .str x => some (.str x)
  | n + 1, .tup xs => (pyAll (pyD S n) xs).bind fun ys => some (.tuple ys)
  | n + 1, .lst xs => (pyAll (pyD S n) xs).bind fun ys => some (.list ys)
  | n + 1, .loc k => match S[k]? with
    | some (.lst xs) => (pyAll (pyD S n) xs).bind fun ys => some (.list ys)
    | _ => none
  | _, _ => none
theorem pyAll_cons {f : D → Option PyData} {x : D} {xs : List D} {ps : List PyData} (h : pyAll f (x :: xs) = some ps) : ∃ y ys, f x = some y ∧ pyAll f xs = some ys ∧ ps = y :: ys := by
  simp only [pyAll] at h
  cases h1 : f x with
  | none => rw [h1] at h; cases h
  | some y =>
    rw [h1] at h
    cases h2 : pyAll f xs with
    | none => rw [h2] at h; cases h
    | some ys => rw [h2] at h; cases h; exact ⟨y, ys, rfl, rfl, rfl⟩
theorem bind_some' {A B : Type} {o : Option A} {f : A → Option B} {b : B} (h : o.bind f = some b) : ∃ a, o = some a ∧ f a = some b := by
  cases o with
  | none => cases h
  | some a => exact ⟨a, rfl, h⟩
section
variable {X : Cx} {C : Nat → Addr} {io : Io} {S : Store} {H : Hp} {pins : List (Addr × Obj)} {sg : L2.St} {s : Shared}
theorem pyAll_reads {K : PySem.W.Frag} {C : Nat → Addr} {f : D → Option PyData} (hf : ∀ d v p, f d = some p → Rep K C io (Fz io H) d v → Dp K H v p ∧ p.plain = true) : ∀ {xs : List D} {vs : List V} {ps : List PyData}, pyAll f xs = some ps → Reps K C io (Fz io H) xs vs → DpAll K H vs ps ∧ PyData.plainAll ps = true
  | _, _, _, h, .nil => by cases h; exact ⟨.nil, rfl⟩
  | _, _, _, h, .cons r rs => by
    obtain ⟨y, ys, h1, h2, rfl⟩ := pyAll_cons h
    obtain ⟨a, b⟩ := hf _ _ _ h1 r
    obtain ⟨c, d⟩ := pyAll_reads hf h2 rs
    exact ⟨.cons a c, by simp only [PyData.plainAll, b, d, Bool.and_self]⟩
theorem pyD_reads {K : PySem.W.Frag} {C : Nat → Addr} (dn : Den K C io S H) : ∀ (n : Nat) (d : D) (v : V) (p : PyData), pyD S n d = some p → Rep K C io (Fz io H) d v → Dp K H v p ∧ p.plain = true := by
  intro n
  induction n with
  | zero =>
    intro d v p h r
    cases r <;> simp only [pyD] at h <;> cases h
    · exact ⟨.non, rfl⟩
    · exact ⟨.bl _, rfl⟩
    · exact ⟨.int _, rfl⟩
    · exact ⟨.str _, rfl⟩
  | succ n ih =>
    intro d v p h r
    cases r with
    | non => cases h; exact ⟨.non, rfl⟩
    | bl => cases h; exact ⟨.bl _, rfl⟩
    | int => cases h; exact ⟨.int _, rfl⟩
    | str => cases h; exact ⟨.str _, rfl⟩
    | tup q rs =>
      obtain ⟨ys, h1, h2⟩ := bind_some' h
      cases h2
      obtain ⟨a, b⟩ := pyAll_reads ih h1 rs
      exact ⟨.tup (sqT_same (Fz_same _ _) q) a, by simp only [PyData.plain]; exact b⟩
    | lst q rs =>
      obtain ⟨ys, h1, h2⟩ := bind_some' h
      cases h2
      obtain ⟨a, b⟩ := pyAll_reads ih h1 rs
      exact ⟨.lst ((Fz_same _ _).seq q) a, by simp only [PyData.plain]; exact b⟩
    | @loc k a q =>
      simp only [pyD] at h
      split at h
      · rename_i xs e
        obtain ⟨ys, h1, h2⟩ := bind_some' h
        cases h2
        obtain ⟨vs, e1, rs⟩ := dn.obj k _ a e q
        obtain ⟨a, b⟩ := pyAll_reads ih h1 rs
        exact ⟨.lst (.of e1) a, by simp only [PyData.plain]; exact b⟩
      · cases h
    | dct => cases h
    | exn0 => cases h
    | exnF => cases h
theorem pyAll_depth {f : D → Option PyData} {n : Nat} (hf : ∀ d p, f d = some p → p.depth ≤ n) : ∀ {xs : List D} {ps : List PyData}, pyAll f xs = some ps → PyData.depthAll ps ≤ n
  | [], _, h => by cases h; simp [PyData.depthAll]
  | x :: xs, _, h => by
    obtain ⟨y, ys, h1, h2, rfl⟩ := pyAll_cons h
    have a := hf _ _ h1
    have b := pyAll_depth hf h2
    simp only [PyData.depthAll]
    omega
theorem pyD_depth : ∀ (n : Nat) (d : D) (p : PyData), pyD S n d = some p → p.depth ≤ n := by
  intro n
  induction n with
  | zero => intro d p h; cases d <;> simp only [pyD] at h <;> cases h <;> simp [PyData.depth]
  | succ n ih =>
    intro d p h
    cases d with
    | non => cases h; simp [PyData.depth]
    | bl => cases h; simp [PyData.depth]
    | int => cases h; simp [PyData.depth]
    | str => cases h; simp [PyData.depth]
    | tup xs =>
      obtain ⟨ys, h1, h2⟩ := bind_some' h
      cases h2
      simp only [PyData.depth]
      exact Nat.succ_le_succ (pyAll_depth ih h1)
    | lst xs =>
      obtain ⟨ys, h1, h2⟩ := bind_some' h
      cases h2
      simp only [PyData.depth]
      exact Nat.succ_le_succ (pyAll_depth ih h1)
    | loc k =>
      simp only [pyD] at h
      split at h
      · obtain ⟨ys, h1, h2⟩ := bind_some' h
        cases h2
        simp only [PyData.depth]
        exact Nat.succ_le_succ (pyAll_depth ih h1)
      · cases h
    | dct => cases h
    | exn => cases h
/-- a value that reads as data -/
theorem reads_of (I : L2.Inv X pins sg H s) (dn : Den X.K C io S H) {n : Nat} {d : D} {v : V} {p : PyData} {u : Value} (h : pyD S n d = some p) (r : Rep X.K C io (Fz io H) d v) (ru : RelV v u) :
    (∃ as, Reads s.heap u p as) ∧ p.plain = true ∧ p.depth ≤ n := by
  obtain ⟨a, b⟩ := pyD_reads dn n d v p h r
  exact ⟨Dp.reads I p v u a ru, b, pyD_depth n d p h⟩
end
/-- how deep data may lie -/
def deepN : Nat := 60
def eqB (S : Store) (a b : D) : Option Bool := (pyD S deepN a).bind fun x => (pyD S deepN b).bind fun y => some (PyData.eqv x y)
def eqD (S : Store) (a b : D) : Option D := (eqB S a b).bind fun k => some (.bl k)
def neD (S : Store) (a b : D) : Option D := (eqB S a b).bind fun k => some (.bl (!k))
section
variable {X : Cx} {C : Nat → Addr}
theorem eqD_ok (hu : X.A.units + 64 < cLine) : OpD X C (compareOp .Eq) eqD := by
  intro pins s sg H x y v u Q I rx ry ⟨io, S, a, b, d, dn, ra, rb, e, q⟩
  obtain ⟨k, e1, e2⟩ := bind_some' e
  obtain ⟨p, h1, e1⟩ := bind_some' e1
  obtain ⟨p', h2, e1⟩ := bind_some' e1
  cases e1; cases e2
  obtain ⟨⟨as, r1⟩, b1, l1⟩ := reads_of I dn h1 ra rx
  obtain ⟨⟨bs, r2⟩, b2, l2⟩ := reads_of I dn h2 rb ry
  have hl : min p.depth p'.depth ≤ 60 := Nat.le_trans (Nat.min_le_left _ _) l1
  exact SeqAt.eq_plain r1 r2 b1 b2 (by omega) ⟨.bl _, H, I, rfl, q _ H io (Ext.refl _ _) dn (.bl _)⟩
theorem neD_ok (hu : X.A.units + 64 < cLine) : OpD X C (compareOp .NotEq) neD := by
  intro pins s sg H x y v u Q I rx ry ⟨io, S, a, b, d, dn, ra, rb, e, q⟩
  obtain ⟨k, e1, e2⟩ := bind_some' e
  obtain ⟨p, h1, e1⟩ := bind_some' e1
  obtain ⟨p', h2, e1⟩ := bind_some' e1
  cases e1; cases e2
  obtain ⟨⟨as, r1⟩, b1, l1⟩ := reads_of I dn h1 ra rx
  obtain ⟨⟨bs, r2⟩, b2, l2⟩ := reads_of I dn h2 rb ry
  have hl : min p.depth p'.depth ≤ 60 := Nat.le_trans (Nat.min_le_left _ _) l1
  exact SeqAt.ne_plain r1 r2 b1 b2 (by omega) ⟨.bl _, H, I, rfl, q _ H io (Ext.refl _ _) dn (.bl _)⟩
end
end Ev
namespace Ev
open PySem PySem.Spec L2

/-! ### chains of comparisons -/
abbrev RC := D → RE
def rLast (f : Store → D → D → Option D) (b : RE) : RC := fun x e S => (b e S).bind fun y S1 => ofO (f S1 x y) S1
def rLink (f : Store → D → D → Option D) (b : RE) (k : RC) : RC := fun x e S => (b e S).bind fun y S1 => (ofO ((f S1 x y).bind asB) S1).bind fun t S2 => if t = true then k y e S2 else .ok (.bl false) S2
def rChain (a : RE) (k : RC) : RE := fun e S => (a e S).bind fun x S1 => k x e S1
structure PCh (X : Cx) (C : Nat → Addr) (W : WX) (ops : List CmpOp) (es : List Expr) (r : RC) : Prop where
  run : ∀ (pos : Pos) (pins : List (Addr × Obj)) (s : Shared) (sg : L2.St) (H : Hp) (Q : VK) (x : V) (v : Value) (e : Env) (S : Store) (io : Io) (d : D), L2.Inv X pins sg H s → RelV x v → Den X.K C io S H → Slots X.K C io (Fz io H) e sg → Rep X.K C io (Fz io H) d x →
    Post X.K C (RepR X.K C) W sg io H (r d e S) Q → wpAny (model X.prog X.w) X.A (compareChain pos v ops (evalEach es X.env)) (EP X pins sg Q) X.xe s
  runT : ∀ (pos : Pos) (pins : List (Addr × Obj)) (s : Shared) (sg : L2.St) (H : Hp) (Q : Bool → Hp → Prop) (x : V) (v : Value) (e : Env) (S : Store) (io : Io) (d : D), L2.Inv X pins sg H s → RelV x v → Den X.K C io S H → Slots X.K C io (Fz io H) e sg → Rep X.K C io (Fz io H) d x →
    Post X.K C EqR W sg io H ((r d e S).bind fun z S1 => ofO (asB z) S1) Q → wpAny (model X.prog X.w) X.A (testChain pos v ops (evalEach es X.env)) (TP X pins sg Q) X.xe s
section
variable {X : Cx} {C : Nat → Addr} {W : WX} {a b b' c : Expr} {bs : List Expr} {ra rb : RE} {op op' : CmpOp} {ops : List CmpOp} {f : Store → D → D → Option D} {k : RC} {pos : Pos}
theorem Post.asB {K : PySem.W.Frag} {C : Nat → Addr} {sg : L2.St} {io : Io} {H : Hp} {z : D} {S : Store} {Q : Bool → Hp → Prop} (h : Post K C EqR W sg io H (Ev.ofO (Ev.asB z) S) Q) : ∃ t, Ev.asB z = some t ∧ ∀ H' io', Ext io H io' H' → Den K C io' S H' → Q t H' := by
  obtain ⟨t, e, p⟩ := h.ofO
  exact ⟨t, e, fun H' io' x d => p t H' io' x d rfl⟩
theorem ch_last (ho : OpD X C (compareOp op) f) (hb : PE X b (tE X.K C W rb)) : PCh X C W [op] [b] (rLast f rb) where
  run := fun pos pins s sg H Q x v e S io d I rx dn sl r p =>
    PyProof.Rows.chain_last (thn (hb.run pins s sg H _ I ⟨e, S, io, dn, sl, Post.bind (R := RepR X.K C) (k := fun y S1 => ofO (f S1 d y) S1) p⟩) fun u s1 ⟨y, H1, I1, r1, io1, S1, y1, x1, d1, q1, p1⟩ => by
      obtain ⟨z, ez, p1⟩ := p1.ofO
      exact ho pins s1 sg H1 x y v u Q I1 rx r1 ⟨io1, S1, d, y1, z, d1, r.ext x1, q1, ez, p1⟩)
  runT := fun pos pins s sg H Q x v e S io d I rx dn sl r p =>
    PyProof.Rows.test_last (thn (hb.run pins s sg H _ I ⟨e, S, io, dn, sl, Post.bind (R := RepR X.K C) (R' := EqR) (Q := Q) (k := fun y S1 => (ofO (f S1 d y) S1).bind fun z S2 => ofO (asB z) S2) (by rw [← bind_assoc]; exact p)⟩) fun u s1 ⟨y, H1, I1, r1, io1, S1, y1, x1, d1, q1, p1⟩ => by
      cases ez : f S1 d y1 with
      | none => rw [ez] at p1; exact p1.elim
      | some z =>
        rw [ez] at p1
        obtain ⟨t, et, p1⟩ := p1.asB
        refine thn (ho pins s1 sg H1 x y v u (fun w H' => w = .bl t ∧ Q t H') I1 rx r1 ⟨io1, S1, d, y1, z, d1, r.ext x1, q1, ez, fun w H' io' x' d' r' => ⟨asB_rep et r', p1 H' io' x' d'⟩⟩) fun w s2 ⟨w', H2, I2, r2, e2, q2⟩ => ?_
        subst e2
        cases r2
        exact wpAny_truthy_bool ⟨H2, I2, q2⟩)
theorem ch_link (ho : OpD X C (compareOp op) f) (hb : PE X b (tE X.K C W rb)) (hr : PCh X C W (op' :: ops) (b' :: bs) k) : PCh X C W (op :: op' :: ops) (b :: b' :: bs) (rLink f rb k) where
  run := fun pos pins s sg H Q x v e S io d I rx dn sl r p =>
    PyProof.Rows.chain_link (thn (hb.run pins s sg H _ I ⟨e, S, io, dn, sl, Post.bind (R := RepR X.K C) (k := fun y S1 => (ofO ((f S1 d y).bind asB) S1).bind fun t S2 => if t = true then k y e S2 else .ok (.bl false) S2) p⟩) fun u s1 ⟨y, H1, I1, r1, io1, S1, y1, x1, d1, q1, p1⟩ => by
      cases ez : f S1 d y1 with
      | none => rw [ez] at p1; exact p1.elim
      | some z =>
        rw [ez] at p1
        cases et : asB z with
        | none => simp only [Option.bind, et] at p1; exact p1.elim
        | some t =>
        simp only [Option.bind, et, Ev.ofO, Res.bind] at p1
        refine thn (ho pins s1 sg H1 x y v u (fun w H' => w = .bl t ∧ ∃ io', Ext io1 H1 io' H' ∧ Den X.K C io' S1 H') I1 rx r1 ⟨io1, S1, d, y1, z, d1, r.ext x1, q1, ez, fun w H' io' x' d' r' => ⟨asB_rep et r', io', x', d'⟩⟩) fun w s2 ⟨w', H2, I2, r2, e2, io2, x2, d2⟩ => ?_
        subst e2
        cases r2
        refine wpAny_truthy_bool ?_
        cases t with
        | true => exact hr.run pos pins s2 sg H2 Q y u e S1 io2 y1 I2 r1 d2 ((sl.ext x1).ext x2) (q1.ext x2) (p1.ext x2)
        | false => exact ⟨.bl false, H2, I2, rfl, p1 _ H2 io2 x2 d2 (.bl _)⟩)
  runT := fun pos pins s sg H Q x v e S io d I rx dn sl r p =>
    PyProof.Rows.test_link (thn (hb.run pins s sg H _ I ⟨e, S, io, dn, sl, Post.bind (R := RepR X.K C) (R' := EqR) (Q := Q) (k := fun y S1 => ((ofO ((f S1 d y).bind asB) S1).bind fun t S2 => if t = true then k y e S2 else .ok (.bl false) S2).bind fun z S2 => ofO (asB z) S2) (by rw [← bind_assoc]; exact p)⟩) fun u s1 ⟨y, H1, I1, r1, io1, S1, y1, x1, d1, q1, p1⟩ => by
      cases ez : f S1 d y1 with
      | none => rw [ez] at p1; exact p1.elim
      | some z =>
        rw [ez] at p1
        cases et : asB z with
        | none => simp only [Option.bind, et] at p1; exact p1.elim
        | some t =>
        simp only [Option.bind, et, Ev.ofO, Res.bind] at p1
        refine thn (ho pins s1 sg H1 x y v u (fun w H' => w = .bl t ∧ ∃ io', Ext io1 H1 io' H' ∧ Den X.K C io' S1 H') I1 rx r1 ⟨io1, S1, d, y1, z, d1, r.ext x1, q1, ez, fun w H' io' x' d' r' => ⟨asB_rep et r', io', x', d'⟩⟩) fun w s2 ⟨w', H2, I2, r2, e2, io2, x2, d2⟩ => ?_
        subst e2
        cases r2
        refine wpAny_truthy_bool ?_
        cases t with
        | true => exact hr.runT pos pins s2 sg H2 Q y u e S1 io2 y1 I2 r1 d2 ((sl.ext x1).ext x2) (q1.ext x2) (p1.ext x2)
        | false => exact ⟨H2, I2, p1 _ H2 io2 x2 d2 rfl⟩)
theorem ee_chain (ha : PE X a (tE X.K C W ra)) (hr : PCh X C W (op :: op' :: ops) (b :: b' :: bs) k) (hm : lastMarks (op :: op' :: ops) (b :: b' :: bs) = false := by with_unfolding_all rfl) : PE X (.Compare a (op :: op' :: ops) (b :: b' :: bs) pos) (tE X.K C W (rChain ra k)) :=
  ⟨fun pins s sg H Q I h => PyProof.Rows.Compare_chain (thn (ha.run pins s sg H _ I (tR.seq1 (R := RepR X.K C) (fun e x S => k x e S) h fun _ _ => rfl)) fun v s1 ⟨x, H1, I1, r1, e, S, io, x1, d, sl, q, p⟩ =>
    hr.run pos pins s1 sg H1 Q x v e S io x1 I1 r1 d sl q p) hm⟩
theorem et_chain (ha : PE X a (tE X.K C W ra)) (hr : PCh X C W (op :: op' :: ops) (b :: b' :: bs) k) (hm : lastMarks (op :: op' :: ops) (b :: b' :: bs) = false := by with_unfolding_all rfl) : PT X (.Compare a (op :: op' :: ops) (b :: b' :: bs) pos) (tT X.K C W (rTest (rChain ra k))) :=
  ⟨fun pins s sg H Q I h => PyProof.Rows.isTrue_chain (thn (ha.run pins s sg H _ I (tR.seq1 (R := RepR X.K C) (fun e x S => (k x e S).bind fun z S1 => ofO (asB z) S1) h fun e S => by
      show (rChain ra k e S).bind _ = _
      unfold rChain
      rw [bind_assoc])) fun v s1 ⟨x, H1, I1, r1, e, S, io, x1, d, sl, q, p⟩ =>
    hr.runT pos pins s1 sg H1 Q x v e S io x1 I1 r1 d sl q p) hm⟩
end

/-! ### calls of built-ins by values -/
section
variable {X : Cx} {C : Nat → Addr} {W : WX} {e : Expr} {es : List Expr} {rs : RA} {x : Str} {p pos : Pos} {bid T : String} {f : Store → List D → Option D}
theorem ee_callB (hc : CallD X C (.builtin bid) f) (hg : Gl X x) (hm : X.mg x = none) (hv : bootBuiltins x = some (.builtin bid)) (ha : PA X (e :: es) (tA X.K C W rs)) (hn : x ≠ "__name__" := by decide) (hdb : (x == ("__debug__" : Str)) = false := by decide)
    (he : starEach (e :: es) X.env = (false, eval e X.env) :: starEach es X.env := by rfl) (hpl : (backTo pos (starEach es X.env)).any (·.1) = false := by rfl) : PE X (.Call (.Name x p) (e :: es) [] pos) (tE X.K C W (rCal f rs)) :=
  (pe_callB hc hg hm hv ha hn hdb he hpl).imp fun sg H Q h => (tR.seq1 (R := RepsR X.K C) (fun _ xs S => ofO (f S xs) S) h fun _ _ => rfl).mono fun vs H1 ⟨e, S, io, x1, d, s, r1, p⟩ => by
    obtain ⟨z, ez, p⟩ := p.ofO
    exact ⟨io, S, x1, z, d, r1, ez, p⟩
theorem ee_callTy (hc : CallD X C (.type T) f) (hg : Gl X x) (hm : X.mg x = none) (hv : bootBuiltins x = some (.type T)) (ha : PA X (e :: es) (tA X.K C W rs)) (hn : x ≠ "__name__" := by decide) (hdb : (x == ("__debug__" : Str)) = false := by decide)
    (he : starEach (e :: es) X.env = (false, eval e X.env) :: starEach es X.env := by rfl) (hpl : (backTo pos (starEach es X.env)).any (·.1) = false := by rfl) : PE X (.Call (.Name x p) (e :: es) [] pos) (tE X.K C W (rCal f rs)) :=
  (pe_callTy hc hg hm hv ha hn hdb he hpl).imp fun sg H Q h => (tR.seq1 (R := RepsR X.K C) (fun _ xs S => ofO (f S xs) S) h fun _ _ => rfl).mono fun vs H1 ⟨e, S, io, x1, d, s, r1, p⟩ => by
    obtain ⟨z, ez, p⟩ := p.ofO
    exact ⟨io, S, x1, z, d, r1, ez, p⟩
/-- a call that lays nothing -/
theorem callD_flat {g : Value} {r : List V → Hp → VK → Prop} (h : CallR X g r)
    (hf : ∀ io S H as d xs, Den X.K C io S H → Reps X.K C io (Fz io H) as xs → f S as = some d → ∃ z, (∀ F, Rep X.K C io F d z) ∧ ∀ Q : VK, Q z H → r xs H Q) : CallD X C g f := by
  intro pins s sg H xs us Q I rx ⟨io, S, as, d, dn, ra, e, q⟩
  obtain ⟨z, rz, hq⟩ := hf io S H as d xs dn ra e
  exact h pins s sg H xs us Q I rx (hq Q (q z H io (Ext.refl _ _) dn (rz _)))
def absD : Store → List D → Option D
  | _, [.int i] => some (.int (if i < 0 then -i else i))
  | _, _ => none
theorem reps1 {K : PySem.W.Frag} {C : Nat → Addr} {io : Io} {F : Hp} {a : D} {xs : List V} (r : Reps K C io F [a] xs) : ∃ v, xs = [v] ∧ Rep K C io F a v := by
  cases r with
  | cons h t => cases t; exact ⟨_, rfl, h⟩
theorem reps2 {K : PySem.W.Frag} {C : Nat → Addr} {io : Io} {F : Hp} {a b : D} {xs : List V} (r : Reps K C io F [a, b] xs) : ∃ v u, xs = [v, u] ∧ Rep K C io F a v ∧ Rep K C io F b u := by
  cases r with
  | cons h t => obtain ⟨u, rfl, h2⟩ := reps1 t; exact ⟨_, u, rfl, h, h2⟩
theorem absD_ok : CallD X C (.builtin "abs") absD := callD_flat call_abs fun io S H as d xs dn ra e => by
  unfold absD at e
  split at e <;> cases e
  obtain ⟨v, rfl, h⟩ := reps1 ra
  cases h
  exact ⟨.int _, fun _ => .int _, fun Q q => ⟨_, rfl, q⟩⟩
def maxD2 : Store → List D → Option D
  | _, [.int i, .int j] => some (.int (if j > i then j else i))
  | _, _ => none
def minD2 : Store → List D → Option D
  | _, [.int i, .int j] => some (.int (if j < i then j else i))
  | _, _ => none
theorem maxD2_ok (hc : X.calm = true) : CallD X C (.builtin "max") maxD2 := callD_flat (call_max2 hc) fun io S H as d xs dn ra e => by
  unfold maxD2 at e
  split at e <;> cases e
  obtain ⟨v, u, rfl, h, h2⟩ := reps2 ra
  cases h; cases h2
  exact ⟨.int _, fun _ => .int _, fun Q q => ⟨_, _, rfl, q⟩⟩
theorem minD2_ok (hc : X.calm = true) : CallD X C (.builtin "min") minD2 := callD_flat (call_min2 hc) fun io S H as d xs dn ra e => by
  unfold minD2 at e
  split at e <;> cases e
  obtain ⟨v, u, rfl, h, h2⟩ := reps2 ra
  cases h; cases h2
  exact ⟨.int _, fun _ => .int _, fun Q q => ⟨_, _, rfl, q⟩⟩
def intD : Store → List D → Option D
  | _, [.int i] => some (.int i)
  | _, [.bl b] => some (.int (if b then 1 else 0))
  | _, _ => none
theorem intD_ok : CallD X C (.type "int") intD := callD_flat call_int1 fun io S H as d xs dn ra e => by
  unfold intD at e
  split at e <;> cases e
  · obtain ⟨v, rfl, h⟩ := reps1 ra
    cases h
    exact ⟨.int _, fun _ => .int _, fun Q q => .inl ⟨_, rfl, q⟩⟩
  · obtain ⟨v, rfl, h⟩ := reps1 ra
    cases h
    exact ⟨.int _, fun _ => .int _, fun Q q => .inr ⟨_, rfl, q⟩⟩
def lenD : Store → List D → Option D
  | _, [.str x] => if x.length ≤ sizeLine then some (.int x.length) else none
  | _, [.tup xs] => some (.int xs.length)
  | S, [a] => (asL S a).bind fun xs => some (.int xs.length)
  | _, _ => none
theorem lenD_ok : CallD X C (.builtin "len") lenD := callD_flat call_len fun io S H as d xs dn ra e => by
  unfold lenD at e
  split at e
  · split at e <;> cases e
    obtain ⟨v, rfl, h⟩ := reps1 ra
    cases h
    exact ⟨.int _, fun _ => .int _, fun Q q => ⟨_, _, rfl, ⟨by assumption, rfl⟩, q⟩⟩
  · cases e
    obtain ⟨v, rfl, h⟩ := reps1 ra
    cases h with
    | tup q rs => exact ⟨.int _, fun _ => .int _, fun Q q' => ⟨_, _, rfl, .inr ⟨_, sqT_same (Fz_same _ _) q, rs.length⟩, q'⟩⟩
  · obtain ⟨ys, e1, e2⟩ := bind_some' e
    cases e2
    obtain ⟨v, rfl, h⟩ := reps1 ra
    obtain ⟨a, vs, rfl, hq, rs⟩ := asL_rep e1 dn h
    exact ⟨.int _, fun _ => .int _, fun Q q' => ⟨_, _, rfl, .inl ⟨_, hq, rs.length⟩, q'⟩⟩
  · cases e
def asI : D → Option Int
  | .int i => some i
  | _ => none
def allI : List D → Option (List Int)
  | [] => some []
  | .int i :: r => (allI r).bind fun l => some (i :: l)
  | _ => none
theorem allI_rep {K : PySem.W.Frag} {C : Nat → Addr} {io : Io} {F : Hp} : ∀ {xs : List D} {vs : List V} {ns : List Int}, allI xs = some ns → Reps K C io F xs vs → vs = ns.map V.int ∧ xs = ns.map D.int
  | _, _, _, h, .nil => by cases h; exact ⟨rfl, rfl⟩
  | _, _, _, h, .cons r rs => by
    cases r <;> simp only [allI] at h <;> first | cases h | skip
    obtain ⟨l, h1, h2⟩ := bind_some' h
    cases h2
    obtain ⟨a, b⟩ := allI_rep h1 rs
    exact ⟨by rw [a]; rfl, by rw [b]; rfl⟩
theorem allI_map (ns : List Int) : allI (ns.map D.int) = some ns := by
  induction ns with
  | nil => rfl
  | cons i r ih => simp [allI, ih]
def sumD : Store → List D → Option D
  | S, [a] => (asL S a).bind fun xs => (allI xs).bind fun ns => some (.int ns.sum)
  | _, _ => none
theorem sumD_ok (hc : X.calm = true) : CallD X C (.builtin "sum") sumD := callD_flat (cr_sum hc) fun io S H as d xs dn ra e => by
  unfold sumD at e
  split at e
  · obtain ⟨ys, e1, e2⟩ := bind_some' e
    obtain ⟨ns, e4, e3⟩ := bind_some' e2
    cases e3
    obtain ⟨v, rfl, h⟩ := reps1 ra
    obtain ⟨a, vs, rfl, hq, rs⟩ := asL_rep e1 dn h
    obtain ⟨rfl, _⟩ := allI_rep e4 rs
    exact ⟨.int _, fun _ => .int _, fun Q q' => ⟨_, _, rfl, hq, q'⟩⟩
  · cases e
def allB : List D → Option (List Bool)
  | [] => some []
  | .bl i :: r => (allB r).bind fun l => some (i :: l)
  | _ => none
theorem allB_rep {K : PySem.W.Frag} {C : Nat → Addr} {io : Io} {F : Hp} : ∀ {xs : List D} {vs : List V} {ns : List Bool}, allB xs = some ns → Reps K C io F xs vs → vs = ns.map V.bl ∧ xs = ns.map D.bl
  | _, _, _, h, .nil => by cases h; exact ⟨rfl, rfl⟩
  | _, _, _, h, .cons r rs => by
    cases r <;> simp only [allB] at h <;> first | cases h | skip
    obtain ⟨l, h1, h2⟩ := bind_some' h
    cases h2
    obtain ⟨a, b⟩ := allB_rep h1 rs
    exact ⟨by rw [a]; rfl, by rw [b]; rfl⟩
theorem allB_map (ns : List Bool) : allB (ns.map D.bl) = some ns := by
  induction ns with
  | nil => rfl
  | cons i r ih => simp [allB, ih]
def anyD : Store → List D → Option D
  | S, [a] => (asL S a).bind fun xs => (allB xs).bind fun ns => some (.bl (ns.any id))
  | _, _ => none
def allD : Store → List D → Option D
  | S, [a] => (asL S a).bind fun xs => (allB xs).bind fun ns => some (.bl (ns.all id))
  | _, _ => none
theorem anyD_ok (hc : X.calm = true) : CallD X C (.builtin "any") anyD := callD_flat (cr_any hc) fun io S H as d xs dn ra e => by
  unfold anyD at e
  split at e
  · obtain ⟨ys, e1, e2⟩ := bind_some' e
    obtain ⟨ns, e4, e3⟩ := bind_some' e2
    cases e3
    obtain ⟨v, rfl, h⟩ := reps1 ra
    obtain ⟨a, vs, rfl, hq, rs⟩ := asL_rep e1 dn h
    obtain ⟨rfl, _⟩ := allB_rep e4 rs
    exact ⟨.bl _, fun _ => .bl _, fun Q q' => ⟨_, _, rfl, hq, q'⟩⟩
  · cases e
theorem allD_ok (hc : X.calm = true) : CallD X C (.builtin "all") allD := callD_flat (cr_all hc) fun io S H as d xs dn ra e => by
  unfold allD at e
  split at e
  · obtain ⟨ys, e1, e2⟩ := bind_some' e
    obtain ⟨ns, e4, e3⟩ := bind_some' e2
    cases e3
    obtain ⟨v, rfl, h⟩ := reps1 ra
    obtain ⟨a, vs, rfl, hq, rs⟩ := asL_rep e1 dn h
    obtain ⟨rfl, _⟩ := allB_rep e4 rs
    exact ⟨.bl _, fun _ => .bl _, fun Q q' => ⟨_, _, rfl, hq, q'⟩⟩
  · cases e
end

/-! ### subscripts, slices -/
def ixD (S : Store) (a b : D) : Option D := match a, b with
  | .tup xs, .int i => atI xs i
  | .str z, .int i => if z.length ≤ sizeLine then (atI z.cps.toList i).bind fun c => some (.str ⟨#[c]⟩) else none
  | a, .int i => (asL S a).bind fun xs => atI xs i
  | _, _ => none
theorem atI_reps {K : PySem.W.Frag} {C : Nat → Addr} {io : Io} {F : Hp} {xs : List D} {vs : List V} {i : Int} {d : D} (h : atI xs i = some d) (r : Reps K C io F xs vs) : ∃ v, atI vs i = some v ∧ Rep K C io F d v := by
  unfold atI at h ⊢
  obtain ⟨j, h1, h2⟩ := bind_some' h
  obtain ⟨v, h3, h4⟩ := r.get h2
  exact ⟨v, by rw [← r.length, h1]; exact h3, h4⟩
def cutD (xs : List D) (lo hi : Option Int) : List D := (xs.drop (HT.sIx xs.length 0 lo)).take (HT.sIx xs.length xs.length hi - HT.sIx xs.length 0 lo)
theorem cut_reps {K : PySem.W.Frag} {C : Nat → Addr} {io : Io} {F : Hp} {xs : List D} {vs : List V} (r : Reps K C io F xs vs) (lo hi : Option Int) : Reps K C io F (cutD xs lo hi) (cutV vs lo hi) := by
  unfold cutD cutV
  rw [r.length]
  exact (r.drop _).take _
/-- a part of a slice -/
abbrev RO := Env → Store → Res (Option Int)
def rNoP : RO := fun _ S => .ok none S
def rPart (a : RE) : RO := fun e S => (a e S).bind fun x S1 => (ofO (asI x) S1).bind fun i S2 => .ok (some i) S2
abbrev tO (K : PySem.W.Frag) (C : Nat → Addr) (W : WX) (r : RO) : TO := tR K C EqR W r
def slD (S : Store) (a : D) (lo hi : Option Int) : Option D := match a with
  | .tup xs => some (.tup (cutD xs lo hi))
  | .str z => if z.length ≤ sizeLine then some (.str (cutS z lo hi)) else none
  | a => (asL S a).bind fun xs => some (.lst (cutD xs lo hi))
def rSl (a : RE) (lo hi : RO) : RE := fun e S => (a e S).bind fun x S1 => (lo e S1).bind fun l S2 => (hi e S2).bind fun h S3 => ofO (slD S3 x l h) S3
section
variable {X : Cx} {C : Nat → Addr} {W : WX} {a b : Expr} {ra rb : RE} {lo hi : Option Expr} {rl rh : RO} {pos p2 : Pos}
theorem ixD_ok : IxR X (fun x y H Q => ∃ io S a b d, Den X.K C io S H ∧ Rep X.K C io (Fz io H) a x ∧ Rep X.K C io (Fz io H) b y ∧ ixD S a b = some d ∧ ∀ v H' io', Ext io H io' H' → Den X.K C io' S H' → Rep X.K C io' (Fz io' H') d v → Q v H') := by
  intro value slice pins s sg H x y v u Q I rx ry ⟨io, S, a, b, d, dn, ra, rb, e, q⟩ hs
  refine ix_seq value slice pins s sg H x y v u Q I rx ry ?_ hs
  unfold ixD at e
  split at e
  · cases rb
    cases ra with
    | tup q1 rs =>
      obtain ⟨w, h1, h2⟩ := atI_reps e rs
      exact .inr (.inl ⟨_, _, _, w, rfl, rfl, sqT_same (Fz_same _ _) q1, h1, q _ H io (Ext.refl _ _) dn h2⟩)
  · split at e
    · obtain ⟨c, h1, h2⟩ := bind_some' e
      cases h2
      cases ra; cases rb
      exact .inr (.inr ⟨_, _, c, rfl, rfl, by assumption, h1, q _ H io (Ext.refl _ _) dn (.str _)⟩)
    · cases e
  · obtain ⟨xs, h1, h2⟩ := bind_some' e
    cases rb
    obtain ⟨p, vs, rfl, hq, rs⟩ := asL_rep h1 dn ra
    obtain ⟨w, h3, h4⟩ := atI_reps h2 rs
    exact .inl ⟨_, _, _, w, rfl, rfl, hq, h3, q _ H io (Ext.refl _ _) dn h4⟩
  · cases e
theorem ee_ix (ha : PE X a (tE X.K C W ra)) (hb : PE X b (tE X.K C W rb)) (hs : PlainIx b := by exact fun _ _ => rfl) : PE X (.Subscript a b pos) (tE X.K C W (rBin ixD ra rb)) :=
  (pe_ix ixD_ok ha hb hs).imp fun sg H Q h => (tR.seq2 repM (fun _ x y S => ofO (ixD S x y) S) h fun _ _ => rfl).mono fun x H1 h1 => h1.mono fun y H2 ⟨e, S, io, x1, y1, d, s, r1, r2, p⟩ => by
    obtain ⟨z, ez, p⟩ := p.ofO
    exact ⟨io, S, x1, y1, z, d, r1, r2, ez, p⟩
theorem eo_none : PO X none (tO X.K C W rNoP) := ⟨fun pins s sg H Q I h => po_none.run pins s sg H Q I (by
  obtain ⟨e, S, io, d, sl, p⟩ := h
  exact p none H io (Ext.refl _ _) d rfl)⟩
theorem eo_some (ha : PE X a (tE X.K C W ra)) : PO X (some a) (tO X.K C W (rPart ra)) := ⟨fun pins s sg H Q I h => (po_some ha).run pins s sg H Q I (by
  refine (tR.seq1 (R := RepR X.K C) (fun _ x S => (ofO (asI x) S).bind fun i S2 => .ok (some i) S2) h fun _ _ => rfl).mono fun x H1 ⟨e, S, io, x1, d, sl, r1, p⟩ => ?_
  cases x1 <;> simp only [asI, ofO, Res.bind] at p <;> first | exact p.elim | skip
  cases r1
  exact ⟨_, rfl, p _ H1 io (Ext.refl _ _) d rfl⟩)⟩
theorem slD_ok : SlR X (fun x l h H Q => ∃ io S a d, Den X.K C io S H ∧ Rep X.K C io (Fz io H) a x ∧ slD S a l h = some d ∧ ∀ v H' io', Ext io H io' H' → Den X.K C io' S H' → Rep X.K C io' (Fz io' H') d v → Q v H') := by
  have hr := (SlR.or (SlR.or (sl_list (X := X)) sl_tupA) sl_str)
  intro pins s sg H x v vl vu l h sl Q I rx h1 h2 h3 ⟨io, S, a, d, dn, ra, e, q⟩
  refine hr pins s sg H x v vl vu l h sl Q I rx h1 h2 h3 ?_
  unfold slD at e
  split at e
  · cases e
    cases ra with
    | tup q1 rs =>
      refine .inl (.inr ⟨_, _, rfl, sqT_same (Fz_same _ _) q1, fun hw => ?_, fun hw p hp => ?_⟩)
      · refine q _ H io (Ext.refl _ _) dn ?_
        rename_i xs va vs
        have e2 : cutD xs l h = xs := by
          unfold cutD
          rw [rs.length, hw.1, hw.2, List.drop_zero, Nat.sub_zero, ← rs.length, List.take_length]
        rw [e2]
        exact .tup q1 rs
      · obtain ⟨x1, d1, r1⟩ := new_tup dn (cut_reps rs l h) hp
        exact q _ _ io x1 d1 r1
  · split at e
    · cases e
      cases ra
      exact .inr ⟨_, rfl, by assumption, q _ H io (Ext.refl _ _) dn (.str _)⟩
    · cases e
  · obtain ⟨xs, e1, e2⟩ := bind_some' e
    cases e2
    obtain ⟨p, vs, rfl, hq, rs⟩ := asL_rep e1 dn ra
    refine .inl (.inl ⟨_, _, rfl, hq, fun p hp => ?_⟩)
    obtain ⟨x1, d1, r1⟩ := new_lst dn (cut_reps rs l h) hp
    exact q _ _ io x1 d1 r1
theorem ee_sl (ha : PE X a (tE X.K C W ra)) (hl : PO X lo (tO X.K C W rl)) (hh : PO X hi (tO X.K C W rh)) : PE X (.Subscript a (.Slice lo hi none p2) pos) (tE X.K C W (rSl ra rl rh)) :=
  (pe_slice slD_ok ha hl hh).imp fun sg H Q h => (tR.seq2 (R2 := EqR) repM (fun e x l S2 => (rh e S2).bind fun h S3 => ofO (slD S3 x l h) S3) h fun _ _ => rfl).mono fun x H1 h1 => h1.mono fun l H2 ⟨e, S, io, x1, l1, d, sl, r1, r2, p⟩ => by
    cases r2
    exact ⟨e, S, io, d, sl, p.bind.mono fun h H3 ⟨io3, S3, h3, x3, d3, r3, p3⟩ => by
      cases r3
      obtain ⟨z, ez, p3⟩ := p3.ofO
      exact ⟨io3, S3, x1, z, d3, r1.ext x3, ez, p3⟩⟩
end
end Ev
namespace Ev
open PySem PySem.Spec L2

/-! ### statements -/
inductive Fl where
  | nx (e : Env) (S : Store)
  | rt (d : D) (S : Store)
  | er (x : Exn) (e : Env) (S : Store)
  | bad
abbrev RS := Env → Store → Fl
def Res.fl {A : Type} (e : Env) : Res A → (A → Store → Fl) → Fl
  | .ok a S, k => k a S
  | .err x S, _ => .er x e S
  | .bad, _ => .bad
def Fl.andThen : Fl → RS → Fl
  | .nx e S, k => k e S
  | .rt d S, _ => .rt d S
  | .er x e S, _ => .er x e S
  | .bad, _ => .bad
def PostS (K : PySem.W.Frag) (C : Nat → Addr) (W : WX) (io : Io) (H : Hp) (f : Fl) (Dn : Ends) : Prop :=
  match f with
  | .nx e S => ∀ sg H' io', Ext io H io' H' → Den K C io' S H' → Slots K C io' (Fz io' H') e sg → Dn.nx sg H'
  | .rt d S => ∀ v H' io', Ext io H io' H' → Den K C io' S H' → Rep K C io' (Fz io' H') d v → Dn.rt v H'
  | .er x e S => ∀ cls dd sg H' io', Ext io H io' H' → Den K C io' S H' → Slots K C io' (Fz io' H') e sg → XR K C io' H' x cls dd → W cls dd sg H'
  | .bad => False
def tS (K : PySem.W.Frag) (C : Nat → Addr) (W : WX) (r : RS) : TS := fun Dn sg H =>
  ∃ (e : Env) (S : Store) (io : Io), Den K C io S H ∧ Slots K C io (Fz io H) e sg ∧ PostS K C W io H (r e S) Dn
section
variable {K : PySem.W.Frag} {C : Nat → Addr} {A B : Type} {R : Io → Hp → A → B → Prop} {W : WX} {sg : L2.St} {io io' : Io} {H H' : Hp} {Dn : Ends}
theorem PostS.ext {f : Fl} (e : Ext io H io' H') (h : PostS K C W io H f Dn) : PostS K C W io' H' f Dn := by
  cases f with
  | nx a S => exact fun sg H2 io2 x d q => h sg H2 io2 (e.trans x) d q
  | rt a S => exact fun sg H2 io2 x d q => h sg H2 io2 (e.trans x) d q
  | er x a S => exact fun c dd sg H2 io2 x' d q => h c dd sg H2 io2 (e.trans x') d q
  | bad => exact h
theorem PostS.of_res {r : Res A} {e : Env} {k : A → Store → Fl} (h : PostS K C W io H (r.fl e k) Dn) (s : Slots K C io (Fz io H) e sg) :
    Post K C R W sg io H r (fun b H1 => ∃ io1 S1 a, Ext io H io1 H1 ∧ Den K C io1 S1 H1 ∧ R io1 (Fz io1 H1) a b ∧ PostS K C W io1 H1 (k a S1) Dn) := by
  cases r with
  | ok a S => exact fun b H2 io2 x d q => ⟨io2, S, a, x, d, q, PostS.ext x h⟩
  | err x S => exact fun cls dd H2 io2 x' d q => h cls dd sg H2 io2 x' d (s.ext x') q
  | bad => exact h
/-- an expression, then the rest -/
theorem tS.seq {r : Env → Store → Res A} {m : RS} (k : Env → A → Store → Fl) (h : tS K C W m Dn sg H) (e' : ∀ e S, m e S = (r e S).fl e (k e)) :
    tR K C R W r sg H fun b H1 => ∃ e S io a, Den K C io S H1 ∧ Slots K C io (Fz io H1) e sg ∧ R io (Fz io H1) a b ∧ PostS K C W io H1 (k e a S) Dn := by
  obtain ⟨e, S, io, d, s, p⟩ := h
  rw [e'] at p
  exact ⟨e, S, io, d, s, (p.of_res s).mono fun b H1 ⟨io1, S1, a, x, d1, q, p1⟩ => ⟨e, S1, io1, a, d1, s.ext x, q, p1⟩⟩
end
def sNil : RS := fun e S => .nx e S
def sSeq (a b : RS) : RS := fun e S => (a e S).andThen b
def sIf (t : RT) (a b : RS) : RS := fun e S => (t e S).fl e fun k S1 => if k = true then a e S1 else b e S1
def sRet (a : RE) : RS := fun e S => (a e S).fl e fun d S1 => .rt d S1
def sRetN : RS := fun _ S => .rt .non S
def sExp (a : RE) : RS := fun e S => (a e S).fl e fun _ S1 => .nx e S1
def sSet (i : Nat) (a : RE) : RS := fun e S => (a e S).fl e fun d S1 => .nx (e.set i (some d)) S1
section
variable {X : Cx} {C : Nat → Addr} {W : WX} {st : Stmt} {rest sa sb : List Stmt} {ma mb : RS} {a c : Expr} {ra : RE} {tc : RT} {pos : Pos}
theorem es_nil : PSs X [] (tS X.K C W sNil) := pss_nil.imp fun Dn sg H ⟨e, S, io, d, s, p⟩ => p sg H io (Ext.refl _ _) d s
theorem es_cons (h1 : PS X st (tS X.K C W ma)) (h2 : PSs X rest (tS X.K C W mb)) : PSs X (st :: rest) (tS X.K C W (sSeq ma mb)) :=
  (pss_cons h1 h2).imp fun Dn sg H ⟨e, S, io, d, s, p⟩ => ⟨e, S, io, d, s, by
    unfold sSeq at p
    cases q : ma e S with
    | nx e1 S1 =>
      rw [q] at p
      exact fun sg' H' io' x d' s' => ⟨e1, S1, io', d', s', PostS.ext x p⟩
    | rt d1 S1 => rw [q] at p; exact p
    | er x e1 S1 => rw [q] at p; exact p
    | bad => rw [q] at p; exact p⟩
theorem es_one (h1 : PS X st (tS X.K C W ma)) : PSs X [st] (tS X.K C W ma) := pss_one h1
theorem s_pass : PS X (.Pass pos) (tS X.K C W sNil) := ps_pass.imp fun Dn sg H ⟨e, S, io, d, s, p⟩ => p sg H io (Ext.refl _ _) d s
theorem s_if (hc : PT X c (tT X.K C W tc)) (ha : PSs X sa (tS X.K C W ma)) (hb : PSs X sb (tS X.K C W mb)) : PS X (.If c sa sb pos) (tS X.K C W (sIf tc ma mb)) :=
  (ps_if hc ha hb).imp fun Dn sg H h => (tS.seq (R := EqR) (fun e k S1 => if k = true then ma e S1 else mb e S1) h fun _ _ => rfl).mono fun k H1 ⟨e, S, io, k1, d, s, q, p⟩ => by
    cases q
    cases k with
    | true => exact ⟨e, S, io, d, s, p⟩
    | false => exact ⟨e, S, io, d, s, p⟩
theorem s_ret (ha : PE X a (tE X.K C W ra)) : PS X (.Return (some a) pos) (tS X.K C W (sRet ra)) :=
  (ps_ret ha).imp fun Dn sg H h => (tS.seq (R := RepR X.K C) (fun e d S1 => .rt d S1) h fun _ _ => rfl).mono fun v H1 ⟨e, S, io, k1, d, s, q, p⟩ => p v H1 io (Ext.refl _ _) d q
theorem s_retN : PS X (.Return none pos) (tS X.K C W sRetN) := ps_retN.imp fun Dn sg H ⟨e, S, io, d, s, p⟩ => p .non H io (Ext.refl _ _) d .non
theorem s_exp (ha : PE X a (tE X.K C W ra)) (hs : swapsWith a none pos.line X.env = pure false := by rfl) : PS X (.Expr a pos) (tS X.K C W (sExp ra)) :=
  (ps_expr ha hs).imp fun Dn sg H h => (tS.seq (R := RepR X.K C) (fun e d S1 => .nx e S1) h fun _ _ => rfl).mono fun v H1 ⟨e, S, io, k1, d, s, q, p⟩ => p sg H1 io (Ext.refl _ _) d s
theorem s_set (i : Nat) {x : Str} {pos' : Pos} (hN : X.N.Nodup) (ha : PE X a (tE X.K C W ra)) (hi : X.N[i]? = some x := by rfl) (hx : Loc X.env.scope x := by first | exact Or.inl rfl | exact Or.inr rfl) (hs : swapsWith a (some (.Name x pos')) pos.line X.env = pure false := by rfl)
    (hf : X.fn x = true ∨ X.env.scope.names.lookup x = some .local := by first | exact .inl rfl | exact .inr rfl | assumption) : PS X (.Assign [.Name x pos'] a pos) (tS X.K C W (sSet i ra)) :=
  (ps_set hN hi hx ha hs hf).imp fun Dn sg H h => (tS.seq (R := RepR X.K C) (fun e d S1 => .nx (e.set i (some d)) S1) h fun _ _ => rfl).mono fun v H1 ⟨e, S, io, k1, d, s, q, p⟩ => p _ H1 io (Ext.refl _ _) d (s.set i q)
end

/-! ### targets -/
def setAll {A : Type} : List Nat → List A → List (Option A) → List (Option A)
  | i :: is, d :: ds, e => setAll is ds (e.set i (some d))
  | _, _, e => e
/-- the items that a value is taken apart to -/
def parts (S : Store) : D → Option (List D)
  | .tup xs => some xs
  | d => asL S d
inductive Tg where
  | nm (i : Nat)
  | tp (is : List Nat)
def bindT (S : Store) (d : D) (e : Env) : Tg → Option Env
  | .nm i => some (e.set i (some d))
  | .tp is => (parts S d).bind fun ds => if ds.length = is.length then some (setAll is ds e) else none
theorem setAll_slots {K : PySem.W.Frag} {C : Nat → Addr} {io : Io} {F : Hp} : ∀ (is : List Nat) {ds : List D} {vs : List V} {e : Env} {sg : L2.St}, Slots K C io F e sg → Reps K C io F ds vs → Slots K C io F (setAll is ds e) (setAll is vs sg)
  | [], _, _, _, _, s, _ => s
  | _ :: _, _, _, _, _, s, .nil => s
  | i :: is, _, _, _, _, s, .cons h r => setAll_slots is (s.set i h) r
def Tg.ixs : Tg → List Nat
  | .nm i => [i]
  | .tp is => is
/-- the slots but for the target's are the same -/
def Agree (t : Tg) (sg sg' : L2.St) : Prop := ∀ vs : List Nat, (∀ i ∈ t.ixs, i ∈ vs) → wipe sg' vs = wipe sg vs
theorem wipe_get (sg : L2.St) (j : Nat) : ∀ vs : List Nat, (wipe sg vs)[j]? = if j ∈ vs then (if j < sg.length then some none else none) else sg[j]?
  | [] => by simp [wipe]
  | v :: vs => by
    have ih := wipe_get sg j vs
    have hl := wipe_length sg vs
    unfold wipe
    by_cases hv : j = v
    · subst hv
      by_cases hj : j < sg.length
      · rw [List.getElem?_set_self (by rw [hl]; exact hj)]
        simp [hj]
      · rw [List.getElem?_eq_none (by rw [List.length_set, hl]; omega)]
        simp [hj]
    · rw [List.getElem?_set_ne (Ne.symm hv), ih]
      simp [hv]
theorem wipe_set (sg : L2.St) (i : Nat) (x : Option V) {vs : List Nat} (h : i ∈ vs) : wipe (sg.set i x) vs = wipe sg vs := by
  apply List.ext_getElem?
  intro j
  rw [wipe_get, wipe_get, List.length_set]
  by_cases hj : j ∈ vs
  · simp [hj]
  · have : i ≠ j := fun e => hj (e ▸ h)
    rw [if_neg hj, if_neg hj, List.getElem?_set_ne this]
theorem wipe_setAll : ∀ (is : List Nat) (us : List V) (sg : L2.St) {vs : List Nat}, (∀ i ∈ is, i ∈ vs) → wipe (setAll is us sg) vs = wipe sg vs
  | [], _, _, _, _ => by simp [setAll]
  | i :: is, [], sg, vs, h => by simp [setAll]
  | i :: is, u :: us, sg, vs, h => by
    show wipe (setAll is us (sg.set i (some u))) vs = wipe sg vs
    rw [wipe_setAll is us _ (fun j hj => h j (List.mem_cons_of_mem _ hj)), wipe_set _ _ _ (h i List.mem_cons_self)]
def GD (X : Cx) (C : Nat → Addr) (tg : Expr) (t : Tg) : Prop :=
  PG X tg (fun v sg H Q => ∃ e S io d e', Den X.K C io S H ∧ Slots X.K C io (Fz io H) e sg ∧ Rep X.K C io (Fz io H) d v ∧ bindT S d e t = some e' ∧ ∀ sg', Slots X.K C io (Fz io H) e' sg' → Agree t sg sg' → Q sg' H)
theorem _root_.L2.PG.imp {X : Cx} {e : Expr} {t t' : TG} (h : PG X e t) (hi : ∀ v sg H Q, t' v sg H Q → t v sg H Q) : PG X e t' := ⟨fun pins s sg H v u Q I r hw => h.run pins s sg H v u Q I r (hi _ _ _ _ hw)⟩
theorem _root_.L2.PG.or {X : Cx} {e : Expr} {t t' : TG} (h : PG X e t) (h' : PG X e t') : PG X e (fun v sg H Q => t v sg H Q ∨ t' v sg H Q) := ⟨fun pins s sg H v u Q I r hw => hw.elim (h.run pins s sg H v u Q I r) (h'.run pins s sg H v u Q I r)⟩
section
variable {X : Cx} {C : Nat → Addr} {W : WX} {pos : Pos}
theorem g_nm (i : Nat) {x : Str} (hN : X.N.Nodup) (hi : X.N[i]? = some x := by rfl) (hx : Loc X.env.scope x := by first | exact Or.inl rfl | exact Or.inr rfl) (hf : X.fn x = true ∨ X.env.scope.names.lookup x = some .local := by first | exact .inl rfl | exact .inr rfl | assumption) : GD X C (.Name x pos) (.nm i) :=
  (pg_name hN hi hx hf).imp fun v sg H Q ⟨e, S, io, d, e', dn, s, r, b, q⟩ => by cases b; exact q _ (s.set i r) fun vs h => wipe_set _ _ _ (h i (by simp [Tg.ixs]))
/-- names, one after another -/
def gAll (is : List Nat) : TGs := fun vs sg H Q => vs.length = is.length ∧ Q (setAll is vs sg) H
theorem gs_nil : PGs X [] (gAll []) := ⟨fun pins s sg H vs us Q I r h => pgs_nil.run pins s sg H vs us Q I r ⟨List.eq_nil_of_length_eq_zero h.1, by
  have := List.eq_nil_of_length_eq_zero h.1
  subst this
  exact h.2⟩⟩
theorem gs_cons (i : Nat) {is : List Nat} {x : Str} {es : List Expr} (hN : X.N.Nodup) (h2 : PGs X es (gAll is)) (hi : X.N[i]? = some x := by rfl) (hx : Loc X.env.scope x := by first | exact Or.inl rfl | exact Or.inr rfl) (hf : X.fn x = true ∨ X.env.scope.names.lookup x = some .local := by first | exact .inl rfl | exact .inr rfl | assumption) :
    PGs X (.Name x pos :: es) (gAll (i :: is)) := ⟨fun pins s sg H vs us Q I r h => (pgs_cons (pg_name hN hi hx hf) h2).run pins s sg H vs us Q I r (by
  obtain ⟨hl, h⟩ := h
  cases vs with
  | nil => cases hl
  | cons v vr => exact ⟨v, vr, rfl, by simpa using hl, h⟩)⟩
theorem g_tp {is : List Nat} {es : List Expr} {k : Nat} (hc : X.calm = true) (h : PGs X es (gAll is)) (hn : (assignEach es X.env).length = is.length := by rfl) (hst : (assignEach es X.env).findIdx? (·.1) = none := by rfl) : GD X C (.Tuple es k pos) (.tp is) :=
  ((pg_tup hc h hn hst).or (pg_lst hc h hn hst)).imp fun v sg H Q ⟨e, S, io, d, e', dn, s, r, b, q⟩ => by
    obtain ⟨ds, h1, h2⟩ := bind_some' b
    split at h2
    · rename_i hl
      cases h2
      unfold parts at h1
      split at h1
      · cases h1
        cases r with
        | tup q1 rs => exact .inl ⟨_, _, rfl, sqT_same (Fz_same _ _) q1, by rw [← rs.length]; exact hl, by rw [← rs.length]; exact hl, q _ (setAll_slots is s rs) fun vs h => wipe_setAll is _ _ h⟩
      · obtain ⟨p, vs, rfl, hq, rs⟩ := asL_rep h1 dn r
        exact .inr ⟨_, _, rfl, hq, by rw [← rs.length]; exact hl, by rw [← rs.length]; exact hl, q _ (setAll_slots is s rs) fun vs h => wipe_setAll is _ _ h⟩
    · cases h2
def sAsg (t : Tg) (a : RE) : RS := fun e S => (a e S).fl e fun d S1 => match bindT S1 d e t with
  | some e' => .nx e' S1
  | none => .bad
theorem s_asg {a tg : Expr} {t : Tg} {ra : RE} (ha : PE X a (tE X.K C W ra)) (hg : GD X C tg t) (hs : swapsWithSole [tg] a pos.line X.env = pure false := by rfl) (hw : swappedStores [tg] a X.env = pure none := by rfl)
    (h1 : (assignEach [tg] X.env).map (·.2) = [assign tg X.env] := by rfl) : PS X (.Assign [tg] a pos) (tS X.K C W (sAsg t ra)) :=
  (ps_asg ha hg hs hw h1).imp fun Dn sg H h => (tS.seq (R := RepR X.K C) (fun e d S1 => match bindT S1 d e t with | some e' => .nx e' S1 | none => .bad) h fun _ _ => rfl).mono fun v H1 ⟨e, S, io, k1, d, s, q, p⟩ => by
    cases hb : bindT S k1 e t with
    | none => rw [hb] at p; exact p.elim
    | some e' =>
      rw [hb] at p
      exact ⟨e, S, io, k1, e', d, s, q, hb, fun sg' s' _ => p sg' H1 io (Ext.refl _ _) d s'⟩
/-- a, b = x, y and a, b, c = x, y, z, plain local names -/
def sPar (is : List Nat) (as : RA) : RS := fun e S => (as e S).fl e fun ds S1 => if ds.length = is.length then .nx (setAll is ds e) S1 else .bad
theorem s_par2 (i j : Nat) {x y : Str} {a b : Expr} {rs : RA} {px py pt : Pos} {kt k2 pt2} (hc : X.calm = true) (hN : X.N.Nodup) (ha : PA X [a, b] (tA X.K C W rs)) (hi : X.N[i]? = some x := by rfl) (hj : X.N[j]? = some y := by rfl) (hij : i ≠ j := by decide)
    (hx : X.env.scope.names.lookup x = some .local := by rfl) (hy : X.env.scope.names.lookup y = some .local := by rfl)
    (hw : swappedStores [.Tuple [.Name x px, .Name y py] kt pt] (.Tuple [a, b] k2 pt2) X.env = pure (some [x, y]) := by rfl)
    (hs : swapsWithSole [.Tuple [.Name x px, .Name y py] kt pt] (.Tuple [a, b] k2 pt2) pos.line X.env = pure false := by rfl) :
    PS X (.Assign [.Tuple [.Name x px, .Name y py] kt pt] (.Tuple [a, b] k2 pt2) pos) (tS X.K C W (sPar [i, j] rs)) :=
  (ps_par hc hN hi hj hij hx hy ha hw hs).imp fun Dn sg H h => (tS.seq (R := RepsR X.K C) (fun e ds S1 => if ds.length = [i, j].length then .nx (setAll [i, j] ds e) S1 else .bad) h fun _ _ => rfl).mono fun vs H1 ⟨e, S, io, k1, d, s, q, p⟩ => by
    split at p
    · rename_i hl
      match k1, vs, q, hl with
      | [d1, d2], [v1, v2], q, hl => exact ⟨v1, v2, rfl, p _ H1 io (Ext.refl _ _) d (setAll_slots [i, j] s q)⟩
      | [_, _], [_], q, hl => exact nomatch q.length
      | [_, _], [], q, hl => exact nomatch q.length
      | [_, _], _ :: _ :: _ :: _, q, hl => exact nomatch q.length
    · exact p.elim
theorem s_par3 (i j l : Nat) {x y z : Str} {a b c : Expr} {rs : RA} {px py pz pt : Pos} {kt k2 pt2} (hc : X.calm = true) (hN : X.N.Nodup) (ha : PA X [a, b, c] (tA X.K C W rs)) (hi : X.N[i]? = some x := by rfl) (hj : X.N[j]? = some y := by rfl) (hl : X.N[l]? = some z := by rfl) (hij : i ≠ j := by decide) (hil : i ≠ l := by decide) (hjl : j ≠ l := by decide)
    (hx : X.env.scope.names.lookup x = some .local := by rfl) (hy : X.env.scope.names.lookup y = some .local := by rfl) (hz : X.env.scope.names.lookup z = some .local := by rfl)
    (hw : swappedStores [.Tuple [.Name x px, .Name y py, .Name z pz] kt pt] (.Tuple [a, b, c] k2 pt2) X.env = pure (some [x, y, z]) := by rfl)
    (hs : swapsWithSole [.Tuple [.Name x px, .Name y py, .Name z pz] kt pt] (.Tuple [a, b, c] k2 pt2) pos.line X.env = pure false := by rfl) :
    PS X (.Assign [.Tuple [.Name x px, .Name y py, .Name z pz] kt pt] (.Tuple [a, b, c] k2 pt2) pos) (tS X.K C W (sPar [i, j, l] rs)) :=
  (ps_par3 hc hN hi hj hl hij hil hjl hx hy hz ha hw hs).imp fun Dn sg H h => (tS.seq (R := RepsR X.K C) (fun e ds S1 => if ds.length = [i, j, l].length then .nx (setAll [i, j, l] ds e) S1 else .bad) h fun _ _ => rfl).mono fun vs H1 ⟨e, S, io, k1, d, s, q, p⟩ => by
    split at p
    · rename_i hl
      match k1, vs, q, hl with
      | [d1, d2, d3], [v1, v2, v3], q, hl => exact ⟨v1, v2, v3, rfl, p _ H1 io (Ext.refl _ _) d (setAll_slots [i, j, l] s q)⟩
      | [_, _, _], [_, _], q, hl => exact nomatch q.length
      | [_, _, _], [_], q, hl => exact nomatch q.length
      | [_, _, _], [], q, hl => exact nomatch q.length
      | [_, _, _], _ :: _ :: _ :: _ :: _, q, hl => exact nomatch q.length
    · exact p.elim
end

/-! ### own defs -/
def Fl.res : Fl → Res D
  | .nx _ S1 => .ok .non S1
  | .rt d S1 => .ok d S1
  | .er x _ S1 => .err x S1
  | .bad => .bad
def runDef (n : Nat) (m : RS) (ds : List D) (S : Store) : Res D := (m (ds.map some ++ List.replicate (n - ds.length) none) S).res
def spOf (K : PySem.W.Frag) (C : Nat → Addr) (n : Nat) (g : List D → Store → Res D) : Sp := fun vs H Q E =>
  vs.length = n ∧ ∃ ds S io, Den K C io S H ∧ Reps K C io (Fz io H) ds vs ∧ Post K C (RepR K C) (fun cls dd _ H' => E cls dd H') [] io H (g ds S) Q
theorem slots_start {K : PySem.W.Frag} {C : Nat → Addr} {io : Io} {F : Hp} {N : List Str} {ds : List D} {vs : List V} (r : Reps K C io F ds vs) : Slots K C io F (ds.map some ++ List.replicate (N.length - ds.length) none) (L2.start N vs) := by
  refine ⟨by simp [L2.start, r.length], fun i d h => ?_⟩
  by_cases hi : i < ds.length
  · rw [List.getElem?_append_left (by simpa using hi), List.getElem?_map] at h
    cases e : ds[i]? with
    | none => rw [e] at h; cases h
    | some x =>
      rw [e] at h
      cases h
      obtain ⟨v, h1, h2⟩ := r.get e
      refine ⟨v, ?_, h2⟩
      unfold L2.start
      rw [List.getElem?_append_left (by rw [List.length_map, ← r.length]; exact hi), List.getElem?_map, h1]
      rfl
  · rw [List.getElem?_append_right (by simpa using hi), List.getElem?_replicate] at h
    split at h <;> cases h
section
variable {P : Program} {w : World} {K : PySem.W.Frag} {mg : Str → Option Value} {base : Heap} {C : Nat → Addr}
theorem fn_ev {x qual : Str} {st : Stmt} {f : Addr} {fd : FuncData} {N ps : List Str} {k : Nat} {m : RS} (F : Fun K x qual st f fd) (S : FnScope N ps (defScope st))
    (hbody : ∀ (cdv : Value) (A : Around) (outer : List PySem.Env) (s : Shared) (H : Hp) (E : XK), Room k (A.deeper (PyProof.Rows.envOfC qual (defScope st) s.heap.objs.size f cdv)) →
      Takes (cxOf (L2.CX P w) P w K mg base N qual (defScope st) f cdv A outer s H E) (fun cls d _ H => E cls d H) →
      PassesOwn (model P w) (cxOf (L2.CX P w) P w K mg base N qual (defScope st) f cdv A outer s H E).A (cxOf (L2.CX P w) P w K mg base N qual (defScope st) f cdv A outer s H E).env (cxOf (L2.CX P w) P w K mg base N qual (defScope st) f cdv A outer s H E).xe →
      PSs (cxOf (L2.CX P w) P w K mg base N qual (defScope st) f cdv A outer s H E) (defBody st) (tS K C (fun cls d _ H => E cls d H) m)) :
    FnOk P w K mg base (L2.CX P w) (k + 1) f fd ps (spOf K C ps.length (runDef N.length m)) := by
  refine F.okX S (fun vs H Q E h => h.1) (fun cdv A outer s H vs Q E hr h => ?_)
  refine ⟨_, hbody cdv A outer s H E hr (takes_of rfl rfl rfl rfl) (passes_of rfl), ?_⟩
  obtain ⟨hl, ds, S, io, dn, rs, p⟩ := h
  refine ⟨_, S, io, dn, slots_start rs, ?_⟩
  unfold runDef Fl.res at p
  split at p
  · rename_i e S1 q
    rw [q]
    exact fun sg H' io' x d s => p _ H' io' x d .non
  · rename_i d S1 q
    rw [q]
    exact p
  · rename_i x e S1 q
    rw [q]
    exact fun cls dd sg H' io' x d s xr => p cls dd H' io' x d xr
  · exact p.elim
/-- another function that does the same -/
theorem fn_as {f : Addr} {fd : FuncData} {ps : List Str} {k n : Nat} {g g' : List D → Store → Res D} (F : FnOk P w K mg base (L2.CX P w) k f fd ps (spOf K C n g)) (h : ∀ ds S, g' ds S ≠ .bad → g ds S = g' ds S) : FnOk P w K mg base (L2.CX P w) k f fd ps (spOf K C n g') :=
  F.imp fun vs H Q E ⟨hl, ds, S, io, dn, rs, p⟩ => ⟨hl, ds, S, io, dn, rs, by rw [h ds S (fun z => by rw [z] at p; exact p)]; exact p⟩
end
def rCall (g : List D → Store → Res D) (as : RA) : RE := fun e S => (as e S).bind fun ds S1 => g ds S1
section
variable {X : Cx} {C : Nat → Addr} {W : WX} {k n : Nat} {f : Addr} {fd : FuncData} {ps : List Str} {g : List D → Store → Res D} {x : Str} {p pos : Pos} {e : Expr} {es : List Expr} {rs : RA}
theorem ee_call (F : FnOk X.prog X.w X.K X.mg X.base (L2.CX X.prog X.w) k f fd ps (spOf X.K C n g)) (hr : Room k X.A) (hg : Gl X x) (hm : X.mg x = some (.ref f)) (hk : PySem.W.keepIn X.K (.ref f) = true) (hb : Binds X.K fd ps []) (tk : Takes X W)
    (ha : PA X (e :: es) (tA X.K C W rs)) (hn : AL n rs) (hdb : (x == ("__debug__" : Str)) = false := by decide) (he : starEach (e :: es) X.env = (false, eval e X.env) :: starEach es X.env := by rfl) (hpl : (backTo pos (starEach es X.env)).any (·.1) = false := by rfl) :
    PE X (.Call (.Name x p) (e :: es) [] pos) (tE X.K C W (rCall g rs)) :=
  (pe_callS F hr hg hm hk hb (passAt tk) ha hdb he hpl).imp fun sg H Q h => tR.mono (tA.alen hn (tR.seq1 (fun _ ds S => g ds S) h fun _ _ => rfl)) fun vs H1 ⟨hl, e, S, io, ds, d, s, r, p⟩ =>
    ⟨hl, ds, S, io, d, r, by
      cases q : g ds S with
      | ok a S1 => rw [q] at p; exact p
      | err y S1 => rw [q] at p; exact p
      | bad => rw [q] at p; exact p⟩
end
end Ev
namespace Ev
open PySem PySem.Spec L2

/-! ### what a loop walks -/
/-- the walk J goes through the items ds, whatever comes -/
def Wk (K : PySem.W.Frag) (C : Nat → Addr) : Io → Hp → List D → It → Prop := fun io F ds J =>
  ∀ (io' : Io) (H' : Hp) (S' : Store), (∀ (n : Nat) (a : Addr), io.l[n]? = some a → io'.l[n]? = some a) → Same F (Fz io' H') → Den K C io' S' H' →
    (∀ i, i < ds.length → J.go i H') ∧ J.stop ds.length H' ∧ ∀ i x H'', i < ds.length → J.yld i H' x H'' → ∃ d, ds[i]? = some d ∧ Ext io' H' io' H'' ∧ Den K C io' S' H'' ∧ Rep K C io' (Fz io' H'') d x
abbrev tI (K : PySem.W.Frag) (C : Nat → Addr) (W : WX) (r : RA) : TI := tR K C (Wk K C) W r
theorem wk_list {K : PySem.W.Frag} {C : Nat → Addr} {io : Io} {F : Hp} {a : Addr} {vs : List V} {ds : List D} (h : SqL K F a vs) (r : Reps K C io F ds vs) : Wk K C io F ds (Itl K a) := fun io' H' S' hp hs dn => by
  have h' : SqL K H' a vs := (Fz_same _ _).seq (hs.seq h)
  refine ⟨fun i hi => ?_, ⟨vs, h', by rw [r.length]; exact Nat.le_refl _⟩, fun i x H'' hi y => ?_⟩
  · have hv : i < vs.length := by rw [← r.length]; exact hi
    exact ⟨vs, vs[i], h', by simp [hv]⟩
  · obtain ⟨rfl, y⟩ := y
    obtain ⟨d, e1, e2⟩ := r.getV (y vs h')
    exact ⟨d, e1, Ext.refl _ _, dn, e2.mono hp hs⟩
theorem wk_tup {K : PySem.W.Frag} {C : Nat → Addr} {io : Io} {F : Hp} {a : Addr} {vs : List V} {ds : List D} (h : SqT K F a vs) (r : Reps K C io F ds vs) : Wk K C io F ds (Itt K a) := fun io' H' S' hp hs dn => by
  have h' : SqT K H' a vs := sqT_same (Fz_same _ _) (sqT_same hs h)
  refine ⟨fun i hi => ?_, ⟨vs, h', by rw [r.length]; exact Nat.le_refl _⟩, fun i x H'' hi y => ?_⟩
  · have hv : i < vs.length := by rw [← r.length]; exact hi
    exact ⟨vs, vs[i], h', by simp [hv]⟩
  · obtain ⟨rfl, y⟩ := y
    obtain ⟨d, e1, e2⟩ := r.getV (y vs h')
    exact ⟨d, e1, Ext.refl _ _, dn, e2.mono hp hs⟩
/-- lo, lo + 1, .. -/
def rangeD (lo : Int) (n : Nat) : List D := (List.range n).map fun (i : Nat) => D.int (lo + (i : Int))
theorem wk_range {K : PySem.W.Frag} {C : Nat → Addr} {io : Io} {F : Hp} (lo : Int) (n : Nat) : Wk K C io F (rangeD lo n) (Itr lo n) := fun io' H' S' hp hs dn => by
  refine ⟨fun i hi => by show i < n; simpa [rangeD] using hi, by show n ≤ _; simp [rangeD], fun i x H'' hi y => ?_⟩
  obtain ⟨rfl, rfl⟩ := y
  have hi' : i < n := by simpa [rangeD] using hi
  exact ⟨.int (lo + i), by simp [rangeD, hi'], Ext.refl _ _, dn, .int _⟩
theorem _root_.L2.PI.imp {X : Cx} {tg e : Expr} {t t' : TI} (h : PI X tg e t) (hi : ∀ sg H Q, t' sg H Q → t sg H Q) : PI X tg e t' := ⟨fun pins s sg H Q I hw => h.run pins s sg H Q I (hi _ _ _ hw)⟩
theorem _root_.L2.PI.or {X : Cx} {tg e : Expr} {t t' : TI} (h : PI X tg e t) (h' : PI X tg e t') : PI X tg e (fun sg H Q => t sg H Q ∨ t' sg H Q) := ⟨fun pins s sg H Q I hw => hw.elim (h.run pins s sg H Q I) (h'.run pins s sg H Q I)⟩
/-- the items of a thing that stands still -/
def signsD (x : Str) : List D := x.cps.toList.map fun c => .str ⟨#[c]⟩
def itemsD : D → Option (List D)
  | .tup xs => some xs
  | .lst xs => some xs
  | .str x => some (signsD x)
  | _ => none
theorem wk_str {K : PySem.W.Frag} {C : Nat → Addr} {io : Io} {F : Hp} (x : Str) : Wk K C io F (signsD x) (Its x) := fun io' H' S' hp hs dn => by
  have hl : (signsD x).length = x.cps.size := by simp [signsD]
  refine ⟨fun i hi => by rw [hl] at hi; exact hi, by show x.cps.size ≤ _; rw [hl]; exact Nat.le_refl _, fun i v H'' hi y => ?_⟩
  obtain ⟨rfl, c, hc, rfl⟩ := y
  exact ⟨.str ⟨#[c]⟩, by simp [signsD, hc], Ext.refl _ _, dn, .str _⟩
def rIt (a : RE) : RA := fun e S => (a e S).bind fun d S1 => ofO (itemsD d) S1
def ran1 : List D → Option (List D)
  | [.int j] => if -(2 ^ 62) ≤ j ∧ j < 2 ^ 62 then some (rangeD 0 j.toNat) else none
  | _ => none
def ran2 : List D → Option (List D)
  | [.int i, .int j] => if -(2 ^ 62) ≤ i ∧ i < 2 ^ 62 ∧ -(2 ^ 62) ≤ j ∧ j < 2 ^ 62 then some (rangeD i (j - i).toNat) else none
  | _ => none
def rRan (f : List D → Option (List D)) (as : RA) : RA := fun e S => (as e S).bind fun ds S1 => ofO (f ds) S1
section
variable {X : Cx} {C : Nat → Addr} {W : WX} {tg a b : Expr} {ra : RE} {rs : RA} {pos p : Pos}
theorem ei_seq (ha : PE X a (tE X.K C W ra)) : PI X tg a (tI X.K C W (rIt ra)) := by
  have hi : PI X tg a (fun sg H R => tE X.K C W ra sg H fun x H1 => (∃ p, x = .ref p ∧ (∃ xs, SqL X.K H1 p xs) ∧ R (Itl X.K p) H1) ∨ (∃ p, x = .ref p ∧ (∃ xs, SqT X.K H1 p xs) ∧ R (Itt X.K p) H1) ∨ (∃ z, x = .str z ∧ R (Its z) H1)) := by
    refine ⟨fun pins s sg H R I h => ?_⟩
    refine thn (ha.run pins s sg H _ I h) fun v s1 ⟨x, H1, I1, r1, q1⟩ => ?_
    rcases q1 with ⟨p, rfl, ⟨xs, hq⟩, q⟩ | ⟨p, rfl, ⟨xs, hq⟩, q⟩ | ⟨z, rfl, q⟩
    · cases r1
      obtain ⟨its, rv, pl, hz⟩ := I1.list hq
      refine wpAny_pyIter_list pl.isList ?_
      refine ⟨s1.heap.objs.size, [s1.heap.objs.size], _, _, H1, rfl, I1.kept (t' := s1.toks) fun b o e => Heap.get?_push_of_some _ e, turn_list p _, ⟨_, Heap.get?_push_size _ rfl, rfl, rfl⟩, fun b hb => ?_, q⟩
      have e : b = s1.heap.objs.size := by simpa using hb
      subst e
      exact I1.fpOk (Nat.le_refl _) (I1.hok.fresh (Nat.le_refl _))
    · cases r1
      obtain ⟨its, rv, pl, hz⟩ := I1.tuple hq
      refine wpAny_pyIter_tuple (show s1.heap.IsTuple p its.toArray from pl) ?_
      refine ⟨s1.heap.objs.size, [s1.heap.objs.size], _, _, H1, rfl, I1.kept (t' := s1.toks) fun b o e => Heap.get?_push_of_some _ e, turn_tuple p _, ⟨_, Heap.get?_push_size _ rfl, rfl, rfl⟩, fun b hb => ?_, q⟩
      have e : b = s1.heap.objs.size := by simpa using hb
      subst e
      exact I1.fpOk (Nat.le_refl _) (I1.hok.fresh (Nat.le_refl _))
    · obtain ⟨t, rfl⟩ := r1
      cases ha : z.cps.all (· < 128)
      · exact wpAny_pyIter_wide ha (pi_one (tk := s1.toks) I1 _ (turn_str _ z t "str_iterator" (.inr rfl)) ⟨_, Heap.get?_push_size _ rfl, rfl, rfl⟩ q)
      · exact wpAny_pyIter_ascii ha (pi_one (tk := s1.toks) I1 _ (turn_str _ z t "str_ascii_iterator" (.inl rfl)) ⟨_, Heap.get?_push_size _ rfl, rfl, rfl⟩ q)
  refine hi.imp fun sg H R h => (tR.seq1 (R := RepR X.K C) (fun _ d S => ofO (itemsD d) S) h fun _ _ => rfl).mono fun x H1 ⟨e, S, io, d, dn, s, r, p⟩ => ?_
  obtain ⟨ds, ed, p⟩ := p.ofO
  cases r with
  | tup q rs => cases ed; exact .inr (.inl ⟨_, rfl, ⟨_, sqT_same (Fz_same _ _) q⟩, p _ H1 io (Ext.refl _ _) dn (wk_tup q rs)⟩)
  | str z => cases ed; exact .inr (.inr ⟨_, rfl, p _ H1 io (Ext.refl _ _) dn (wk_str z)⟩)
  | lst q rs => cases ed; exact .inl ⟨_, rfl, ⟨_, (Fz_same _ _).seq q⟩, p _ H1 io (Ext.refl _ _) dn (wk_list q rs)⟩
  | _ => cases ed
theorem ei_range1 (hg : Gl X "range") (hm : X.mg "range" = none) (ha : PA X [a] (tA X.K C W rs)) (hs : starEach [a] X.env = [(false, eval a X.env)] := by rfl) : PI X tg (.Call (.Name "range" p) [a] [] pos) (tI X.K C W (rRan ran1 rs)) :=
  (pi_range1 hg hm ha hs).imp fun sg H R h => (tR.seq1 (R := RepsR X.K C) (fun _ ds S => ofO (ran1 ds) S) h fun _ _ => rfl).mono fun vs H1 ⟨e, S, io, ds, dn, s, r, p1⟩ => by
    obtain ⟨zs, ed, p1⟩ := p1.ofO
    unfold ran1 at ed
    split at ed
    · split at ed
      · rename_i hj
        cases ed
        obtain ⟨v, rfl, h⟩ := reps1 r
        cases h
        exact ⟨_, rfl, hj.1, hj.2, p1 _ H1 io (Ext.refl _ _) dn (wk_range 0 _)⟩
      · cases ed
    · cases ed
theorem ei_range2 (hg : Gl X "range") (hm : X.mg "range" = none) (ha : PA X [a, b] (tA X.K C W rs)) (hs : starEach [a, b] X.env = [(false, eval a X.env), (false, eval b X.env)] := by rfl) (hs2 : starEach [b] X.env = [(false, eval b X.env)] := by rfl) : PI X tg (.Call (.Name "range" p) [a, b] [] pos) (tI X.K C W (rRan ran2 rs)) :=
  (pi_range2 hg hm ha hs hs2).imp fun sg H R h => (tR.seq1 (R := RepsR X.K C) (fun _ ds S => ofO (ran2 ds) S) h fun _ _ => rfl).mono fun vs H1 ⟨e, S, io, ds, dn, s, r, p1⟩ => by
    obtain ⟨zs, ed, p1⟩ := p1.ofO
    unfold ran2 at ed
    split at ed
    · split at ed
      · rename_i hj
        cases ed
        obtain ⟨v, u, rfl, h, h2⟩ := reps2 r
        cases h; cases h2
        exact ⟨_, _, rfl, hj, p1 _ H1 io (Ext.refl _ _) dn (wk_range _ _)⟩
      · cases ed
    · cases ed
end

/-! ### for -/
def forL (t : Tg) (body : RS) : List D → RS
  | [], e, S => .nx e S
  | d :: ds, e, S => match bindT S d e t with
    | none => .bad
    | some e1 => (body e1 S).andThen (forL t body ds)
def sFor (it : RA) (t : Tg) (body : RS) : RS := fun e S => (it e S).fl e fun ds S1 => forL t body ds e S1
section
variable {X : Cx} {C : Nat → Addr} {W : WX} {tg iter c : Expr} {ri : RA} {body : List Stmt} {mb : RS} {t : Tg} {tc : RT} {pos : Pos}
theorem s_for (hp : PassesOwn (model X.prog X.w) X.A X.env X.xe) (hc : X.calm = true) (hi : PI X tg iter (tI X.K C W ri)) (hg : GD X C tg t) (hb : PSs X body (tS X.K C W mb)) (hs : ∀ x, foldedSetIterable iter X.env x = pure x := by intro _; rfl) :
    PS X (.For tg iter body [] pos) (tS X.K C W (sFor ri t mb)) :=
  (ps_for hp hc hi hg hb hs).imp fun Dn sg H h => (tS.seq (R := Wk X.K C) (fun e ds S1 => forL t mb ds e S1) h fun _ _ => rfl).mono fun J H1 ⟨e, S, io, ds, dn, s, wk, p⟩ => by
    refine ⟨fun i m sg' H' => m + i = ds.length ∧ ∃ e' S' io', Ext io H1 io' H' ∧ Den X.K C io' S' H' ∧ Slots X.K C io' (Fz io' H') e' sg' ∧ PostS X.K C W io' H' (forL t mb (ds.drop i) e' S') Dn,
      ⟨ds.length, rfl, e, S, io, Ext.refl _ _, dn, s, p⟩, fun i m sg' H' ⟨hm, e', S', io', x', d', s', p'⟩ => ?_⟩
    obtain ⟨go, stop, yld⟩ := wk io' H' S' x'.pre x'.same d'
    by_cases hi : i < ds.length
    · rw [List.drop_eq_getElem_cons hi] at p'
      refine .inr ⟨go i hi, fun sg2 H2 => ∃ e2 S2 io2, Ext io H1 io2 H2 ∧ Den X.K C io2 S2 H2 ∧ Slots X.K C io2 (Fz io2 H2) e2 sg2 ∧ PostS X.K C W io2 H2 (forL t mb (ds.drop (i + 1)) e2 S2) Dn, fun sg2 H2 h2 => ⟨m - 1, by omega, by omega, h2⟩, fun x H2 y => ?_⟩
      obtain ⟨d, ed, x2, d2, r2⟩ := yld i x H2 hi y
      have ed' : ds[i] = d := by rw [List.getElem?_eq_getElem hi] at ed; exact Option.some.inj ed
      rw [ed'] at p'
      unfold forL at p'
      cases hb : bindT S' d e' t with
      | none => rw [hb] at p'; exact p'.elim
      | some e1 =>
        rw [hb] at p'
        refine ⟨e', S', io', d, e1, d2, s'.ext x2, r2, hb, fun sg3 s3 _ => ⟨e1, S', io', d2, s3, ?_⟩⟩
        have p2 := PostS.ext x2 p'
        cases q : mb e1 S' with
        | nx e4 S4 =>
          simp only [q, Fl.andThen] at p2
          exact fun sg4 H4 io4 x4 d4 s4 => ⟨e4, S4, io4, (x'.trans x2).trans x4, d4, s4, PostS.ext x4 p2⟩
        | rt d4 S4 => simp only [q, Fl.andThen] at p2; exact p2
        | er x4 e4 S4 => simp only [q, Fl.andThen] at p2; exact p2
        | bad => simp only [q, Fl.andThen] at p2; exact p2
    · have e1 : ds.length = i := by omega
      rw [List.drop_of_length_le (by omega)] at p'
      rw [e1] at stop
      exact .inl ⟨stop, p' sg' H' io' (Ext.refl _ _) d' s'⟩
/-- while, at most n turns -/
def whileN (c : RT) (body : RS) : Nat → RS
  | 0, _, _ => .bad
  | n + 1, e, S => (c e S).fl e fun k S1 => if k = true then (body e S1).andThen (whileN c body n) else .nx e S1
theorem s_while (n : Nat) (hp : PassesOwn (model X.prog X.w) X.A X.env X.xe) (hc : PT X c (tT X.K C W tc)) (hb : PSs X body (tS X.K C W mb)) : PS X (.While c body [] pos) (tS X.K C W (whileN tc mb n)) :=
  (ps_while hp hc hb).imp fun Dn sg H ⟨e, S, io, dn, s, p⟩ => by
    refine ⟨fun m sg' H' => tS X.K C W (whileN tc mb m) Dn sg' H', ⟨n, e, S, io, dn, s, p⟩, fun m sg' H' h' => ?_⟩
    cases m with
    | zero => obtain ⟨_, _, _, _, _, p'⟩ := h'; exact p'.elim
    | succ m =>
      refine (tS.seq (R := EqR) (m := whileN tc mb (m + 1)) (fun e k S1 => if k = true then (mb e S1).andThen (whileN tc mb m) else .nx e S1) h' fun _ _ => rfl).mono fun k H1 ⟨e1, S1, io1, k1, d1, s1, q, p1⟩ => ?_
      cases q
      cases k with
      | false => exact p1 sg' H1 io1 (Ext.refl _ _) d1 s1
      | true =>
        refine ⟨tS X.K C W (whileN tc mb m) Dn, fun sg2 H2 h2 => ⟨m, Nat.lt_succ_self m, h2⟩, e1, S1, io1, d1, s1, ?_⟩
        rw [if_pos rfl] at p1
        cases q : mb e1 S1 with
        | nx e4 S4 =>
          simp only [q, Fl.andThen] at p1
          exact fun sg4 H4 io4 x4 d4 s4 => ⟨e4, S4, io4, d4, s4, PostS.ext x4 p1⟩
        | rt d4 S4 => simp only [q, Fl.andThen] at p1; exact p1
        | er x4 e4 S4 => simp only [q, Fl.andThen] at p1; exact p1
        | bad => simp only [q, Fl.andThen] at p1; exact p1
end

/-! ### stores into a list, x += e -/
/-- o[i] = v of a list of the store -/
def putIx (S : Store) (o i v : D) : Option Store := match o, i with
  | .loc n, .int k => match S[n]? with
    | some (.lst xs) => (ixN xs.length k).bind fun j => some (S.set n (.lst (xs.set j v)))
    | _ => none
  | _, _ => none
def sPutIx (a o i : RE) : RS := fun e S => (a e S).fl e fun v S1 => (o e S1).fl e fun x S2 => (i e S2).fl e fun y S3 => match putIx S3 x y v with
  | some S4 => .nx e S4
  | none => .bad
def sAug (i : Nat) (f : Store → D → D → Option D) (a : RE) : RS := fun e S => match e[i]? with
  | some (some x) => (a e S).fl e fun y S1 => match f S1 x y with
    | some z => .nx (e.set i (some z)) S1
    | none => .bad
  | _ => .bad
section
variable {X : Cx} {C : Nat → Addr} {W : WX} {a o i : Expr} {ra ro ri : RE} {pos tpos : Pos}
theorem Den.list {K : PySem.W.Frag} {io : Io} {S : Store} {H : Hp} {n : Nat} {p : Addr} {xs : List D} (dn : Den K C io S H) (e : S[n]? = some (.lst xs)) (h : io.l[n]? = some p) : ∃ vs, H p = some (.lst vs) ∧ Reps K C io (Fz io H) xs vs := dn.obj n _ p e h
/-- a list of the store gets other items -/
theorem Den.setL {K : PySem.W.Frag} {io : Io} {S : Store} {H : Hp} {n : Nat} {p : Addr} {ys : List D} {us : List V} (dn : Den K C io S H) (h : io.l[n]? = some p) (r : Reps K C io (Fz io H) ys us) : Ext io H io (upd H p (.lst us)) ∧ Den K C io (S.set n (.lst ys)) (upd H p (.lst us)) :=
  have hm : p ∈ io.all := mem_all h
  ⟨Ext.put hm, dn.put h ⟨us, upd_same, by rw [Fz_upd_old hm]; exact r⟩⟩
theorem s_putIx (ha : PE X a (tE X.K C W ra)) (ho : PE X o (tE X.K C W ro)) (hi : PE X i (tE X.K C W ri))
    (hA : ∀ v, assign (.Subscript o i tpos) X.env v = (do
      let ov ← holding [v] (eval o X.env)
      let iv ← holding [v, ov] (eval i X.env)
      standAt tpos
      holding [v, ov, iv] (setItem ov iv v)
      release [v, ov, iv] []) := by intro _; rfl)
    (hs : swapsWithSole [.Subscript o i tpos] a pos.line X.env = pure false := by rfl) (hw : swappedStores [.Subscript o i tpos] a X.env = pure none := by rfl) (h1 : (assignEach [.Subscript o i tpos] X.env).map (·.2) = [assign (.Subscript o i tpos) X.env] := by rfl) :
    PS X (.Assign [.Subscript o i tpos] a pos) (tS X.K C W (sPutIx ra ro ri)) :=
  (ps_asg ha (pg_sub ho hi set_list hA) hs hw h1).imp fun Dn sg H h => (tS.seq (R := RepR X.K C) (fun e v S1 => (ro e S1).fl e fun x S2 => (ri e S2).fl e fun y S3 => match putIx S3 x y v with | some S4 => .nx e S4 | none => .bad) h fun _ _ => rfl).mono fun v H1 ⟨e, S, io, v1, dn, s, r, p⟩ =>
    ⟨e, S, io, dn, s, (p.of_res (R := RepR X.K C) s).mono fun x H2 ⟨io2, S2, x1, x2, d2, r2, p2⟩ => ⟨e, S2, io2, d2, s.ext x2, (p2.of_res (R := RepR X.K C) (s.ext x2)).mono fun y H3 ⟨io3, S3, y1, x3, d3, r3, p3⟩ => by
      cases hp : putIx S3 x1 y1 v1 with
      | none => rw [hp] at p3; exact p3.elim
      | some S4 =>
        rw [hp] at p3
        unfold putIx at hp
        split at hp
        · rename_i n k
          cases r3
          split at hp
          · rename_i xs es
            obtain ⟨j, hj, hp⟩ := bind_some' hp
            cases hp
            cases r2 with
            | loc q =>
              have q3 := x3.pre _ _ q
              obtain ⟨vs, e1, rs⟩ := d3.list es q3
              obtain ⟨xx, dd⟩ := d3.setL (ys := xs.set j v1) q3 (rs.set ((r.ext x2).ext x3) j)
              exact ⟨_, vs, _, j, rfl, rfl, e1, by rw [← rs.length]; exact hj, p3 sg _ io3 xx dd (((s.ext x2).ext x3).ext xx)⟩
          · cases hp
        · cases hp⟩⟩
theorem s_aug (i : Nat) {x : Str} {f : Store → D → D → Option D} {op : Operator} {pos' : Pos} (hN : X.N.Nodup) (hop : OpD X C (inplaceOp op) f) (ha : PE X a (tE X.K C W ra)) (hi : X.N[i]? = some x := by rfl) (hx : Loc X.env.scope x := by first | exact Or.inl rfl | exact Or.inr rfl)
    (hf : X.fn x = true ∨ X.env.scope.names.lookup x = some .local := by first | exact .inl rfl | exact .inr rfl | assumption) : PS X (.AugAssign (.Name x pos') op a pos) (tS X.K C W (sAug i f ra)) :=
  (ps_aug hN hi hx ha hop hf).imp fun Dn sg H ⟨e, S, io, dn, s, p⟩ => by
    unfold sAug at p
    split at p
    · rename_i d ed
      obtain ⟨v, e1, r⟩ := s.get i d ed
      refine ⟨v, e1, e, S, io, dn, s, (p.of_res (R := RepR X.K C) s).mono fun y H1 ⟨io1, S1, y1, x1, d1, r1, p1⟩ => ?_⟩
      cases hz : f S1 d y1 with
      | none => rw [hz] at p1; exact p1.elim
      | some z =>
        rw [hz] at p1
        exact ⟨io1, S1, d, y1, z, d1, r.ext x1, r1, hz, fun w H' io' x' d' r' => p1 _ H' io' x' d' (((s.ext x1).ext x').set i r')⟩
    · exact p.elim
theorem iaddD_ok : OpD X C (inplaceOp .Add) (i2 (fun _ _ => true) fun i j => .int (i + j)) := opD_i20 iop_add fun _ _ _ _ => .int _
theorem isubD_ok : OpD X C (inplaceOp .Sub) subD := opD_i20 iop_sub fun _ _ _ _ => .int _
end

/-! ### isinstance and the built-in classes -/
def tyD (S : Store) : D → Option String
  | .non => some "NoneType"
  | .bl _ => some "bool"
  | .int _ => some "int"
  | .str _ => some "str"
  | .tup _ => some "tuple"
  | .lst _ => some "list"
  | .dct _ _ => some "dict"
  | .loc n => match S[n]? with
    | some (.lst _) => some "list"
    | some (.dK _ _) => some "dict"
    | _ => none
  | .exn _ _ _ => none
theorem tyD_rep {K : PySem.W.Frag} {C : Nat → Addr} {io : Io} {S : Store} {H : Hp} {d : D} {v : V} {t : String} (h : tyD S d = some t) (dn : Den K C io S H) (r : Rep K C io (Fz io H) d v) : TyX K H v (.type t) := by
  cases r with
  | non => cases h; exact .base .non
  | bl => cases h; exact .base (.bl _)
  | int => cases h; exact .base (.int _)
  | str => cases h; exact .base (.str _)
  | tup q rs =>
    cases h
    rcases q with (q | ⟨o, q⟩) | ⟨o, its, n, hk, hc, _⟩
    · exact .base (.tup (Fz_same _ _ _ _ q))
    · exact .fTuple (Fz_same _ _ _ _ q)
    · exact .kTuple hk hc
  | lst q rs =>
    cases h
    rcases q with (q | ⟨o, q⟩) | ⟨o, its, n, hk, hc, _⟩
    · exact .base (.lst (Fz_same _ _ _ _ q))
    · exact .base (.frz (Fz_same _ _ _ _ q))
    · exact .kList hk hc
  | dct q e1 e2 rs => cases h; exact .base (.dK (Fz_same _ _ _ _ q))
  | @loc n a q =>
    simp only [tyD] at h
    split at h
    · rename_i ys e
      cases h
      obtain ⟨vs, h1, h2⟩ := dn.obj n _ a e q
      exact .base (.lst h1)
    · rename_i ks ys e
      cases h
      obtain ⟨kvs, h1, h2, h3⟩ := dn.obj n _ a e q
      exact .base (.dK h1)
    · cases h
  | exn0 => cases h
  | exnF => cases h
def isiD (T : String) (S : Store) (d : D) : Option D := (tyD S d).bind fun t => (kitB t T).bind fun b => some (.bl b)
section
variable {X : Cx} {C : Nat → Addr} {W : WX} {a : Expr} {ra : RE} {x : Str} {T : String} {pos p p' : Pos}
/-- isinstance(a, T), T a built-in class -/
theorem ee_isi (ha : PE X a (tE X.K C W ra)) (hg : Gl X "isinstance") (hm : X.mg "isinstance" = none) (hgx : Gl X x) (hmx : X.mg x = none) (hv : bootBuiltins x = some (.type T))
    (hn : x ≠ "__name__" := by decide) (hd : (x == ("__debug__" : Str)) = false := by decide) (hv0 : bootBuiltins "isinstance" = some (.builtin "isinstance") := by decide +kernel)
    (he : starEach [a, .Name x p'] X.env = [(false, eval a X.env), (false, eval (.Name x p') X.env)] := by rfl) : PE X (.Call (.Name "isinstance" p) [a, .Name x p'] [] pos) (tE X.K C W (rUn (isiD T) ra)) :=
  (pe_callB call_isi hg hm hv0 (pa_cons ha (pa_cons (pe_bltn hgx hmx hv (v := .ty T) rfl hn hd) pa_nil rfl) he) (by decide) (by decide) he rfl).imp fun sg H Q h => (tR.seq1 (R := RepR X.K C) (fun _ d S => ofO (isiD T S d) S) h fun _ _ => rfl).mono fun v H1 ⟨e, S, io, d, dn, s, r, p⟩ => by
    obtain ⟨z, ez, p⟩ := p.ofO
    obtain ⟨t, et, ez⟩ := bind_some' ez
    obtain ⟨b, eb, ez⟩ := bind_some' ez
    cases ez
    exact ⟨v, .ty T, .type t, .type T, b, rfl, .ty T, tyD_rep et dn r, kit_ty eb, p _ H1 io (Ext.refl _ _) dn (.bl _)⟩
end
end Ev
namespace Ev
open PySem PySem.Spec L2

/-! ### an exception that was caught is tracked -/
section
variable {X : Cx} {pins : List (Addr × Obj)} {sg : L2.St} {H : Hp} {s : Shared}
theorem Inv.track {a : Addr} {oe : Obj} {vs : Array Value} (I : L2.Inv X pins sg H s) (he : s.heap.get? a = some oe) (hd : oe.data = .fields vs) (na : H a = none) (nL : a ≠ X.env.locals) (n0 : X.s_0.heap.get? a = none)
    (np : ∀ p ∈ X.pn ++ pins, p.1 ≠ a) : L2.Inv X pins sg (upd H a (exH a oe.cls oe.dict)) s := by
  have nc : ∀ x c, X.env.cells.lookup x = some c → c ≠ a := fun x c e z => by
    obtain ⟨v, o, ho, hod⟩ := I.cell x c e
    rw [z, he] at ho
    cases ho
    rw [hd] at hod
    cases hod
  refine ⟨I.ok, I.os, I.bare, ⟨I.base.keep, I.base.slot, fun b o e n hx => ?_, I.base.there, fun b xs e => ?_, fun b o u e => ?_, fun b ps e => ?_⟩, I.loc, I.cell, ?_, fun x c e => ?_, fun p hp => ?_, fun b o e => ?_, I.len⟩
  · have hb : b ≠ a := fun z => by rw [z, n0] at e; cases e
    rw [upd_ne hb]
    exact I.base.free b o e n hx
  · have q := I.base.tups b xs e
    rw [upd_ne (ne_of_none q na)]
    exact q
  · have q := I.base.frzs b o u e
    rw [upd_ne (ne_of_none q na)]
    exact q
  · obtain ⟨more, q⟩ := I.base.tbls b ps e
    exact ⟨more, by rw [upd_ne (ne_of_none q na)]; exact q⟩
  · rw [upd_ne (Ne.symm nL)]
    exact I.free
  · rw [upd_ne (nc x c e)]
    exact I.freeC x c e
  · obtain ⟨q1, q2, q3, q4, q5⟩ := I.pin p hp
    exact ⟨q1, by rw [upd_ne (np p hp)]; exact q2, q3, q4, q5⟩
  · by_cases hb : b = a
    · subst hb
      rw [upd_same] at e
      cases e
      exact ⟨⟨oe, vs, he, rfl, rfl, hd⟩, ⟨oe, he⟩, fun h1 h2 ⟨o1, v1, q1, q2⟩ k => ⟨o1, v1, k _ q1, q2⟩⟩
    · rw [upd_ne hb] at e
      exact (I.hok b o e).stay (fun c v _ q => q) (fun c q => by rw [upd_ne (ne_of_none q na)]; exact q) fun c xs q => by rw [upd_ne (ne_of_none q na)]; exact q
theorem Inv.toSuite (I : L2.Inv X pins sg H s) (a : Addr) : L2.Inv (X.suite a (X.pn ++ pins)) [] sg H s :=
  ⟨I.ok.suite _ _, I.os, I.bare, I.base, I.loc, I.cell, I.free, I.freeC, fun p hp => I.pin p (by rw [List.append_nil] at hp; exact hp), I.hok, I.len⟩
theorem Inv.offSuite {a : Addr} {pn' : List (Addr × Obj)} (I : L2.Inv (X.suite a (X.pn ++ pins)) pn' sg H s) (ok : X.Ok) : L2.Inv X pins sg H s :=
  ⟨ok, I.os, I.bare, I.base, I.loc, I.cell, I.free, I.freeC, fun p hp => I.pin p (List.mem_append_left _ hp), I.hok, I.len⟩
end
theorem Den.notXd {K : PySem.W.Frag} {C : Nat → Addr} {io : Io} {S : Store} {H : Hp} (d : Den K C io S H) {p : Addr} {fs : List (Str × V)} (h : H p = some (.xd fs)) : p ∉ io.all := fun z => by
  obtain ⟨u, e, m⟩ := d.at z
  rw [h] at e; cases e; cases m
/-- the caught exception as a value -/
theorem exn_rep {K : PySem.W.Frag} {C : Nat → Addr} {io : Io} {S : Store} {H : Hp} {a : Addr} {x : Exn} {cls : Value} {dd : Option Addr} (dn : Den K C io S H) (na : H a = none) (xr : XR K C io H x cls dd) :
    Rep K C io (Fz io (upd H a (exH a cls dd))) (.exn x.c x.ns x.xs) (.ref a) := by
  obtain ⟨rfl, xr⟩ := xr
  have e1 : Fz io (upd H a (exH a (.ref (C x.c)) dd)) a = some (exH a (.ref (C x.c)) dd) := by rw [Fz_out (dn.fresh na)]; exact upd_same
  rcases xr with ⟨h1, h2, rfl⟩ | ⟨d, fs, rfl, h1, h2, r⟩
  · rw [h1, h2]
    exact .exn0 e1
  · refine .exnF (fs := fs) e1 ?_ h2 rfl (r.ext (Ext.new dn na))
    rw [Fz_out (dn.notXd h1), upd_ne (ne_of_none h1 na)]
    exact h1

/-! ### try .. except X as n -/
def Fl.clr (i : Nat) : Fl → Fl
  | .nx e S => .nx (e.set i none) S
  | .rt d S => .rt d S
  | _ => .bad
def catchAs (sub : Nat → Option Bool) (i : Nat) (suite : RS) (x : Exn) (e : Env) (S : Store) : Fl := match sub x.c with
  | some true => (suite (e.set i (some (.exn x.c x.ns x.xs))) S).clr i
  | some false => .er x e S
  | none => .bad
def sTryAs (sub : Nat → Option Bool) (i : Nat) (body suite : RS) : RS := fun e S => match body e S with
  | .er x e1 S1 => catchAs sub i suite x e1 S1
  | f => f
section
variable {X : Cx} {C : Nat → Addr} {W : WX} {x n : Str} {c : Value} {i : Nat} {body suite : List Stmt} {b0 : Stmt} {np pos pos' : Pos} {mb ms : RS} {sub : Nat → Option Bool}
open PyProof.Rows in
theorem s_try_as (hs : X.stack = X.env :: X.outer) (hf : X.env.frame = some X.env.locals) (hex : X.ex = []) (hN : X.N.Nodup) (hi : X.N[i]? = some n) (hln : X.env.kindOf n = some .local) (hc : Names X x c) (tk : Takes X W)
    (hsub : ∀ y b, sub y = some b → PySem.W.exmOne X.K (.ref (C y)) c = some b)
    (hb : ∀ (W : WX) (pn : List (Addr × Obj)) (xe : Value → Shared → Prop), Takes (X.tr pn xe) W → PassesOwn (model X.prog X.w) X.A X.env xe → PSs (X.tr pn xe) body (tS X.K C W mb))
    (hsu : ∀ (a : Addr) (pn : List (Addr × Obj)), PSs (X.suite a pn) (b0 :: suite) (tS X.K C (fun _ _ _ _ => False) ms)) :
    PS X (.Try body [.ExceptHandler (some (.Name x np)) (some n) (b0 :: suite) pos'] [] [] pos) (tS X.K C W (sTryAs sub i mb ms)) := by
  refine ⟨fun pins s sg H Dn I h => ?_⟩
  obtain ⟨e0, S0, io0, dn0, sl0, p0⟩ := h
  have ok := I.ok
  have hfr : X.A.frames = some (X.env :: X.outer) := by rw [ok.frames, hs]
  have hloc : Loc X.env.scope n := .inl hln
  let Wt : WX := fun cls d sg' H' => ∃ x e1 S1 io1, Den X.K C io1 S1 H' ∧ Slots X.K C io1 (Fz io1 H') e1 sg' ∧ XR X.K C io1 H' x cls d ∧ PostS X.K C W io1 H' (catchAs sub i ms x e1 S1) Dn
  have hw : tS X.K C Wt mb Dn sg H := by
    refine ⟨e0, S0, io0, dn0, sl0, ?_⟩
    unfold sTryAs at p0
    cases q : mb e0 S0 with
    | nx e1 S1 => rw [q] at p0; exact p0
    | rt d1 S1 => rw [q] at p0; exact p0
    | er x e1 S1 =>
      rw [q] at p0
      exact fun cls dd sg' H' io' xx d' s' xr => ⟨x, e1, S1, io', d', s', xr, PostS.ext xx p0⟩
    | bad => rw [q] at p0; exact p0
  refine wpAny_Try_except ?_
  refine wpAny_mono ((hb Wt (X.pn ++ pins) (fun e s₁ => wpAny (model X.prog X.w) X.A (noteFrame e X.env) (fun _ s₂ => wpAny (model X.prog X.w) X.A (setFlight e none) (fun _ s₃ =>
    wpAny (model X.prog X.w) X.A (handleBy e X.env [.ExceptHandler (some (.Name x np)) (some n) (b0 :: suite) pos']) (SP X pins Dn) X.xe s₃) X.xe s₂) X.xe s₁) (fun u s' xx => ?_) PassesOwn.looking).run [] s sg H Dn (I.toTry _) hw) (fun f s1 hsp => ?_) (fun e s1 he => he)
  · -- the catch
    obtain ⟨a, B, sI, pins', sg', H', cls, d, rfl, J', nb, up, sky, na, os, ag, ex, e1, S1, io1, dn, sl, xr, pc⟩ := xx
    have J : L2.Inv X pins sg' H' sI := J'.ofTry ok
    have sky' : Sky B (X.env :: X.outer) a (Zc cls d) X.env.locals s'.heap := by rw [← hs]; exact sky
    show wpAny (model X.prog X.w) X.A (noteFrame (.ref a) X.env) _ _ _
    refine Sky.land Zc.steady hfr hf sky' fun h3 fl3 up3 => ?_
    have J3 : L2.Inv X pins sg' H' { s' with heap := h3 } := J.landed nb fl3.1 (up.trans up3) os ag
    obtain ⟨oe3, vs3, he3, hz3, hd3⟩ := fl3.there
    have notFr : ∀ {h : Heap} {o : Obj} {vs : Array Value}, h.FunFrames B (X.env :: X.outer) → h.get? a = some o → o.data = .fields vs → a ∉ frs (X.env :: X.outer) := fun {h o vs} ff e dd hm => by
      obtain ⟨_, o', e', hnf⟩ := ff.mem hm
      rw [e] at e'; cases e'
      exact hnf _ dd
    have nfr := notFr fl3.2.2.1 he3 hd3
    have nL : a ≠ X.env.locals := fun z => nfr (List.mem_filterMap.mpr ⟨X.env, List.mem_cons_self, by rw [hf, z]⟩)
    have nF : a ∉ X.fs := fun hm => by
      obtain ⟨e, he, q⟩ := List.mem_filterMap.mp hm
      exact nfr (List.mem_filterMap.mpr ⟨e, List.mem_cons_of_mem _ he, q⟩)
    have nB : B.get? a = none := fl3.2.1
    have n0 : X.s_0.heap.get? a = none := by
      cases q : X.s_0.heap.get? a with
      | none => rfl
      | some o =>
        obtain ⟨o', q'⟩ := J.base.there a o q (by rw [hex]; simp)
        have := nb a o' q' (by rw [hs]; exact nfr)
        rw [nB] at this; cases this
    have npn : ∀ p ∈ X.pn ++ pins, p.1 ≠ a := fun p hp z => by
      obtain ⟨q1, q2, q3, q4, _⟩ := J.pin p hp
      have := nb p.1 p.2 q1 (fun hm => by
        rcases List.mem_cons.mp (J.stkSub _ hm) with q | q
        · exact q3 q
        · exact q4 q)
      rw [z, nB] at this; cases this
    have S3 := J3.suite he3 hd3 na nL nF
    refine wpAny_handleBy_cons (codeAny_handlers_test ?_) (by intro q; cases q)
    have LT : PySem.W.Looks (model X.prog X.w) h3 (typeOf (.ref a)) cls := fun A Q E s k q => wpAny_typeOf_ref (k _ _ he3) (by rw [hz3.1]; exact q)
    cases eb : sub ex.c with
    | none => simp only [catchAs, eb] at pc; exact pc.elim
    | some b =>
    have hb1 : PySem.W.exmOne X.K cls c = some b := by rw [xr.1]; exact hsub _ _ eb
    have LM := PySem.W.exm_one (M := model X.prog X.w) (J3.kIn) LT hb1
    have test : ∀ {Q : Value → Shared → Prop} {E : Value → Shared → Prop}, Q c { s' with heap := h3 } → wpAny (model X.prog X.w) (X.A.mark (some (.ref a))) (eval (.Name x np) X.env) Q E { s' with heap := h3 } := fun {Q E} q => by
      obtain ⟨hg, hdbg, hm | ⟨hm, hv, hnn⟩⟩ := hc
      · exact ld_glob (X := X.suite a ((a, oe3) :: (X.pn ++ pins))) S3 hg hm q hdbg
      · exact ld_blt (X := X.suite a ((a, oe3) :: (X.pn ++ pins))) S3 hg hm hv q hnn hdbg
    refine test (LM.here ?_)
    cases b with
    | true =>
      refine codeAny_handlers_suite_as ?_
      refine HandSPX.lands_againZ fl3 fun h4 fl4 up4 => ?_
      have J4 : L2.Inv X pins sg' H' { s' with heap := h4 } := J.landed nb fl4.1 ((up.trans up3).trans up4) os ag
      obtain ⟨oe4, vs4, he4, hz4, hd4⟩ := fl4.there
      have J5 := Inv.track J4 he4 hd4 na nL n0 npn
      rw [hz4.1, hz4.2] at J5
      have S4 := Inv.toSuite J5 a
      refine store_ok (X := X.suite a (X.pn ++ pins)) (v := .ref a) S4 hN hi hloc rfl (fun s5 S5 => ?_) (.inr hln)
      have xn := Ext.new (o := exH a cls d) dn na
      have pc' : PostS X.K C (fun _ _ _ _ => False) io1 (upd H' a (exH a cls d)) (ms (e1.set i (some (.exn ex.c ex.ns ex.xs))) S1) { nx := fun sg2 H2 => Dn.nx (sg2.set i none) H2, rt := Dn.rt, bk := fun sg2 H2 => Dn.bk (sg2.set i none) H2, ct := fun sg2 H2 => Dn.ct (sg2.set i none) H2 } := by
        have p1 := PostS.ext xn pc
        simp only [catchAs, eb] at p1
        cases q : ms (e1.set i (some (.exn ex.c ex.ns ex.xs))) S1 with
        | nx e2 S2 => rw [q] at p1; exact fun sg2 H2 io2 x2 d2 s2 => p1 _ H2 io2 x2 d2 (s2.none i)
        | rt d2 S2 => rw [q] at p1; exact p1
        | er y e2 S2 => rw [q] at p1; exact p1.elim
        | bad => rw [q] at p1; exact p1
      refine wpAny_mono ((hsu a (X.pn ++ pins)).run [] s5 _ _ _ S5 ⟨_, S1, io1, dn.new na, (sl.ext xn).set i (exn_rep dn na xr), pc'⟩) (fun f s6 hsp => ?_) (fun _ _ z => False.elim z)
      have end_ : ∀ {sg6 : L2.St} {H6 : Hp} {Q : Shared → Prop}, L2.Inv (X.suite a (X.pn ++ pins)) [] sg6 H6 s6 → (∀ s7, L2.Inv X pins (sg6.set i none) H6 s7 → Q s7) →
          wpAny (model X.prog X.w) X.A (do bindName X.env n .none; unbindBehindTheSuite X.env n pos') (fun _ s7 => Q s7) X.xe s6 := fun {sg6 H6 Q} S6 hq => gone_ok (Inv.offSuite S6 ok) hN hi hln hq
      cases f with
      | next =>
        obtain ⟨sg6, H6, S6, q6⟩ := hsp
        exact end_ S6 fun s7 J7 => ⟨_, _, J7, q6⟩
      | brk =>
        obtain ⟨sg6, H6, S6, q6⟩ := hsp
        exact end_ S6 fun s7 J7 => ⟨_, _, J7, q6⟩
      | cont =>
        obtain ⟨sg6, H6, S6, q6⟩ := hsp
        exact end_ S6 fun s7 J7 => ⟨_, _, J7, q6⟩
      | ret u =>
        obtain ⟨v6, sg6, H6, S6, r6, q6⟩ := hsp
        exact end_ S6 fun s7 J7 => ⟨_, _, _, J7, r6, q6⟩
    | false =>
      show wpAny _ X.A (handleBy (.ref a) X.env []) _ _ _
      refine wpAny_handleBy_nil ?_
      obtain ⟨k1, k2, k3, oe, vs, T, oT, ts', he, hz, hd, h1, hr⟩ := id fl3
      unfold PySem.passOn
      refine wpAny_bind (wpAny_field he hd h1 ?_)
      rw [if_neg (show ¬ ((Value.ref T == Value.none) = true) from by simp)]
      simp only [catchAs, eb] at pc
      have fin : wpAny (model X.prog X.w) X.A (setFlight (.ref a) X.env.frame) (fun _ s4 => wpAny (model X.prog X.w) X.A (throw (.ref a) : Sem Flow) (SP X pins Dn) X.xe s4) X.xe { s' with heap := h3 } := by
        rw [hf]
        refine HandSPX.setFlight_upZ fl3 fun h4 hh4 up4 => wpAny_throw (tk _ _ ?_)
        exact ⟨a, B, sI, pins, sg', H', cls, d, rfl, J, nb, (up.trans up3).trans up4, .inr (.inr (by rw [hs]; exact hh4)), na, os, ag, pc cls d sg' H' io1 (Ext.refl _ _) dn sl xr⟩
      first
        | exact wpAny_bind (wpAny_pure (wpAny_bind fin))
        | exact wpAny_bind fin
  · cases f with
    | next => obtain ⟨sg1, H1, I1, q⟩ := hsp; exact wpAny_execs_nil ⟨sg1, H1, I1.ofTry ok, q⟩
    | brk => obtain ⟨sg1, H1, I1, q⟩ := hsp; exact ⟨sg1, H1, I1.ofTry ok, q⟩
    | cont => obtain ⟨sg1, H1, I1, q⟩ := hsp; exact ⟨sg1, H1, I1.ofTry ok, q⟩
    | ret u => obtain ⟨v, sg1, H1, I1, r, q⟩ := hsp; exact ⟨v, sg1, H1, I1.ofTry ok, r, q⟩

/-! ### raise X('..') of an own class without an __init__ -/
def sRaise0 (c : Nat) : RS := fun e S => .er ⟨c, [], []⟩ e S
theorem s_raise0 (c : Nat) {m : Str} {j : Nat} {bmB : List Value} {B newId initId : String} {p p2 : Pos} (hc : X.calm = true) (tk : Takes X W) (F : ExcBaseFacts B newId initId bmB) (q : PySem.W.excIn X.K (C c) bmB newId = true) (gC : X.mg x = some (.ref (C c))) (kC : PySem.W.keepIn X.K (.ref (C c)) = true) (r : Raises X (.ref (C c))) (hg : Gl X x)
    (hdb : (x == ("__debug__" : Str)) = false := by decide) : PS X (.Raise (some (.Call (.Name x p) [.Constant (.str m) j p2] [] pos')) none pos) (tS X.K C W (sRaise0 c)) :=
  (ps_raise hc tk (pmk_own F q gC kC r hg hdb)).imp fun Dn sg H ⟨e, S, io, d, s, p⟩ => p _ _ sg H io (Ext.refl _ _) d s ⟨rfl, .inl ⟨rfl, rfl, rfl⟩⟩
end
end Ev
namespace Ev
open PySem PySem.Spec L2

/-! ### isinstance, any classes -/
/-- a value's class: a built-in one by its name, or one of ours by its number -/
abbrev TK := Sum String Nat
def tkV (C : Nat → Addr) : TK → Value
  | .inl t => .type t
  | .inr c => .ref (C c)
def tkD (S : Store) : D → Option TK
  | .exn c _ _ => some (.inr c)
  | d => (tyD S d).bind fun t => some (.inl t)
section
variable {X : Cx} {C : Nat → Addr} {W : WX} {pins : List (Addr × Obj)} {sg : L2.St} {H : Hp} {s : Shared} {io : Io} {S : Store} {d : D} {v : V} {u : Value} {k : TK}
theorem kitD (hX : ∀ c, k = .inr c → ExcC X.K (C c)) (h : tkD S d = some k) (I : L2.Inv X pins sg H s) (dn : Den X.K C io S H) (r : Rep X.K C io (Fz io H) d v) (ru : RelV v u) :
    ∃ P : Heap → Prop, PySem.W.KitX X.K u (tkV C k) P ∧ P s.heap ∧ u ≠ .builtin "__main__.__loader__#opaque" := by
  have base : ∀ t, tyD S d = some t → k = .inl t → ∃ P : Heap → Prop, PySem.W.KitX X.K u (tkV C k) P ∧ P s.heap ∧ u ≠ .builtin "__main__.__loader__#opaque" := fun t e1 e2 => by
    subst e2
    exact kit_of I ru (tyD_rep e1 dn r)
  have flat : (tyD S d).bind (fun t => some (Sum.inl t : TK)) = some k → ∃ P : Heap → Prop, PySem.W.KitX X.K u (tkV C k) P ∧ P s.heap ∧ u ≠ .builtin "__main__.__loader__#opaque" := fun h => by
    obtain ⟨t, e, e2⟩ := bind_some' h
    cases e2
    exact base t e rfl
  cases r with
  | @exn0 c a q =>
    cases h
    have E := hX c rfl
    obtain ⟨⟨oe, vs, h1, h2, h3, h4⟩, _, _⟩ := I.hok a _ (Fz_same _ _ _ _ q)
    cases ru
    refine ⟨fun h => PySem.W.InstAt h a oe (C c) none, PySem.W.handS_kitx_exc E.hg E.hk E.hs E.hd E.ha E.hn E.ht E.hm, ?_, fun z => nomatch z⟩
    obtain ⟨oc, od, oda, osl⟩ := oe
    dsimp only at h2 h3 h4
    subst h2 h3 h4
    exact ⟨h1, rfl, rfl, trivial⟩
  | @exnF c a dd fs ns vs ds q q2 e1 e2 rs =>
    cases h
    have E := hX c rfl
    obtain ⟨⟨oe, vs, h1, h2, h3, h4⟩, _, _⟩ := I.hok a _ (Fz_same _ _ _ _ q)
    obtain ⟨mA, ⟨od, _, _, ho, _⟩, _⟩ := I.hok dd _ (Fz_same _ _ _ _ q2)
    cases ru
    have hcl : (PySem.W.clsIn X.K (C c)).isSome = true := by
      obtain ⟨cd, hc, _⟩ := PySem.W.any_some E.hd
      rw [hc]; rfl
    refine ⟨fun h => PySem.W.InstAt h a oe (C c) (some od), PySem.W.kitx_exc hcl E.hg E.hk E.hs E.ha E.hn E.ht E.hm, ?_, fun z => nomatch z⟩
    obtain ⟨oc, odd, oda, osl⟩ := oe
    dsimp only at h2 h3 h4
    subst h2 h3 h4
    exact ⟨h1, rfl, rfl, ho⟩
  | non => exact flat h
  | bl b => exact flat h
  | int i => exact flat h
  | str x => exact flat h
  | tup q rs => exact flat h
  | lst q rs => exact flat h
  | dct q a b rs => exact flat h
  | loc q => exact flat h
end
def isiQ (kq : TK → Option Bool) (S : Store) (d : D) : Option D := (tkD S d).bind fun k => (kq k).bind fun b => some (.bl b)
def kqAny : List (TK → Option Bool) → TK → Option Bool
  | [], _ => some false
  | q :: qs, k => (q k).bind fun b => if b = true then some true else kqAny qs k
/-- the classes that a tuple names -/
def tCs (cs : List V) : TA := fun _ H Q => Q cs H
section
variable {X : Cx} {C : Nat → Addr} {W : WX} {a e2 : Expr} {es : List Expr} {ra : RE} {c : V} {cs : List V} {cv : Value} {cvs : List Value} {kq : TK → Option Bool} {pos p p' : Pos}
theorem tCs_nil : PA X [] (tCs []) := pa_nil
theorem tCs_cons (h : PE X e2 (tC c)) (hr : PA X es (tCs cs)) (hs : starEach (e2 :: es) X.env = (false, eval e2 X.env) :: starEach es X.env := by rfl) : PA X (e2 :: es) (tCs (c :: cs)) := pa_cons h hr hs
theorem ee_isiQ (ha : PE X a (tE X.K C W ra)) (hg : Gl X "isinstance") (hm : X.mg "isinstance" = none) (hc : PE X e2 (tC c)) (hk : ClsV c cv) (hq : ∀ k b, kq k = some b → PySem.W.kitOne X.K (tkV C k) cv = some b) (hX : ∀ n b, kq (.inr n) = some b → ExcC X.K (C n))
    (hv0 : bootBuiltins "isinstance" = some (.builtin "isinstance") := by decide +kernel)
    (he : starEach [a, e2] X.env = (false, eval a X.env) :: starEach [e2] X.env := by rfl) (he2 : starEach [e2] X.env = [(false, eval e2 X.env)] := by rfl) : PE X (.Call (.Name "isinstance" p) [a, e2] [] pos) (tE X.K C W (rUn (isiQ kq) ra)) := by
  have hC : CallR X (.builtin "isinstance") (fun xs H Q => ∃ x io S d k b, xs = [x, c] ∧ Den X.K C io S H ∧ Rep X.K C io (Fz io H) d x ∧ tkD S d = some k ∧ kq k = some b ∧ Q (.bl b) H) := by
    intro pins s sg H xs us Q I r ⟨x, io, S, d, k, b, hx, dn, rd, ek, eb, q⟩
    subst hx
    obtain ⟨u1, u2, rfl, r1, r2⟩ := vals2 r
    have e2 := hk.eq r2
    subst e2
    obtain ⟨P, Z, p, hx⟩ := kitD (fun n e => hX n b (by rw [← e]; exact eb)) ek I dn rd r1
    exact PySem.W.kia_one Z I.kIn p (hq k b eb) hx fun tk => ⟨.bl b, H, I.tok tk, rfl, q⟩
  exact (pe_callB hC hg hm hv0 (pa_cons ha (pa_cons hc pa_nil he2) he) (by decide) (by decide) he (by rw [he2]; rfl)).imp fun sg H Q h => (tR.seq1 (R := RepR X.K C) (fun _ d S => ofO (isiQ kq S d) S) h fun _ _ => rfl).mono fun v H1 ⟨e, S, io, d, dn, s, r, p⟩ => by
    obtain ⟨z, ez, p⟩ := p.ofO
    obtain ⟨t, et, ez⟩ := bind_some' ez
    obtain ⟨b, eb, ez⟩ := bind_some' ez
    cases ez
    exact ⟨v, io, S, d, t, b, rfl, dn, r, et, eb, p _ H1 io (Ext.refl _ _) dn (.bl _)⟩
inductive KqAll (K : PySem.W.Frag) (C : Nat → Addr) : List (TK → Option Bool) → List Value → Prop
  | nil : KqAll K C [] []
  | cons {q : TK → Option Bool} {qs : List (TK → Option Bool)} {v : Value} {vs : List Value} (h : ∀ k b, q k = some b → PySem.W.kitOne K (tkV C k) v = some b) (hX : ∀ n b, q (.inr n) = some b → ExcC K (C n)) (r : KqAll K C qs vs) : KqAll K C (q :: qs) (v :: vs)
theorem KqAll.any {K : PySem.W.Frag} : ∀ {qs : List (TK → Option Bool)} {vs : List Value}, KqAll K C qs vs → ∀ k b, kqAny qs k = some b → PySem.W.kitAny K (tkV C k) vs = some b
  | _, _, .nil, k, b, h => by cases h; exact kitAny_nil
  | _, _, .cons hq _ r, k, b, h => by
    obtain ⟨b1, e1, e2⟩ := bind_some' h
    cases b1 with
    | true =>
      rw [if_pos rfl] at e2
      cases e2
      exact kitAny_cons (hq k _ e1) (fun z => nomatch z) fun _ => rfl
    | false =>
      rw [if_neg Bool.false_ne_true] at e2
      exact kitAny_cons (hq k _ e1) (fun _ => KqAll.any r k b e2) fun z => nomatch z
theorem ee_isiT {qs : List (TK → Option Bool)} {kt : Nat} (ha : PE X a (tE X.K C W ra)) (hg : Gl X "isinstance") (hm : X.mg "isinstance" = none) (hc : PA X es (tCs cs)) (hk : Paired ClsV cs cvs) (hq : KqAll X.K C qs cvs) (hX : ∀ n b, kqAny qs (.inr n) = some b → ExcC X.K (C n)) (hl : cs.length ≤ sizeLine := by exact Nat.le_of_ble_eq_true rfl)
    (hv0 : bootBuiltins "isinstance" = some (.builtin "isinstance") := by decide +kernel)
    (he : starEach [a, .Tuple es kt p'] X.env = (false, eval a X.env) :: starEach [.Tuple es kt p'] X.env := by rfl) : PE X (.Call (.Name "isinstance" p) [a, .Tuple es kt p'] [] pos) (tE X.K C W (rUn (isiQ (kqAny qs)) ra)) := by
  have hC : CallR X (.builtin "isinstance") (fun xs H Q => ∃ x tp io S d k b, xs = [x, .ref tp] ∧ H tp = some (.tup cs) ∧ Den X.K C io S H ∧ Rep X.K C io (Fz io H) d x ∧ tkD S d = some k ∧ kqAny qs k = some b ∧ Q (.bl b) H) := by
    intro pins s sg H xs us Q I r ⟨x, tp, io, S, d, k, b, hx, hT, dn, rd, ek, eb, q⟩
    subst hx
    obtain ⟨u1, u2, rfl, r1, r2⟩ := vals2 r
    cases (show u2 = Value.ref tp from r2)
    obtain ⟨P, Z, p, hx⟩ := kitD (fun n e => hX n b (by rw [← e]; exact eb)) ek I dn rd r1
    obtain ⟨_, its, rv, o, h1, h2, n, h3⟩ := (show ObjOk X.prog X.w H s.heap tp (.tup cs) from I.hok tp _ hT)
    have e3 := ClsV.all hk rv
    subst e3
    obtain ⟨oc, od, dt, sl⟩ := o
    simp only at h2 h3
    subst h2 h3
    exact PySem.W.kia_tup Z I.kIn p h1 (hq.any k b eb) hx fun tk => ⟨.bl b, H, I.tok tk, rfl, q⟩
  exact (pe_callB hC hg hm hv0 (pa_cons ha (pa_cons (pe_tup hc) pa_nil rfl) he) (by decide) (by decide) he rfl).imp fun sg H Q h => (tR.seq1 (R := RepR X.K C) (fun _ d S => ofO (isiQ (kqAny qs) S d) S) h fun _ _ => rfl).mono fun v H1 ⟨e, S, io, d, dn, s, r, p⟩ => by
    obtain ⟨z, ez, p⟩ := p.ofO
    obtain ⟨t, et, ez⟩ := bind_some' ez
    obtain ⟨b, eb, ez⟩ := bind_some' ez
    cases ez
    refine ⟨hl, fun q hq' => ?_⟩
    have x1 := Ext.new (o := .tup cs) dn hq'
    exact ⟨v, q, io, S, d, t, b, rfl, upd_same, dn.new hq', r.ext x1, et, eb, p _ _ io x1 (dn.new hq') (.bl _)⟩
end

/-! ### the law's end -/
theorem law_end {K : PySem.W.Frag} {C : Nat → Addr} {g : List D → Store → Res D} {H : Hp} {a : Addr} {ns : List Int} (hS : SqL K H a (ns.map V.int)) (h : ∃ S', g [.lst (ns.map D.int)] [] = .ok (.bl true) S') :
    spOf K C 1 g [.ref a] H (fun v _ => v = .bl true) (fun _ _ _ => False) := by
  obtain ⟨S', e⟩ := h
  have e0 : Fz ⟨[], []⟩ H = H := by funext b; unfold Fz Io.all; simp
  have intsR : ∀ ms : List Int, Reps K C ⟨[], []⟩ H (ms.map D.int) (ms.map V.int) := fun ms => by
    induction ms with
    | nil => exact .nil
    | cons m r ih => exact .cons (.int m) ih
  refine ⟨rfl, [.lst (ns.map D.int)], [], ⟨[], []⟩, ⟨rfl, List.nodup_nil, fun n o a h => (by cases h), fun p h => (by cases h)⟩, .cons (.lst (by rw [e0]; exact hS) (by rw [e0]; exact intsR ns)) .nil, ?_⟩
  rw [e]
  exact fun v H' io' x d r => by cases r; rfl
theorem cx_end {P : Program} {w : World} {H : Hp} {s : Shared} {e : Value} {s' : Shared} (h : L2.CX P w [] H s (fun _ _ _ => False) e s') : False := by
  obtain ⟨_, _, _, _, _, _, _, _, _, _, _, _, h⟩ := h
  exact h
end Ev
namespace Ev
open PySem PySem.Spec L2
section
variable {X : Cx} {C : Nat → Addr} {W : WX} {pos : Pos} {x : Str}
theorem ee_gI {i : Int} (h : ∃ t, X.mg x = some (.int i t)) (hg : Gl X x := by rfl) (hd : (x == ("__debug__" : Str)) = false := by decide) : PE X (.Name x pos) (tE X.K C W (rCon (.int i))) :=
  let ⟨_, h⟩ := h
  ee_glob (v := .int i) hg h ⟨_, rfl⟩ (fun _ _ => .int _) hd
theorem ee_gS {z : Str} (h : ∃ t, X.mg x = some (.str z t)) (hg : Gl X x := by rfl) (hd : (x == ("__debug__" : Str)) = false := by decide) : PE X (.Name x pos) (tE X.K C W (rCon (.str z))) :=
  let ⟨_, h⟩ := h
  ee_glob (v := .str z) hg h ⟨_, rfl⟩ (fun _ _ => .str _) hd
/-- {} -/
def rDct0 : RE := fun _ S => .ok (.dct [] []) S
theorem ee_dct0 : PE X (.Dict [] [] pos) (tE X.K C W rDct0) := pe_dnewK.imp fun sg H Q ⟨e, S, io, d, s, p⟩ => fun q hq => by
  refine p _ _ io (Ext.new d hq) (d.new hq) (.dct (kvs := []) ?_ rfl rfl .nil)
  rw [Fz_out (d.fresh hq)]
  exact upd_same
end
/-! the end of a law -/
open PyProof.Rows PySem.W in
theorem walk_ev {l : PySem.W.OpenLaw} {n k : Nat} {q : Program} {loose : List Str} {XP : (Str → Option Value) → Heap → Prop} {YP : World → Heap → Prop} {d : DefRec} {K : Params → PySem.W.Frag} {x : Str} {g : List D → Store → Res D}
    (hn : l.most = some n) (hn2 : n ≤ sizeLine) (hdf : d.params.defaults = []) (hr : Room k callerA)
    (hY : ∀ (w : World) (h : Heap), YP w h → (K w.params).In h)
    (F : ∀ (w : World) (mg : Str → Option Value) (fa : Addr) (h : Heap), (K w.params).In h → h.Ns mainGlobals mg → mg d.name = some (.ref fa) →
      ∃ (fd : FuncData) (C : Nat → Addr), (∀ (s : Shared) (u : Value), BindsTo s fd ⟨[u], []⟩ [(x, u)]) ∧
        ∀ base : Heap, (K w.params).In base → base.Ns mainGlobals mg → FnOk l.prog w (K w.params) mg base (L2.CX l.prog w) k fa fd [x] (spOf (K w.params) C 1 g))
    (hg : ∀ ns : List Int, ns.length ≤ n → ∃ S', g [.lst (ns.map D.int)] [] = .ok (.bl true) S') :
    PySem.W.WalkO q loose XP YP l.row.toRowW d [] (fun f vs => PySem.call f vs) :=
  L2.walk_of (CX := fun w => L2.CX l.prog w) (sp := fun w vs H Q E => vs.length = 1 ∧ ∀ C, spOf (K w.params) C 1 g vs H Q E) hn hn2 hdf hr hY
    (fun w mg fa h hK hG hm => by
      obtain ⟨fd, C, hb, hF⟩ := F w mg fa h hK hG hm
      exact ⟨fd, hb, fun base h1 h2 => (hF base h1 h2).imp fun vs H Q E z => z.2 C⟩)
    (fun w H a ns hl hO hS => ⟨rfl, fun C => law_end hS (hg ns hl)⟩) (fun w H s e s' h => cx_end h)
end Ev
namespace Ev
open PySem PySem.Spec L2

/-! ### list comprehensions -/
def wipeE (e : Env) : List Nat → Env
  | [] => e
  | v :: vs => (wipeE e vs).set v none
def Res.calm {A : Type} : Res A → Res A
  | .ok a S => .ok a S
  | _ => .bad
def lcL (t : Tg) (c : RT) (elt : RE) (e0 : Env) : List D → Store → Res (List D)
  | [], S => .ok [] S
  | d :: ds, S => match bindT S d e0 t with
    | none => .bad
    | some e1 => (c e1 S).bind fun k S1 => if k = true then (elt e1 S1).bind fun y S2 => (lcL t c elt e0 ds S2).bind fun ys S3 => .ok (y :: ys) S3 else lcL t c elt e0 ds S1
def frzL : List D → Store → Res D := fun ys S => .ok (.lst ys) S
def mutL : List D → Store → Res D := fun ys S => .ok (.loc S.length) (S ++ [.lst ys])
def rLc (fin : List D → Store → Res D) (it : RA) (t : Tg) (vs : List Nat) (c : RT) (elt : RE) : RE := fun e S => (it e S).bind fun ds S1 => if ds.length ≤ sizeLine then (lcL t c elt (wipeE e vs) ds S1).calm.bind fin else .bad
def rYes : RT := fun _ S => .ok true S
theorem Slots.wipe {K : PySem.W.Frag} {C : Nat → Addr} {io : Io} {F : Hp} {e : Env} {sg : L2.St} (s : Slots K C io F e sg) : ∀ vs : List Nat, Slots K C io F (wipeE e vs) (wipe sg vs)
  | [] => s
  | v :: vs => (Slots.wipe s vs).none v
/-- what the end of a comprehension may do with the list at p -/
def FinOk (fin : List D → Store → Res D) : Prop := ∀ (K : PySem.W.Frag) (C : Nat → Addr) (W : WX) (sg : L2.St) (io0 io : Io) (H0 H : Hp) (S : Store) (p : Addr) (ys : List D) (vs : List V) (Q : VK),
  (∀ (n : Nat) (a : Addr), io0.l[n]? = some a → io.l[n]? = some a) → io.h = io0.h → Same (Fz io0 H0) (Fz (io.hide p (.lst vs)) H) → Den K C (io.hide p (.lst vs)) S H → Reps K C io (Fz (io.hide p (.lst vs)) H) ys vs → Post K C (RepR K C) W sg io0 H0 (fin ys S) Q → Q (.ref p) H
theorem frzL_ok : FinOk frzL := fun K C W sg io0 io H0 H S p ys vs Q hp hh hs dn rs post => by
  obtain ⟨d1, np, e⟩ := dn.unhide
  obtain ⟨s1, e1⟩ := Fz_unhide np e
  exact post _ H io ⟨hp, hh, hs.trans s1⟩ d1 (.lst (.inl (.inl e1)) (rs.mono (fun _ _ h => h) s1))
theorem Fz_adopt {io : Io} {H : Hp} {p : Addr} {o : HO} : Fz (io.add p) H = Fz (io.hide p o) H := by
  funext b
  unfold Fz
  simp only [mem_add, mem_hide]
theorem mutL_ok : FinOk mutL := fun K C W sg io0 io H0 H S p ys vs Q hp hh hs dn rs post => by
  obtain ⟨d1, np, e⟩ := dn.unhide
  have hpre : ∀ (n : Nat) (a : Addr), io.l[n]? = some a → (io.add p).l[n]? = some a := fun n a h => by
    show (io.l ++ [p])[n]? = some a
    rw [List.getElem?_append_left (List.getElem?_eq_some_iff.mp h).1]; exact h
  have hs2 : Same (Fz (io.hide p (.lst vs)) H) (Fz (io.add p) H) := by rw [Fz_adopt (o := .lst vs)]; exact fun _ _ h => h
  refine post _ H (io.add p) ⟨fun n a h => hpre n a (hp n a h), hh, hs.trans hs2⟩ ⟨by simp [Io.add, d1.len], nodup_add d1.nd np, fun n x a e1 e2 => ?_, fun q hq => d1.hid q hq⟩ (.loc ?_)
  · have e2' : (io.l ++ [p])[n]? = some a := e2
    by_cases hn : n < io.l.length
    · rw [List.getElem?_append_left hn] at e2'
      rw [List.getElem?_append_left (by rw [← d1.len]; exact hn)] at e1
      have q := dn.obj n x a e1 e2'
      cases x with
      | lst zs => obtain ⟨us, h1, h2⟩ := q; exact ⟨us, h1, h2.mono (io := io.hide p (.lst vs)) hpre hs2⟩
      | dK ks zs => obtain ⟨us, h1, h2, h3⟩ := q; exact ⟨us, h1, h2, h3.mono (io := io.hide p (.lst vs)) hpre hs2⟩
      | ins c ns zs => obtain ⟨dx, fs, h1, h2, h3, h4⟩ := q; exact ⟨dx, fs, h1, h2, h3, h4.mono (io := io.hide p (.lst vs)) hpre hs2⟩
    · have h1 : n = io.l.length := by
        have := (List.getElem?_eq_some_iff.mp e2').1
        simp at this; omega
      subst h1
      rw [List.getElem?_append_right (Nat.le_refl _)] at e2'
      rw [d1.len, List.getElem?_append_right (Nat.le_refl _)] at e1
      simp at e1 e2'
      subst e1; subst e2'
      exact ⟨vs, e, rs.mono hpre hs2⟩
  · rw [← d1.len]
    show (io.l ++ [p])[io.l.length]? = some p
    rw [List.getElem?_append_right (Nat.le_refl _)]; simp
def gTg (K : PySem.W.Frag) (C : Nat → Addr) (t : Tg) : TG := fun v sg H Q => ∃ e S io d e', Den K C io S H ∧ Slots K C io (Fz io H) e sg ∧ Rep K C io (Fz io H) d v ∧ bindT S d e t = some e' ∧ ∀ sg', Slots K C io (Fz io H) e' sg' → Agree t sg sg' → Q sg' H
section
variable {X : Cx} {C : Nat → Addr} {W : WX} {elt tg iter : Expr} {ifs : List Expr} {scope : Scope} {own : List (Str × Nat)} {pos : Pos} {ri : RA} {t : Tg} {rc : RT} {re : RE} {fin : List D → Store → Res D}
/-- the reading of a comprehension -/
theorem lc_read (hfin : FinOk fin) (sg : L2.St) (H : Hp) (Q : VK) (vs : List Nat) (hv : ∀ i ∈ t.ixs, i ∈ vs) (h : tE X.K C W (rLc fin ri t vs rc re) sg H Q) :
    tLc (tI X.K C W ri) (gTg X.K C t)
      (tT X.K C (fun _ _ _ _ => False) rc) (tE X.K C (fun _ _ _ _ => False) re) vs sg H Q := by
  refine (tR.seq1 (R := Wk X.K C) (fun e ds S1 => if ds.length ≤ sizeLine then (lcL t rc re (wipeE e vs) ds S1).calm.bind fin else .bad) h fun _ _ => rfl).mono fun J H1 ⟨e, S, io, ds, dn, sl, wk, post⟩ => ?_
  split at post
  · rename_i hz
    intro p hp
    let Done : List D → Store → Prop := fun ys S2 => Post X.K C (RepR X.K C) W sg io H1 (fin ys S2) Q
    refine ⟨fun i m H' => m + i = ds.length ∧ ∃ S' io' acc ys, (∀ (n : Nat) (a : Addr), io.l[n]? = some a → io'.l[n]? = some a) ∧ io'.h = io.h ∧ Same (Fz io H1) (Fz (io'.hide p (.lst acc)) H') ∧
        Den X.K C (io'.hide p (.lst acc)) S' H' ∧ Reps X.K C io' (Fz (io'.hide p (.lst acc)) H') ys acc ∧ acc.length ≤ i ∧ ∃ zs S2, lcL t rc re (wipeE e vs) (ds.drop i) S' = .ok zs S2 ∧ Done (ys ++ zs) S2,
      ⟨ds.length, rfl, S, io, [], [], fun _ _ h => h, rfl, by rw [Fz_hide hp]; exact fun _ _ h => h, dn.hide hp rfl, .nil, Nat.le_refl _, ?_⟩, fun i m H' ⟨hm, S', io', acc, ys, h1, h2, h3, d', rs, hl, zs, S2, hlc, hd⟩ => ?_⟩
    · cases q : lcL t rc re (wipeE e vs) ds S with
      | ok zs S2 => rw [q] at post; exact ⟨zs, S2, q, post⟩
      | err x S2 => rw [q] at post; exact post.elim
      | bad => rw [q] at post; exact post.elim
    obtain ⟨go, stop, yld⟩ := wk (io'.hide p (.lst acc)) H' S' h1 h3 d'
    by_cases hi : i < ds.length
    · rw [List.drop_eq_getElem_cons hi] at hlc
      refine .inr ⟨go i hi, fun H2 => ∃ S' io' acc ys, (∀ (n : Nat) (a : Addr), io.l[n]? = some a → io'.l[n]? = some a) ∧ io'.h = io.h ∧ Same (Fz io H1) (Fz (io'.hide p (.lst acc)) H2) ∧
        Den X.K C (io'.hide p (.lst acc)) S' H2 ∧ Reps X.K C io' (Fz (io'.hide p (.lst acc)) H2) ys acc ∧ acc.length ≤ i + 1 ∧ ∃ zs S2, lcL t rc re (wipeE e vs) (ds.drop (i + 1)) S' = .ok zs S2 ∧ Done (ys ++ zs) S2, fun H2 h2 => ⟨m - 1, by omega, by omega, h2⟩, fun x H2 y => ?_⟩
      obtain ⟨d, ed, x2, d2, r2⟩ := yld i x H2 hi y
      have ed' : ds[i] = d := by rw [List.getElem?_eq_getElem hi] at ed; exact Option.some.inj ed
      rw [ed'] at hlc
      unfold lcL at hlc
      cases hb : bindT S' d (wipeE e vs) t with
      | none => rw [hb] at hlc; cases hlc
      | some e1 =>
        rw [hb] at hlc
        dsimp only at hlc
        have hs2 : Slots X.K C (io'.hide p (.lst acc)) (Fz (io'.hide p (.lst acc)) H2) (wipeE e vs) (wipe sg vs) := by
          have s0 := sl.wipe vs
          refine ⟨s0.len, fun j q hq => ?_⟩
          obtain ⟨v, v1, v2⟩ := s0.get j q hq
          exact ⟨v, v1, (v2.mono (io' := io'.hide p (.lst acc)) h1 h3).mono (fun _ _ z => z) x2.same⟩
        refine ⟨wipeE e vs, S', io'.hide p (.lst acc), d, e1, d2, hs2, r2, hb, fun sg3 s3 ag => ⟨?_, e1, S', io'.hide p (.lst acc), d2, s3, ?_⟩⟩
        · rw [ag vs hv]
          have : ∀ s : L2.St, wipe (wipe s vs) vs = wipe s vs := fun s => by
            apply List.ext_getElem?
            intro j
            rw [wipe_get, wipe_get, wipe_length]
            by_cases hj : j ∈ vs <;> simp [hj]
          exact this sg
        cases hc : rc e1 S' with
        | err y Sy => rw [hc] at hlc; cases hlc
        | bad => rw [hc] at hlc; cases hlc
        | ok k S3 =>
          rw [hc] at hlc
          intro b H3 io3 x3 d3 eb
          cases eb
          -- the list that is filled is still there
          have hh3 : io3.h = (p, HO.lst acc) :: io'.h := x3.hid
          have e3 : io3 = (⟨io3.l, io'.h⟩ : Io).hide p (.lst acc) := by unfold Io.hide; rw [← hh3]
          cases k with
          | false =>
            replace hlc : lcL t rc re (wipeE e vs) (ds.drop (i + 1)) S3 = .ok zs S2 := hlc
            rw [if_neg Bool.false_ne_true]
            have px := x2.trans x3
            refine ⟨S3, ⟨io3.l, io'.h⟩, acc, ys, fun n a hn => px.pre n a (h1 n a hn), h2, ?_, ?_, ?_, by omega, zs, S2, hlc, hd⟩
            · rw [← e3]; exact h3.trans px.same
            · rw [← e3]; exact d3
            · rw [← e3]; exact rs.mono (io := io') (io' := ⟨io3.l, io'.h⟩) px.pre px.same
          | true =>
            replace hlc : ((re e1 S3).bind fun y S2 => (lcL t rc re (wipeE e vs) (ds.drop (i + 1)) S2).bind fun ys S3 => Res.ok (y :: ys) S3) = .ok zs S2 := hlc
            rw [if_pos rfl]
            refine ⟨e1, S3, io3, d3, s3.ext x3, ?_⟩
            cases he : re e1 S3 with
            | err y Sy => rw [he] at hlc; cases hlc
            | bad => rw [he] at hlc; cases hlc
            | ok y1 S4 =>
              rw [he] at hlc
              replace hlc : ((lcL t rc re (wipeE e vs) (ds.drop (i + 1)) S4).bind fun ys S3 => Res.ok (y1 :: ys) S3) = .ok zs S2 := hlc
              intro v H4 io4 x4 d4 r4
              have hh4 : io4.h = (p, HO.lst acc) :: io'.h := x4.hid.trans hh3
              have e4 : io4 = (⟨io4.l, io'.h⟩ : Io).hide p (.lst acc) := by unfold Io.hide; rw [← hh4]
              have px := (x2.trans x3).trans x4
              have hD : H4 p = some (.lst acc) := (d4.hid (p, .lst acc) (by rw [hh4]; exact List.mem_cons_self)).1
              refine ⟨acc, hD, by omega, ?_⟩
              cases hr : lcL t rc re (wipeE e vs) (ds.drop (i + 1)) S4 with
              | err q Sq => rw [hr] at hlc; cases hlc
              | bad => rw [hr] at hlc; cases hlc
              | ok zs' S5 =>
                rw [hr] at hlc
                cases hlc
                have fz : Fz ((⟨io4.l, io'.h⟩ : Io).hide p (.lst (acc ++ [v]))) (upd H4 p (.lst (acc ++ [v]))) = Fz io4 H4 := by
                  rw [Fz_hide_put (o := .lst acc), ← e4]
                refine ⟨S4, ⟨io4.l, io'.h⟩, acc ++ [v], ys ++ [y1], fun n a hn => px.pre n a (h1 n a hn), h2, ?_, ?_, ?_, by simp; omega, zs', S2, hr, by rw [List.append_assoc]; exact hd⟩
                · rw [fz]; exact h3.trans px.same
                · rw [e4] at d4
                  exact d4.rehide rfl
                · rw [fz]
                  exact (rs.mono (io := io') (io' := ⟨io4.l, io'.h⟩) px.pre px.same).append (.cons (r4.mono (io := io4) (io' := ⟨io4.l, io'.h⟩) (fun _ _ z => z) fun _ _ z => z) .nil)
    · have e1 : ds.length = i := by omega
      rw [List.drop_of_length_le (by omega)] at hlc
      cases hlc
      rw [e1] at stop
      rw [List.append_nil] at hd
      exact .inl ⟨stop, hfin X.K C W sg io io' H1 H' S' p ys acc Q h1 h2 h3 d' rs hd⟩
  · exact post.elim
theorem ee_lc {vs : List Nat} (hfin : FinOk fin) (hc : X.calm = true) (hN : X.N.Nodup) (hi : PI X tg iter (tI X.K C W ri)) (ok : BlkOk X.N X.env.scope scope own) (hw : own.map (·.2) = vs) (hv : ∀ i ∈ t.ixs, i ∈ vs)
    (hg : ∀ (s : Shared) (H : Hp) (A : Addr) (cl : List (Str × Addr)) (fp : List Addr), GD (X.blk s H scope (compEnvC scope cl A X.env) fp) C tg t)
    (ht : ∀ (s : Shared) (H : Hp) (A : Addr) (cl : List (Str × Addr)) (fp : List Addr), PTs (X.blk s H scope (compEnvC scope cl A X.env) fp) ifs (tT X.K C (fun _ _ _ _ => False) rc))
    (he : ∀ (s : Shared) (H : Hp) (A : Addr) (cl : List (Str × Addr)) (fp : List Addr), PE (X.blk s H scope (compEnvC scope cl A X.env) fp) elt (tE X.K C (fun _ _ _ _ => False) re)) (hs : ∀ x, foldedSetIterable iter X.env x = pure x := by intro _; rfl) :
    PE X (.ListComp elt [⟨tg, iter, ifs, 0⟩] scope pos) (tE X.K C W (rLc fin ri t vs rc re)) := by
  subst hw
  exact (pe_lc (g := gTg X.K C t) hc hN hi ok hg ht he hs).imp fun sg H Q h => lc_read hfin sg H Q _ hv h
theorem s_setLc (i : Nat) {vs : List Nat} {y : Str} {py spos : Pos} (hfin : FinOk fin) (hc : X.calm = true) (hN : X.N.Nodup) (hsw : swapsWith (.ListComp elt [⟨tg, iter, ifs, 0⟩] scope pos) (some (.Name y py)) spos.line X.env = pure true)
    (hi : PI X tg iter (tI X.K C W ri)) (ok : BlkOk X.N X.env.scope scope own) (hw : own.map (·.2) = vs) (hv : ∀ i ∈ t.ixs, i ∈ vs)
    (hg : ∀ (s : Shared) (H : Hp) (A : Addr) (cl : List (Str × Addr)) (fp : List Addr), GD (X.blk s H scope (compEnvC scope cl A X.env) fp) C tg t)
    (ht : ∀ (s : Shared) (H : Hp) (A : Addr) (cl : List (Str × Addr)) (fp : List Addr), PTs (X.blk s H scope (compEnvC scope cl A X.env) fp) ifs (tT X.K C (fun _ _ _ _ => False) rc))
    (he : ∀ (s : Shared) (H : Hp) (A : Addr) (cl : List (Str × Addr)) (fp : List Addr), PE (X.blk s H scope (compEnvC scope cl A X.env) fp) elt (tE X.K C (fun _ _ _ _ => False) re)) (hs : ∀ x, foldedSetIterable iter X.env x = pure x := by intro _; rfl)
    (hy : X.N[i]? = some y := by rfl) (hyl : X.env.scope.names.lookup y = some .local := by rfl) :
    PS X (.Assign [.Name y py] (.ListComp elt [⟨tg, iter, ifs, 0⟩] scope pos) spos) (tS X.K C W (sSet i (rLc fin ri t vs rc re))) := by
  subst hw
  exact (ps_setLc (g := gTg X.K C t) hc hN hy hyl hsw hi ok hg ht he hs).imp fun Dn sg H h => lc_read hfin sg H _ _ hv ((tS.seq (R := RepR X.K C) (fun e d S1 => .nx (e.set i (some d)) S1) h fun _ _ => rfl).mono fun v H1 ⟨e, S, io, k1, d, s, q, p⟩ => p _ H1 io (Ext.refl _ _) d (s.set i q))
theorem et_yes : PTs X [] (tT X.K C W rYes) := ⟨fun pins s sg H Q I h => pts_nil.run pins s sg H Q I (by
  obtain ⟨e, S, io, d, sl, p⟩ := h
  exact p true H io (Ext.refl _ _) d rfl)⟩
theorem et_if1 {c : Expr} (h : PT X c (tT X.K C W rc)) : PTs X [c] (tT X.K C W rc) := pts_one h
end
end Ev
namespace Ev
open PySem PySem.Spec L2 PyProof.Rows

/-! ### enumerate -/
/-- the signs of a text, each in a new pair with its place -/
def ItEs (x : Str) : It := ⟨fun i _ => i < x.cps.size, fun i H v H' => ∃ T c, x.cps[i]? = some c ∧ v = .ref T ∧ H T = none ∧ H' = upd H T (.tup [.int (i : Nat), .str ⟨#[c]⟩]), fun i _ => x.cps.size ≤ i⟩
theorem draws_str {P : Program} {w : World} {A : Around} (hh : A.handled = none) (it : Addr) (x : Str) (t : Tok) :
    Draws P w A it [it] x.cps.size (fun i v => ∃ c u, x.cps[i]? = some c ∧ v = .str ⟨#[c]⟩ u) (fun i h => h.IsStrIter it (strIterType x) x t i) := by
  unfold strIterType
  split
  · exact Draws.strAscii hh it x t
  · exact Draws.strWide hh it x t
theorem turn_enumS {P : Program} {w : World} {K : PySem.W.Frag} {elts : List Expr} {kk : Nat} {tpos : Pos} (x : Str) (t : Tok) (e it : Addr) :
    Turn P w K (.Tuple elts kk tpos) (ItEs x) [e, it] e (fun i h => (∃ old, IsEnum h e it ((i : Nat) : Int) old) ∧ h.IsStrIter it (strIterType x) x t i ∧ e ≠ it ∧ i ≤ x.cps.size) where
  mem := by simp
  obj := fun i h st b hb => by
    obtain ⟨⟨old, he⟩, ⟨o, ho, hc, hd⟩, _⟩ := st
    have e' : b = e ∨ b = it := by simpa using hb
    rcases e' with z | z
    · rw [z]; exact ⟨_, he, fun v q => nomatch q⟩
    · rw [z]; exact ⟨o, ho, fun v q => by rw [hd] at q; cases q⟩
  keep := fun i h h' st k => let ⟨⟨old, he⟩, ⟨o, ho, r⟩, hne, hle⟩ := st; ⟨⟨old, k e (by simp) _ he⟩, ⟨o, k it (by simp) o ho, r⟩, hne, hle⟩
  item := by
    intro X hP hw hK hc i pins s σ H E I hf st hg
    subst hP hw hK
    obtain ⟨⟨old, he⟩, hit, hne, hle⟩ := st
    have hel : e < s.heap.objs.size := Heap.lt_size he
    have hil : it < s.heap.objs.size := by obtain ⟨_, q, _⟩ := hit; exact Heap.lt_size q
    refine wpAny_pyNext_enum_itemD (draws_str (A := X.A.in1) (show X.A.in1.handled = none from I.ok.hd hc) it x t) he hit hg hne (by simp only [List.mem_singleton]; exact hne) fun v h' tk hv ho hit' hT hsz hk => ?_
    obtain ⟨c, u, hcx, rfl⟩ := hv
    refine ⟨_, rfl, wpAny_letOwnedTupleGo_enum (s := { s with heap := h', toks := tk + 1 }) ho fun h'' he' sb => ?_⟩
    have hT2 : h''.get? s.heap.objs.size = some { cls := .type "tuple", data := .seq #[.int i tk, .str ⟨#[c]⟩ u] } := (sb.2 _ (Nat.ne_of_gt hel)).trans hT
    have new : ObjOk X.prog X.w (upd H s.heap.objs.size (.tup [.int (i : Nat), .str ⟨#[c]⟩])) h'' s.heap.objs.size (.tup [.int (i : Nat), .str ⟨#[c]⟩]) :=
      ⟨by show 2 ≤ sizeLine; decide, [.int i tk, .str ⟨#[c]⟩ u], .cons ⟨_, rfl⟩ (.cons ⟨_, rfl⟩ .nil), ⟨_, hT2, rfl, _, rfl⟩⟩
    have I1 : Inv X pins σ (upd H s.heap.objs.size (.tup [.int (i : Nat), .str ⟨#[c]⟩])) { s with heap := h'', toks := tk + 1 } :=
      I.turnedNew (ch := [e, it]) (fun b ob hb q => (sb.2 b (fun z => hb (by simp [z]))).trans (hk b ob (fun z => hb (by simp [z])) (fun z => hb (by simp [z])) q)) hf (Nat.le_refl _) new
    refine ⟨.ref s.heap.objs.size, _, I1, rfl, ⟨_, c, hcx, rfl, I.hok.fresh (Nat.le_refl _), rfl⟩, ⟨⟨.str ⟨#[c]⟩ u, ?_⟩, ?_, hne, hg⟩, fun b hb => ?_⟩
    · have e1 : ((i + 1 : Nat) : Int) = (i : Int) + 1 := by omega
      rw [e1]; exact he'
    · obtain ⟨o, ho2, r⟩ := hit'
      exact ⟨o, (sb.2 it (Ne.symm hne)).trans ho2, r⟩
    · have hb' : b < s.heap.objs.size := by
        have e' : b = e ∨ b = it := by simpa using hb
        rcases e' with z | z
        · rw [z]; exact hel
        · rw [z]; exact hil
      rw [upd_ne (Nat.ne_of_lt hb')]
      exact (hf b hb).1
  done := by
    intro X hP hw hK hc i pins s σ H E I hf st hg
    subst hP hw hK
    obtain ⟨⟨old, he⟩, hit, hne, hle⟩ := st
    obtain ⟨f0, f1, f2, f3, f4, f5⟩ := hf it (by simp)
    have hi : i = x.cps.size := Nat.le_antisymm hle hg
    subst hi
    exact wpAny_pyNext_enum_endD (draws_str (A := X.A.in1) (show X.A.in1.handled = none from I.ok.hd hc) it x t) he hit fun h' eb => ⟨rfl, I.turned (t' := s.toks) (fun b o hb q => eb b o hb q) f0 f1 f3 f4 f5⟩
  self := fun A i s Q E st h => let ⟨⟨_, he⟩, _⟩ := st; wpAny_pyIter_enum he h
theorem wk_enumS {K : PySem.W.Frag} {C : Nat → Addr} {io : Io} {F : Hp} (x : Str) : Wk K C io F ((signsD x).mapIdx fun i d => .tup [.int (i : Nat), d]) (ItEs x) := fun io' H' S' hp hs dn => by
  have hl : ((signsD x).mapIdx fun i d => D.tup [.int (i : Nat), d]).length = x.cps.size := by simp [signsD]
  refine ⟨fun i hi => by rw [hl] at hi; exact hi, by show x.cps.size ≤ _; rw [hl]; exact Nat.le_refl _, fun i v H'' hi y => ?_⟩
  obtain ⟨T, c, hc, rfl, hT, rfl⟩ := y
  obtain ⟨x1, d1, r1⟩ := new_tup (xs := [.int (i : Nat), .str ⟨#[c]⟩]) dn (.cons (.int _) (.cons (.str _) .nil)) hT
  exact ⟨.tup [.int (i : Nat), .str ⟨#[c]⟩], by simp [signsD, hc], x1, d1, r1⟩
theorem wk_enumL {K : PySem.W.Frag} {C : Nat → Addr} {io : Io} {F : Hp} {a : Addr} {vs : List V} {ds : List D} (h : SqL K F a vs) (r : Reps K C io F ds vs) : Wk K C io F (ds.mapIdx fun i d => .tup [.int (i : Nat), d]) (Ite K a) := fun io' H' S' hp hs dn => by
  have h' : SqL K H' a vs := (Fz_same _ _).seq (hs.seq h)
  have hl : (ds.mapIdx fun i d => D.tup [.int (i : Nat), d]).length = ds.length := by simp
  refine ⟨fun i hi => ?_, ⟨vs, h', by rw [hl, r.length]; exact Nat.le_refl _⟩, fun i x H'' hi y => ?_⟩
  · have hv : i < vs.length := by rw [← r.length, ← hl]; exact hi
    exact ⟨vs, vs[i], h', by simp [hv]⟩
  · obtain ⟨T, x, rfl, hT, rfl, hx⟩ := y
    obtain ⟨d, e1, e2⟩ := r.getV (hx vs h')
    obtain ⟨x1, d1, r1⟩ := new_tup (xs := [.int (i : Nat), d]) dn (.cons (.int _) (.cons (e2.mono hp hs) .nil)) hT
    exact ⟨.tup [.int (i : Nat), d], by simp [e1], x1, d1, r1⟩
def enumD : List D → Option (List D)
  | [.str x] => some ((signsD x).mapIdx fun i d => .tup [.int (i : Nat), d])
  | [.lst xs] => some (xs.mapIdx fun i d => .tup [.int (i : Nat), d])
  | _ => none
section
variable {X : Cx} {C : Nat → Addr} {W : WX} {e : Expr} {rs : RA} {pos p tpos : Pos} {elts : List Expr} {kk : Nat}
theorem ei_enum (hg : Gl X "enumerate") (hm : X.mg "enumerate" = none) (ha : PA X [e] (tA X.K C W rs)) (hs : starEach [e] X.env = [(false, eval e X.env)] := by rfl) : PI X (.Tuple elts kk tpos) (.Call (.Name "enumerate" p) [e] [] pos) (tI X.K C W (rRan enumD rs)) := by
  have hi : PI X (.Tuple elts kk tpos) (.Call (.Name "enumerate" p) [e] [] pos) (fun sg H R => tA X.K C W rs sg H fun vs H1 => (∃ a xs, vs = [.ref a] ∧ SqL X.K H1 a xs ∧ R (Ite X.K a) H1) ∨ (∃ x, vs = [.str x] ∧ R (ItEs x) H1)) := by
    refine ⟨fun pins s σ H R I h => ?_⟩
    refine Call_ (ld_blt I hg hm boot_enumerate (PyProof.Rows.callWith_type1 (thn (ha.run pos pins s σ H _ I h) fun us s1 ⟨vs, H1, I1, r1, q1⟩ => ?_) hs rfl))
    have fp : ∀ b ∈ [s1.heap.objs.size + 1, s1.heap.objs.size], s1.heap.objs.size ≤ b := fun b hb => by
      have e' : b = s1.heap.objs.size + 1 ∨ b = s1.heap.objs.size := by simpa using hb
      omega
    rcases q1 with ⟨a, xs, rfl, hq, q⟩ | ⟨x, rfl, q⟩
    · obtain ⟨u, rfl, r⟩ := r1.one
      cases r
      obtain ⟨its, rv, p', hz⟩ := I1.list hq
      refine call_enumerate_list p'.isList fun h' he hit hsz hk => wpAny_pyIter_enum he ?_
      have I2 : L2.Inv X pins σ H1 { s1 with heap := h' } := I1.kept (t' := s1.toks) hk
      exact ⟨s1.heap.objs.size + 1, [s1.heap.objs.size + 1, s1.heap.objs.size], _, _, H1, rfl, I2, turn_enum a (s1.heap.objs.size + 1) s1.heap.objs.size, ⟨⟨.none, he⟩, hit, Nat.succ_ne_self _⟩, fun b hb => I1.fpOk (fp b hb) (I1.hok.fresh (fp b hb)), q⟩
    · obtain ⟨u, rfl, r⟩ := r1.one
      obtain ⟨t, rfl⟩ := r
      refine call_enumerate_str fun h' he hit hsz hk => wpAny_pyIter_enum he ?_
      have I2 : L2.Inv X pins σ H1 { s1 with heap := h' } := I1.kept (t' := s1.toks) hk
      exact ⟨s1.heap.objs.size + 1, [s1.heap.objs.size + 1, s1.heap.objs.size], _, _, H1, rfl, I2, turn_enumS x t (s1.heap.objs.size + 1) s1.heap.objs.size, ⟨⟨.none, he⟩, hit, Nat.succ_ne_self _, Nat.zero_le _⟩, fun b hb => I1.fpOk (fp b hb) (I1.hok.fresh (fp b hb)), q⟩
  refine hi.imp fun sg H R h => (tR.seq1 (R := RepsR X.K C) (fun _ ds S => ofO (enumD ds) S) h fun _ _ => rfl).mono fun vs H1 ⟨e, S, io, ds, dn, s, r, p1⟩ => ?_
  obtain ⟨zs, ed, p1⟩ := p1.ofO
  unfold enumD at ed
  split at ed
  · cases ed
    obtain ⟨v, rfl, h⟩ := reps1 r
    cases h
    exact .inr ⟨_, rfl, p1 _ H1 io (Ext.refl _ _) dn (wk_enumS _)⟩
  · cases ed
    obtain ⟨v, rfl, h⟩ := reps1 r
    cases h with
    | lst q rs => exact .inl ⟨_, _, rfl, (Fz_same _ _).seq q, p1 _ H1 io (Ext.refl _ _) dn (wk_enumL q rs)⟩
  · cases ed
end
end Ev
namespace Ev
open PySem PySem.Spec L2

/-! ### in, not in -/
def strIn (i j : Str) : Bool := !(Builtin.Str.occurrences j i 0 j.length 1).isEmpty
def inAny (ps : List PyData) (p : PyData) : Bool := ps.any fun y => PyData.eqv y p
def seqP : PyData → Option (List PyData)
  | .list ps => some ps
  | .tuple ps => some ps
  | _ => none
def inB (S : Store) : D → D → Option Bool
  | .str i, .str j => some (strIn i j)
  | a, b => (pyD S deepN a).bind fun x => (pyD S deepN b).bind fun y => (seqP y).bind fun ps => some (inAny ps x)
def inD (S : Store) (a b : D) : Option D := (inB S a b).bind fun k => some (.bl k)
def ninD (S : Store) (a b : D) : Option D := (inB S a b).bind fun k => some (.bl (!k))
theorem inB_cases {S : Store} {a b : D} {k : Bool} (h : inB S a b = some k) : (∃ i j, a = .str i ∧ b = .str j ∧ k = strIn i j) ∨ ∃ x y ps, pyD S deepN a = some x ∧ pyD S deepN b = some y ∧ seqP y = some ps ∧ k = inAny ps x := by
  unfold inB at h
  split at h
  · cases h; exact .inl ⟨_, _, rfl, rfl, rfl⟩
  · obtain ⟨x, h1, h⟩ := bind_some' h
    obtain ⟨y, h2, h⟩ := bind_some' h
    obtain ⟨ps, h3, h⟩ := bind_some' h
    cases h
    exact .inr ⟨x, y, ps, h1, h2, h3, rfl⟩
section
variable {X : Cx} {C : Nat → Addr}
theorem inD_ok (hu : X.A.units + 64 < cLine) : OpD X C (compareOp .In) inD := by
  intro pins s sg H x y v u Q I rx ry ⟨io, S, a, b, d, dn, ra, rb, e, q⟩
  obtain ⟨k, e1, e2⟩ := bind_some' e
  cases e2
  rcases inB_cases e1 with ⟨i, j, rfl, rfl, rfl⟩ | ⟨p, p', ps, h1, h2, h3, rfl⟩
  · cases ra; cases rb
    exact op_in_str pins s sg H _ _ v u Q I rx ry ⟨i, j, rfl, rfl, q _ H io (Ext.refl _ _) dn (.bl _)⟩
  · obtain ⟨⟨as, r1⟩, b1, l1⟩ := reads_of I dn h1 ra rx
    obtain ⟨⟨bs, r2⟩, b2, l2⟩ := reads_of I dn h2 rb ry
    have fin : EP X pins sg Q (.bool (ps.any fun y => PyData.eqv y p)) s := ⟨.bl _, H, I, rfl, q _ H io (Ext.refl _ _) dn (.bl _)⟩
    have hl : p.depth ≤ 60 := l1
    cases p' <;> cases h3
    · exact SeqAt.in_list_data r2 r1 (by simpa [PyData.plain] using b2) b1 (by omega) fin
    · exact SeqAt.in_tuple_data r2 r1 (by simpa [PyData.plain] using b2) b1 (by omega) fin
theorem ninD_ok (hu : X.A.units + 64 < cLine) : OpD X C (compareOp .NotIn) ninD := by
  intro pins s sg H x y v u Q I rx ry ⟨io, S, a, b, d, dn, ra, rb, e, q⟩
  obtain ⟨k, e1, e2⟩ := bind_some' e
  cases e2
  rcases inB_cases e1 with ⟨i, j, rfl, rfl, rfl⟩ | ⟨p, p', ps, h1, h2, h3, rfl⟩
  · cases ra; cases rb
    exact op_notin_str pins s sg H _ _ v u Q I rx ry ⟨i, j, rfl, rfl, q _ H io (Ext.refl _ _) dn (.bl _)⟩
  · obtain ⟨⟨as, r1⟩, b1, l1⟩ := reads_of I dn h1 ra rx
    obtain ⟨⟨bs, r2⟩, b2, l2⟩ := reads_of I dn h2 rb ry
    have fin : EP X pins sg Q (.bool (!ps.any fun y => PyData.eqv y p)) s := ⟨.bl _, H, I, rfl, q _ H io (Ext.refl _ _) dn (.bl _)⟩
    have hl : p.depth ≤ 60 := l1
    cases p' <;> cases h3
    · exact SeqAt.notIn_list_data r2 r1 (by simpa [PyData.plain] using b2) b1 (by omega) fin
    · exact SeqAt.notIn_tuple_data r2 r1 (by simpa [PyData.plain] using b2) b1 (by omega) fin

/-! ### list(x), tuple(x), repr(x) -/
def seqD (S : Store) : D → Option (List D)
  | .tup xs => some xs
  | d => asL S d
theorem seq_rep {K : PySem.W.Frag} {io : Io} {S : Store} {H : Hp} {d : D} {v : V} {xs : List D} (h : seqD S d = some xs) (dn : Den K C io S H) (r : Rep K C io (Fz io H) d v) :
    ∃ a vs, v = .ref a ∧ (SqL K H a vs ∨ SqT K H a vs) ∧ Reps K C io (Fz io H) xs vs := by
  unfold seqD at h
  split at h
  · cases h
    cases r with
    | tup q rs => exact ⟨_, _, rfl, .inr (sqT_same (Fz_same _ _) q), rs⟩
  · obtain ⟨a, vs, e, q, rs⟩ := asL_rep h dn r
    exact ⟨a, vs, e, .inl q, rs⟩
def listD (S : Store) : List D → Option D
  | [d] => (seqD S d).bind fun xs => some (.lst xs)
  | _ => none
theorem listD_ok : CallD X C (.type "list") listD := fun pins s sg H xs us Q I rx ⟨io, S, as, d, dn, ra, e, q⟩ => by
  unfold listD at e
  split at e
  · obtain ⟨v, rfl, h⟩ := reps1 ra
    obtain ⟨ys, h1, h2⟩ := bind_some' e
    cases h2
    obtain ⟨a, vs, rfl, hq, rs⟩ := seq_rep h1 dn h
    exact call_list_of pins s sg H _ us Q I rx ⟨a, vs, rfl, hq, fun l hl => let ⟨x, d', r'⟩ := new_lst dn rs hl; q _ _ _ x d' r'⟩
  · cases e
def tupleD (S : Store) : List D → Option D
  | [d] => (seqD S d).bind fun xs => some (.tup xs)
  | _ => none
theorem tupleD_ok : CallD X C (.type "tuple") tupleD := fun pins s sg H xs us Q I rx ⟨io, S, as, d, dn, ra, e, q⟩ => by
  unfold tupleD at e
  split at e
  · obtain ⟨v, rfl, h⟩ := reps1 ra
    obtain ⟨ys, h1, h2⟩ := bind_some' e
    cases h2
    unfold seqD at h1
    split at h1
    · cases h1
      cases h with
      | tup hq rs => exact call_tuple_of pins s sg H _ us Q I rx ⟨_, _, rfl, .inr ⟨sqT_same (Fz_same _ _) hq, q _ H io (Ext.refl _ _) dn (.tup hq rs)⟩⟩
    · obtain ⟨a, vs, rfl, hq, rs⟩ := asL_rep h1 dn h
      exact call_tuple_of pins s sg H _ us Q I rx ⟨a, vs, rfl, .inl ⟨hq, fun l hl => let ⟨x, d', r'⟩ := new_tup dn rs hl; q _ _ _ x d' r'⟩⟩
  · cases e
def showOk (p : PyData) : Bool := p.showable && !p.hasDict && decide (p.shown.length ≤ sizeLine)
def reprD (S : Store) : List D → Option D
  | [d] => (pyD S deepN d).bind fun p => if showOk p = true then some (.str p.shown) else none
  | _ => none
theorem reprD_ok (hu : X.A.units + 64 < cLine) (hg : X.A.guards = some []) : CallD X C (.builtin "repr") reprD := fun pins s sg H xs us Q I rx ⟨io, S, as, d, dn, ra, e, q⟩ => by
  unfold reprD at e
  split at e
  · rename_i d0
    obtain ⟨v, rfl, h⟩ := reps1 ra
    obtain ⟨p, h1, h2⟩ := bind_some' e
    split at h2
    · rename_i ok
      cases h2
      obtain ⟨u, rfl, ru⟩ := rx.one
      obtain ⟨⟨as, r1⟩, b1, l1⟩ := reads_of I dn h1 h ru
      simp only [showOk, Bool.and_eq_true, decide_eq_true_eq, Bool.not_eq_true'] at ok
      obtain ⟨⟨o1, o2⟩, o3⟩ := ok
      have fin : ∀ k t, EP X pins sg Q (.str p.shown t) { s with toks := k } := fun k t => ⟨.str _, H, I.tok k, ⟨t, rfl⟩, q _ H io (Ext.refl _ _) dn (.str _)⟩
      have hl : p.depth ≤ 60 := l1
      cases r1 with
      | none => exact P.repr_of_none (fin _ _)
      | bool => exact P.repr_of_bool (fin _ _)
      | int => exact P.repr_of_int (by simpa [PyData.showable] using o1) (fin _ _)
      | str => exact P.repr_of_str (fin _ _) o3
      | list g1 g2 g3 g4 => exact repr_of_reads' (.list g1 g2 g3 g4) o1 (PyData.noDict_hsm o2) hg (by omega) (fun _ _ e => e) (fun h' u tk hk => ⟨.str _, H, I.kept (t' := tk) hk, ⟨u, rfl⟩, q _ H io (Ext.refl _ _) dn (.str _)⟩) o3
      | tuple g1 g2 g3 g4 => exact repr_of_reads' (.tuple g1 g2 g3 g4) o1 (PyData.noDict_hsm o2) hg (by omega) (fun _ _ e => e) (fun h' u tk hk => ⟨.str _, H, I.kept (t' := tk) hk, ⟨u, rfl⟩, q _ H io (Ext.refl _ _) dn (.str _)⟩) o3
      | dict => simp [PyData.hasDict] at o2
    · cases h2
  · cases e

/-! ### methods of built-in things -/
def tyM (S : Store) : D → Option String
  | .str _ => some "str"
  | .lst _ => some "list"
  | .dct _ _ => some "dict"
  | .loc n => match S[n]? with
    | some (.lst _) => some "list"
    | some (.dK _ _) => some "dict"
    | _ => none
  | _ => none
theorem ty_rep {K : PySem.W.Frag} {io : Io} {S : Store} {H : Hp} {d : D} {v : V} {T : String} (h : tyM S d = some T) (dn : Den K C io S H) (r : Rep K C io (Fz io H) d v) : tyV K T v H := by
  cases r with
  | str => cases h; rfl
  | lst q rs => cases h; exact .inl ⟨rfl, _, (Fz_same _ _).seq q⟩
  | dct q e1 e2 rs => cases h; exact .inr (.inr (.inl ⟨rfl, .inl ⟨_, Fz_same _ _ _ _ q⟩⟩))
  | @loc n a q =>
    simp only [tyM] at h
    split at h
    · rename_i ys e
      cases h
      obtain ⟨vs, h1, h2⟩ := dn.obj n _ a e q
      exact .inl ⟨rfl, vs, .of h1⟩
    · rename_i ks ys e
      cases h
      obtain ⟨kvs, h1, h2, h3⟩ := dn.obj n _ a e q
      exact .inr (.inr (.inl ⟨rfl, .inl ⟨_, h1⟩⟩))
    · cases h
  | _ => cases h
/-- a method: the value, the store behind it -/
abbrev MF := Store → D → List D → Option (D × Store)
def MthD (X : Cx) (C : Nat → Addr) (id : String) (f : MF) : Prop :=
  MtR X id (fun x xs H Q => ∃ io S a as d S', Den X.K C io S H ∧ Rep X.K C io (Fz io H) a x ∧ Reps X.K C io (Fz io H) as xs ∧ f S a as = some (d, S') ∧ ∀ v H' io', Ext io H io' H' → Den X.K C io' S' H' → Rep X.K C io' (Fz io' H') d v → Q v H')
def ofP {A : Type} : Option (A × Store) → Res A
  | some (a, S) => .ok a S
  | none => .bad
def rMth (T : String) (f : MF) (o : RE) (as : RA) : RE := fun e S => (o e S).bind fun x S1 => if tyM S1 x = some T then (as e S1).bind fun xs S2 => ofP (f S2 x xs) else .bad
theorem Post.ofP {K : PySem.W.Frag} {A B : Type} {R : Io → Hp → A → B → Prop} {W : WX} {sg : L2.St} {io : Io} {H : Hp} {Q : B → Hp → Prop} {o : Option (A × Store)} (h : Post K C R W sg io H (ofP o) Q) : ∃ a S, o = some (a, S) ∧ ∀ b H' io', Ext io H io' H' → Den K C io' S H' → R io' (Fz io' H') a b → Q b H' := by
  cases o with
  | some p => exact ⟨p.1, p.2, rfl, h⟩
  | none => exact h.elim
variable {W : WX} {o e : Expr} {es : List Expr} {ro : RE} {rs : RA} {name : Str} {apos cpos : Pos} {T id : String} {f : MF}
theorem ee_mth (pa : PlainAttrs T) (slot : Slot T name id) (hty : typeOf (.builtin id) = pure (.type "method_descriptor")) (hm : MthD X C id f) (ho : PE X o (tE X.K C W ro)) (ha : PA X (e :: es) (tA X.K C W rs))
    (hbase : attributeBase o name X.env (eval o X.env) = eval o X.env := by rfl)
    (hfew : ((backTo cpos (starEach (e :: es) X.env)).all (fun x => !x.1) && (backToKw cpos (keywordEach [] X.env)).all (fun x => x.1.isSome)
      && decide ((e :: es).length + ([] : List Keyword).length + (if ([] : List Keyword).isEmpty then 0 else 1) < 30)) = true := by rfl)
    (hline : (apos.endLine == cpos.line) = true := by rfl) (hs : starEach (e :: es) X.env = (false, eval e X.env) :: starEach es X.env := by rfl) (hplain : (backTo cpos (starEach es X.env)).any (·.1) = false := by rfl) :
    PE X (.Call (.Attribute o name apos) (e :: es) [] cpos) (tE X.K C W (rMth T f ro rs)) :=
  (pe_bm pa slot hty hm ho ha hbase hfew hline hs hplain).imp fun sg H Q h => (tR.seq1 (R := RepR X.K C) (fun e x S1 => if tyM S1 x = some T then (rs e S1).bind fun xs S2 => ofP (f S2 x xs) else .bad) h fun _ _ => rfl).mono fun v H1 ⟨e, S, io, x1, d, s, r1, p⟩ => by
    split at p
    · rename_i ty
      refine ⟨ty_rep ty d r1, e, S, io, d, s, p.bind.mono fun vs H2 ⟨io2, S2, as, x2, d2, r2, p2⟩ => ?_⟩
      obtain ⟨z, S3, ez, p2⟩ := p2.ofP
      exact ⟨io2, S2, x1, as, z, S3, d2, r1.ext x2, r2, ez, p2⟩
    · exact p.elim
theorem ee_mth0 (pa : PlainAttrs T) (slot : Slot T name id) (hty : typeOf (.builtin id) = pure (.type "method_descriptor")) (hm : MthD X C id f) (ho : PE X o (tE X.K C W ro))
    (hbase : attributeBase o name X.env (eval o X.env) = eval o X.env := by rfl) (hline : (apos.endLine == cpos.line) = true := by rfl) : PE X (.Call (.Attribute o name apos) [] [] cpos) (tE X.K C W (rMth T f ro rNil)) :=
  (pe_bm0 pa slot hty hm ho hbase hline).imp fun sg H Q h => (tR.seq1 (R := RepR X.K C) (fun e x S1 => if tyM S1 x = some T then (rNil e S1).bind fun xs S2 => ofP (f S2 x xs) else .bad) h fun _ _ => rfl).mono fun v H1 ⟨e, S, io, x1, d, s, r1, p⟩ => by
    split at p
    · rename_i ty
      obtain ⟨z, S3, ez, p2⟩ := Post.ofP p
      exact ⟨ty_rep ty d r1, io, S, x1, [], z, S3, d, r1, .nil, ez, p2⟩
    · exact p.elim
/-- a method that lays nothing -/
theorem mthD_flat {r : V → List V → Hp → VK → Prop} (h : MtR X id r)
    (hf : ∀ io S H a as d S' x xs, Den X.K C io S H → Rep X.K C io (Fz io H) a x → Reps X.K C io (Fz io H) as xs → f S a as = some (d, S') → S' = S ∧ ∃ z, (∀ F, Rep X.K C io F d z) ∧ ∀ Q : VK, Q z H → r x xs H Q) : MthD X C id f := by
  intro pins s sg H x xs v us Q I rx rxs ⟨io, S, a, as, d, S', dn, ra, ras, e, q⟩
  obtain ⟨rfl, z, rz, hq⟩ := hf io S H a as d S' x xs dn ra ras e
  exact h pins s sg H x xs v us Q I rx rxs (hq Q (q z H io (Ext.refl _ _) dn (rz _)))
def strsD : List D → Option (List Str)
  | [] => some []
  | .str x :: r => (strsD r).bind fun ys => some (x :: ys)
  | _ :: _ => none
theorem strs_rep {K : PySem.W.Frag} {io : Io} {F : Hp} : ∀ {ds : List D} {vs : List V} {ys : List Str}, strsD ds = some ys → Reps K C io F ds vs → vs = ys.map V.str
  | _, _, _, h, .nil => by cases h; rfl
  | _, _, _, h, .cons r rs => by
    cases r <;> simp only [strsD] at h <;> try cases h
    obtain ⟨zs, h1, h2⟩ := bind_some' h
    cases h2
    rw [strs_rep h1 rs]
    rfl
def joinOk (a : Str) (ys : List Str) : Bool := decide ((ys.map (·.length)).sum + ys.length * a.length ≤ 16777216)
def joinD : MF
  | S, .str a, [d] => (seqD S d).bind fun ds => (strsD ds).bind fun ys => if joinOk a ys = true then some (.str (Txt.join a ys), S) else none
  | _, _, _ => none
theorem joinD_ok : MthD X C "str.join" joinD := mthD_flat mt_join fun io S H a as d S' x xs dn ra ras e => by
  unfold joinD at e
  split at e
  · obtain ⟨v, rfl, h⟩ := reps1 ras
    cases ra
    obtain ⟨ds, h1, e⟩ := bind_some' e
    obtain ⟨ys, h2, e⟩ := bind_some' e
    split at e
    · rename_i ok
      cases e
      obtain ⟨p, vs, rfl, hq, rs⟩ := seq_rep h1 dn h
      rw [strs_rep h2 rs] at hq
      exact ⟨rfl, _, fun _ => .str _, fun Q q => ⟨_, p, ys, rfl, rfl, hq, by simpa [joinOk] using ok, q⟩⟩
    · cases e
  · cases e
def indexS : MF
  | S, .str a, [.str b] => match Builtin.Str.occurrences a b 0 a.length 1 with
    | i :: _ => some (.int (i : Nat), S)
    | [] => none
  | _, _, _ => none
theorem indexS_ok : MthD X C "str.index" indexS := mthD_flat mt_sindex fun io S H a as d S' x xs dn ra ras e => by
  unfold indexS at e
  split at e
  · obtain ⟨v, rfl, h⟩ := reps1 ras
    cases ra; cases h
    split at e
    · rename_i hq
      cases e
      exact ⟨rfl, _, fun _ => .int _, fun Q q => ⟨_, _, _, _, rfl, rfl, hq, q⟩⟩
    · cases e
  · cases e
/-- xs.count(x) of data -/
def countL : MF
  | S, d, [x] => (asL S d).bind fun ds => (pyAll (pyD S deepN) ds).bind fun ps => (pyD S deepN x).bind fun p => some (.int ((ps.countP fun y => PyData.eqv y p : Nat) : Int), S)
  | _, _, _ => none
theorem countL_ok (hu : X.A.units + 64 < cLine) : MthD X C "list.count" countL := by
  intro pins s sg H x xs v us Q I rx rxs ⟨io, S, a, as, d, S', dn, ra, ras, e, q⟩
  unfold countL at e
  split at e
  · obtain ⟨w, rfl, h⟩ := reps1 ras
    obtain ⟨ds, h1, e⟩ := bind_some' e
    obtain ⟨ps, h2, e⟩ := bind_some' e
    obtain ⟨p, h3, e⟩ := bind_some' e
    cases e
    obtain ⟨u, rfl, ru⟩ := rxs.one
    obtain ⟨⟨bs, r2⟩, b2, l2⟩ := reads_of I dn h3 h ru
    have l2' : p.depth ≤ 60 := l2
    -- the list as data
    have h4 : pyD S (deepN + 1) a = some (.list ps) := by
      cases a with
      | lst zs => cases h1; simp only [pyD, h2, Option.bind]
      | loc n =>
        simp only [asL] at h1
        split at h1
        · rename_i e1
          cases h1
          simp only [pyD, e1, h2, Option.bind]
        · cases h1
      | _ => cases h1
    obtain ⟨⟨as, r1⟩, b1, l1⟩ := reads_of I dn h4 ra rx
    have pa : PyData.plainAll ps = true := by simpa [PyData.plain] using b1
    cases r1 with
    | @list l o vs n xs as' g1 g2 g3 g4 =>
      obtain ⟨cls, dd, data, sl⟩ := o
      simp only at g2 g3
      subst g2; subst g3
      refine call_meets PySem.F.slot_list_count ⟨_, g1, rfl⟩ PySem.F.entry_list_count (PySem.F.args_list_count_2 _ _)
        (SeqAt.list_countAt l vs n dd sl u (fun y => PyData.eqv (SeqAt.readOf s.heap y) p)) ⟨g1, fun y hy => ?_, ?_⟩
      · exact SeqAt.items_plain (A := X.A) g4 r2 pa b2 (by omega) y hy
      · have ec : vs.toList.countP (fun y => PyData.eqv (SeqAt.readOf s.heap y) p) = ps.countP (fun y => PyData.eqv y p) := by
          rw [← SeqAt.readsAll_map_plain ps _ _ pa g4, List.countP_map]
          rfl
        rw [ec]
        exact ⟨.int _, H, I.tok _, ⟨_, rfl⟩, q _ H io (Ext.refl _ _) dn (.int _)⟩
  · cases e
/-- xs.append(x) -/
def appendL : MF
  | S, .loc n, [x] => match S[n]? with
    | some (.lst xs) => if xs.length < sizeLine then some (.non, S.set n (.lst (xs ++ [x]))) else none
    | _ => none
  | _, _, _ => none
theorem put_lst {K : PySem.W.Frag} {io : Io} {S : Store} {H : Hp} {n : Nat} {p : Addr} {xs : List D} {vs : List V} (dn : Den K C io S H) (h : io.l[n]? = some p) (r : Reps K C io (Fz io H) xs vs) :
    Ext io H io (upd H p (.lst vs)) ∧ Den K C io (S.set n (.lst xs)) (upd H p (.lst vs)) :=
  ⟨Ext.put (mem_all h), dn.put h ⟨vs, upd_same, r.ext (Ext.put (mem_all h))⟩⟩
theorem appendL_ok : MthD X C "list.append" appendL := by
  intro pins s sg H x xs v us Q I rx rxs ⟨io, S, a, as, d, S', dn, ra, ras, e, q⟩
  unfold appendL at e
  split at e
  · rename_i n y
    obtain ⟨w, rfl, h⟩ := reps1 ras
    cases ra with
    | @loc _ p hn =>
    split at e
    · rename_i ys e1
      split at e
      · rename_i hz
        cases e
        obtain ⟨vs, g1, g2⟩ := dn.obj n _ p e1 hn
        obtain ⟨x1, d1⟩ := put_lst dn hn (g2.append (.cons h .nil))
        exact mt_append pins s sg H _ _ v us Q I rx rxs ⟨p, vs, w, rfl, rfl, g1, by rw [← g2.length]; exact hz, q _ _ io x1 d1 .non⟩
      · cases e
    · cases e
  · cases e
/-- xs.pop() -/
def popL : MF
  | S, .loc n, [] => match S[n]? with
    | some (.lst xs) => (xs[xs.length - 1]?).bind fun y => some (y, S.set n (.lst xs.dropLast))
    | _ => none
  | _, _, _ => none
theorem Reps.dropLast {K : PySem.W.Frag} {io : Io} {F : Hp} {ds : List D} {vs : List V} (r : Reps K C io F ds vs) : Reps K C io F ds.dropLast vs.dropLast := by
  rw [List.dropLast_eq_take, List.dropLast_eq_take, r.length]
  exact r.take _
theorem popL_ok : MthD X C "list.pop" popL := by
  intro pins s sg H x xs v us Q I rx rxs ⟨io, S, a, as, d, S', dn, ra, ras, e, q⟩
  unfold popL at e
  split at e
  · rename_i n
    cases ras
    cases ra with
    | @loc _ p hn =>
    split at e
    · rename_i ys e1
      obtain ⟨y, h2, e⟩ := bind_some' e
      cases e
      obtain ⟨vs, g1, g2⟩ := dn.obj n _ p e1 hn
      obtain ⟨w, h3, h4⟩ := g2.get h2
      obtain ⟨x1, d1⟩ := put_lst dn hn g2.dropLast
      exact mt_pop pins s sg H _ _ v us Q I rx rxs ⟨p, vs, w, rfl, rfl, g1, by rw [← g2.length]; exact h3, q _ _ io x1 d1 (h4.ext x1)⟩
    · cases e
  · cases e
end
/-! ### list(range(..)) -/
def rgD (f : List D → Option (List D)) : Store → List D → Option D := fun _ as => (f as).bind fun xs => if xs.length ≤ 2 ^ 24 then some (.lst xs) else none
section
variable {X : Cx} {C : Nat → Addr} {W : WX} {a b : Expr} {ra rb : RE} {rs : RA} {p p2 pos pos2 : Pos}
theorem ee_listRg2 (hc : X.calm = true) (hg : Gl X "list") (hm : X.mg "list" = none) (hg2 : Gl X "range") (hm2 : X.mg "range" = none) (ha : PE X a (tE X.K C W ra)) (hb : PE X b (tE X.K C W rb))
    (na : starEach [a, b] X.env = (false, eval a X.env) :: starEach [b] X.env := by rfl) (nb : starEach [b] X.env = (false, eval b X.env) :: starEach [] X.env := by rfl) (hp : (backTo pos2 (starEach [b] X.env)).any (·.1) = false := by rfl)
    (ne : starEach [.Call (.Name "range" p2) [a, b] [] pos2] X.env = (false, eval (.Call (.Name "range" p2) [a, b] [] pos2) X.env) :: starEach [] X.env := by rfl) :
    PE X (.Call (.Name "list" p) [.Call (.Name "range" p2) [a, b] [] pos2] [] pos) (tE X.K C W (rCal (rgD ran2) (rCons ra (rCons rb rNil)))) :=
  (pe_listRg hc hg hm (prg_2 hg2 hm2 ha hb na nb hp) ne).imp fun sg H Q h => (tR.seq2 repM (fun _ x y S => ofO (rgD ran2 S [x, y]) S) h (fun e S => by
      unfold rCal rCons rNil
      cases ra e S with
      | ok x S1 =>
        simp only [Res.bind]
        cases rb e S1 <;> rfl
      | err => rfl
      | bad => rfl)).mono fun x H1 h1 => h1.mono fun y H2 ⟨e, S, io, x1, y1, d, s, r1, r2, p⟩ => by
    obtain ⟨z, ez, p⟩ := p.ofO
    obtain ⟨xs, e1, e2⟩ := bind_some' ez
    split at e2
    · rename_i hz
      cases e2
      unfold ran2 at e1
      split at e1
      · rename_i i j hh
        cases hh
        split at e1
        · rename_i hj
          cases e1
          cases r1; cases r2
          have e3 : (j - i).toNat ≤ 2 ^ 24 := by simpa [rangeD] using hz
          refine ⟨i, j, rfl, rfl, ⟨hj.1, hj.2.1, hj.2.2.1, hj.2.2.2, e3⟩, fun q hq => ?_⟩
          have rr : Reps X.K C io (Fz io H2) (rangeD i (j - i).toNat) (rgV i j) := by
            unfold rangeD rgV
            induction (List.range (j - i).toNat) with
            | nil => exact .nil
            | cons m r ih => exact .cons (.int _) ih
          obtain ⟨x', d', r'⟩ := new_lst d rr hq
          exact p _ _ _ x' d' r'
        · cases e1
      · cases e1
    · cases e2
end
end Ev
namespace Ev
open PySem PySem.Spec L2 PyProof.Rows

/-! ### defs that show data: no guard may stand ahead of them -/
structure RoomG (k : Nat) (A : Around) : Prop where
  room : Room k A
  gd : A.guards = some []
structure FnG (P : Program) (w : World) (K : PySem.W.Frag) (mg : Str → Option Value) (base : Heap) (CX : CXT) (k : Nat) (f : Addr) (fd : FuncData) (ps : List Str) (sp : Sp) : Prop where
  len : ∀ vs H Q E, sp vs H Q E → vs.length = ps.length
  run : ∀ (A : Around) (outer : List PySem.Env) (s : Shared) (H : Hp) (args : Args) (us : List Value) (vs : List V) (Q : VK) (E : XK), RoomG k A → Env0 P w K mg base A outer s H → BindsTo s fd args (ps.zip us) → Vals vs us → sp vs H Q E →
    codeAny (model P w) A (.call (.ref f) args) (CR CX outer P w H s Q E) s
theorem RoomG.mono {j k : Nat} {A : Around} (r : RoomG k A) (h : j ≤ k) : RoomG j A := ⟨r.room.mono h, r.gd⟩
theorem FnG.of {P : Program} {w : World} {K : PySem.W.Frag} {mg : Str → Option Value} {base : Heap} {CX : CXT} {k : Nat} {f : Addr} {fd : FuncData} {ps : List Str} {sp : Sp} (F : FnOk P w K mg base CX k f fd ps sp) : FnG P w K mg base CX k f fd ps sp :=
  ⟨F.len, fun A outer s H args us vs Q E hr => F.run A outer s H args us vs Q E hr.room⟩
section
variable {P : Program} {w : World} {K : PySem.W.Frag} {mg : Str → Option Value} {base : Heap} {C : Nat → Addr}
/-- the frame of a def's run is entered, its body is run -/
theorem fnG_ev {x qual : Str} {st : Stmt} {f : Addr} {fd : FuncData} {N ps : List Str} {k : Nat} {m : RS} (F : Fun K x qual st f fd) (S : FnScope N ps (defScope st))
    (hbody : ∀ (cdv : Value) (A : Around) (outer : List PySem.Env) (s : Shared) (H : Hp) (E : XK), RoomG k (A.deeper (envOfC qual (defScope st) s.heap.objs.size f cdv)) →
      Takes (cxOf (L2.CX P w) P w K mg base N qual (defScope st) f cdv A outer s H E) (fun cls d _ H => E cls d H) →
      PassesOwn (model P w) (cxOf (L2.CX P w) P w K mg base N qual (defScope st) f cdv A outer s H E).A (cxOf (L2.CX P w) P w K mg base N qual (defScope st) f cdv A outer s H E).env (cxOf (L2.CX P w) P w K mg base N qual (defScope st) f cdv A outer s H E).xe →
      PSs (cxOf (L2.CX P w) P w K mg base N qual (defScope st) f cdv A outer s H E) (defBody st) (tS K C (fun cls d _ H => E cls d H) m)) :
    FnG P w K mg base (L2.CX P w) (k + 1) f fd ps (spOf K C ps.length (runDef N.length m)) := by
  obtain ⟨oc, od, kV, doc, pm, an, cdv, ct, osl, rfl, lk, hcd⟩ := F.ex
  refine ⟨fun vs H Q E h => h.1, fun A outer s H args us vs Q E hr e0 hb r hsp => ?_⟩
  have KX : K.In s.heap := e0.mod.kin.keeps fun b o e => (e0.bs b o e).1
  have rdp := hr.room.deeper (envOfC qual (defScope st) s.heap.objs.size f cdv)
  have ht := hbody cdv A outer s H E ⟨rdp, hr.gd⟩ (takes_of rfl rfl rfl rfl) (passes_of rfl)
  have hq : tS K C (fun cls d _ H => E cls d H) m { nx := fun _ H' => Q .non H', rt := Q } (L2.start N vs) H := by
    obtain ⟨hl, ds, S, io, dn, rs, p⟩ := hsp
    refine ⟨_, S, io, dn, slots_start rs, ?_⟩
    unfold runDef Fl.res at p
    split at p
    · rename_i e S1 q
      rw [q]
      exact fun sg H' io' x d s => p _ H' io' x d .non
    · rename_i d S1 q
      rw [q]
      exact p
    · rename_i x e S1 q
      rw [q]
      exact fun cls dd sg H' io' x d s xr => p cls dd H' io' x d xr
    · exact p.elim
  refine codeAny_call_function hr.room.depth (KX _ _ lk) rfl S.co S.gen rfl (PySem.W.codeRec_of KX hcd) (hb _ _ _ _ (wpAny_newFunctionEnv_cells S.kind (fun y hy => ?_) fun env he s1 x => ?_))
  · obtain ⟨n, v⟩ := y
    exact (S.par n (List.of_mem_zip hy).1).imp id fun q => ⟨q, PySem.W.cellsFrom_some _ _ _ (.inl q)⟩
  · subst he
    have lim : s.heap.NoLimit := e0.mod.nolimit.keeps fun b o e => (e0.bs b o e).1
    refine ⟨lim.keeps x.toInCall.keep, codeAny_func (wpAny_mono (ht.run [] s1 (L2.start N vs) H _ (inv_start S hr.room.hd e0 hsp.1 r x) hq) (fun fl s' hs => ?_) fun e s' hs => hs)⟩
    cases fl with
    | ret u => obtain ⟨v, _, H', J, rv, q⟩ := hs; exact ⟨v, H', J.os, J.bare, J.base, J.hok, rv, q⟩
    | next => obtain ⟨_, H', J, q⟩ := hs; exact ⟨.non, H', J.os, J.bare, J.base, J.hok, rfl, q⟩
    | brk => obtain ⟨_, _, _, q⟩ := hs; exact False.elim q
    | cont => obtain ⟨_, _, _, q⟩ := hs; exact False.elim q
end
theorem Fun.toD {K : PySem.W.Frag} {x qual : Str} {st : Stmt} {f : Addr} {fd : FuncData} (F : Fun K x qual st f fd) : FunD K x qual (defArgs st) (defBody st) (defScope st) [] [] f fd := by
  obtain ⟨oc, od, kV, doc, pm, an, cdv, ct, osl, e, lk, hcd⟩ := F.ex
  exact ⟨⟨oc, od, .none, kV, doc, pm, an, cdv, ct, osl, e, lk, hcd, .inl ⟨rfl, rfl⟩, .inl rfl⟩, F.kp⟩
theorem fnD_ev {P : Program} {w : World} {K : PySem.W.Frag} {mg : Str → Option Value} {base : Heap} {C : Nat → Addr} {x qual : Str} {st : Stmt} {f : Addr} {fd : FuncData} {N ps : List Str} {k : Nat} {m : RS} {kws : List (Str × V)} (F : FunD K x qual (defArgs st) (defBody st) (defScope st) [] kws f fd) (S : FnScope N ps (defScope st))
    (hbody : ∀ (cdv : Value) (A : Around) (outer : List PySem.Env) (s : Shared) (H : Hp) (E : XK), Room k (A.deeper (envOfC qual (defScope st) s.heap.objs.size f cdv)) →
      Takes (cxOf (L2.CX P w) P w K mg base N qual (defScope st) f cdv A outer s H E) (fun cls d _ H => E cls d H) →
      PassesOwn (model P w) (cxOf (L2.CX P w) P w K mg base N qual (defScope st) f cdv A outer s H E).A (cxOf (L2.CX P w) P w K mg base N qual (defScope st) f cdv A outer s H E).env (cxOf (L2.CX P w) P w K mg base N qual (defScope st) f cdv A outer s H E).xe →
      PSs (cxOf (L2.CX P w) P w K mg base N qual (defScope st) f cdv A outer s H E) (defBody st) (tS K C (fun cls d _ H => E cls d H) m)) :
    FnOk P w K mg base (L2.CX P w) (k + 1) f fd ps (spOf K C ps.length (runDef N.length m)) := by
  refine F.ok S (fun vs H Q E h => h.1) (fun cdv A outer s H vs Q E hr h => ⟨_, hbody cdv A outer s H E hr (takes_of rfl rfl rfl rfl) (passes_of rfl), ?_⟩)
  obtain ⟨hl, ds, S, io, dn, rs, p⟩ := h
  refine ⟨_, S, io, dn, slots_start rs, ?_⟩
  unfold runDef Fl.res at p
  split at p
  · rename_i e S1 q
    rw [q]
    exact fun sg H' io' x d s => p _ H' io' x d .non
  · rename_i d S1 q
    rw [q]
    exact p
  · rename_i x e S1 q
    rw [q]
    exact fun cls dd sg H' io' x d s xr => p cls dd H' io' x d xr
  · exact p.elim
/-! ### own defs as they may be called from here -/
/-- the def may be called in X -/
structure Cal (X : Cx) (f : Addr) (fd : FuncData) (ps : List Str) (sp : Sp) : Prop where
  len : ∀ vs H Q E, sp vs H Q E → vs.length = ps.length
  run : ∀ (pins : List (Addr × Obj)) (sg : L2.St) (s : Shared) (H : Hp) (args : Args) (us : List Value) (vs : List V) (Q : VK) (E : XK), L2.Inv X pins sg H s → BindsTo s fd args (ps.zip us) → Vals vs us → sp vs H Q E →
    codeAny (model X.prog X.w) X.A (.call (.ref f) args) (CR (L2.CX X.prog X.w) X.stack X.prog X.w H s Q E) s
theorem Cal.ok {X : Cx} {k : Nat} {f : Addr} {fd : FuncData} {ps : List Str} {sp : Sp} (F : FnOk X.prog X.w X.K X.mg X.base (L2.CX X.prog X.w) k f fd ps sp) (hr : Room k X.A) : Cal X f fd ps sp :=
  ⟨F.len, fun pins sg s H args us vs Q E I => F.run X.A X.stack s H args us vs Q E hr I.env0⟩
theorem Cal.g {X : Cx} {k : Nat} {f : Addr} {fd : FuncData} {ps : List Str} {sp : Sp} (F : FnG X.prog X.w X.K X.mg X.base (L2.CX X.prog X.w) k f fd ps sp) (hr : RoomG k X.A) : Cal X f fd ps sp :=
  ⟨F.len, fun pins sg s H args us vs Q E I => F.run X.A X.stack s H args us vs Q E hr I.env0⟩
/-! ### what a call binds -/
inductive Src where
  | p (i : Nat)
  | k (j : Nat)
  | c (d : D)
def pick1 (us ws : List D) : Src → Option D
  | .p i => us[i]?
  | .k j => ws[j]?
  | .c d => some d
def pick (us ws : List D) : List Src → Option (List D)
  | [] => some []
  | q :: r => (pick1 us ws q).bind fun x => (pick us ws r).bind fun xs => some (x :: xs)
def CstV : D → Value → Prop
  | .non, v => v = .none
  | .bl b, v => v = .bool b
  | .int i, v => ∃ t, v = .int i t
  | .str x, v => ∃ t, v = .str x t
  | _, _ => False
def srcV (us ws : List Value) : Src → Value → Prop
  | .p i, v => us[i]? = some v
  | .k j, v => ws[j]? = some v
  | .c d, v => CstV d v
inductive SrcVs (us ws : List Value) : List Src → List Value → Prop
  | nil : SrcVs us ws [] []
  | cons {q : Src} {r : List Src} {v : Value} {vs : List Value} : srcV us ws q v → SrcVs us ws r vs → SrcVs us ws (q :: r) (v :: vs)
structure BindK (K : PySem.W.Frag) (fd : FuncData) (ps : List Str) (n : Nat) (ks : List Str) (src : List Src) : Prop where
  to : ∀ (s : Shared) (us ws : List Value), K.In s.heap → us.length = n → ws.length = ks.length → ∃ zs, BindsTo s fd ⟨us, ks.zip ws⟩ (ps.zip zs) ∧ SrcVs us ws src zs
theorem BindK.plain {K : PySem.W.Frag} {fd : FuncData} {ps : List Str} {n : Nat} {ks : List Str} {src : List Src} {x qual : Str} {params : Arguments} {body : List Stmt} {scope : Scope} {kws : List (Str × V)} {f : Addr} (F : FunD K x qual params body scope [] kws f fd)
    (h : ∀ (kV doc pm : Value) (an : Option Addr) (cdv ct : Value) (us ws : List Value), us.length = n → ws.length = ks.length → ∃ zs, bindArgs (PySem.W.fnOf x qual params body scope .none kV doc pm an cdv ct) ⟨us, ks.zip ws⟩ = pure (ps.zip zs) ∧ SrcVs us ws src zs) : BindK K fd ps n ks src := by
  obtain ⟨oc, od, dV, kV, doc, pm, an, cdv, ct, osl, rfl, lk, hcd, hD, hK⟩ := F.ex
  rcases hD with ⟨_, rfl⟩ | ⟨e, _⟩
  · refine ⟨fun s us ws KI h1 h2 => ?_⟩
    obtain ⟨zs, e1, e2⟩ := h kV doc pm an cdv ct us ws h1 h2
    exact ⟨zs, .of_eq e1, e2⟩
  · exact absurd rfl e
/-- keyword-only parameters that lack, ms -/
theorem BindK.lack {K : PySem.W.Frag} {fd : FuncData} {ps : List Str} {n : Nat} {ks : List Str} {src : List Src} {x qual : Str} {params : Arguments} {body : List Stmt} {scope : Scope} {kws : List (Str × V)} {f : Addr} (F : FunD K x qual params body scope [] kws f fd) (hk : kws ≠ []) (ms : List (Str × V)) (hms : ∀ q ∈ ms, q ∈ kws)
    (h : ∀ (D : Addr) (doc pm : Value) (an : Option Addr) (cdv ct : Value) (us ws mv : List Value), us.length = n → ws.length = ks.length → mv.length = ms.length → Vals (ms.map (·.2)) mv →
      ∃ zs, KwChain D ((ms.map (·.1)).zip mv) (bindArgs (PySem.W.fnOf x qual params body scope .none (.ref D) doc pm an cdv ct) ⟨us, ks.zip ws⟩) (ps.zip zs) ∧ SrcVs us ws src zs) : BindK K fd ps n ks src := by
  obtain ⟨oc, od, dV, kV, doc, pm, an, cdv, ct, osl, rfl, lk, hcd, hD, hK⟩ := F.ex
  rcases hD with ⟨_, rfl⟩ | ⟨e, _⟩
  · rcases hK with e | ⟨D, rfl, hq⟩
    · exact absurd e hk
    · obtain ⟨mv, hl, rk, hks⟩ := kwd_vals (ms := ms) fun q hm => hq q (hms q hm)
      refine ⟨fun s us ws KI h1 h2 => ?_⟩
      obtain ⟨zs, e1, e2⟩ := h D doc pm an cdv ct us ws mv h1 h2 hl rk
      exact ⟨zs, BindsTo.of_looks fun M => KwChain.looks KI hks e1, e2⟩
  · exact absurd rfl e
theorem cst_rep {K : PySem.W.Frag} {C : Nat → Addr} {io : Io} {F : Hp} {d : D} {u : Value} (h : CstV d u) : ∃ v, RelV v u ∧ Rep K C io F d v := by
  cases d <;> simp only [CstV] at h
  · exact ⟨.non, h, .non⟩
  · exact ⟨.bl _, h, .bl _⟩
  · exact ⟨.int _, h, .int _⟩
  · exact ⟨.str _, h, .str _⟩
theorem Vals.at' {vs : List V} {us : List Value} (r : Vals vs us) {i : Nat} {u : Value} (h : us[i]? = some u) : ∃ v, vs[i]? = some v ∧ RelV v u := by
  induction r generalizing i with
  | nil => simp at h
  | cons r1 rs ih =>
    cases i with
    | zero => simp at h; subst h; exact ⟨_, rfl, r1⟩
    | succ i => simpa using ih (by simpa using h)
theorem picked {K : PySem.W.Frag} {C : Nat → Addr} {io : Io} {F : Hp} {us ws : List Value} {vs xs : List V} {ds es : List D} (ru : Vals vs us) (rw_ : Vals xs ws) (rd : Reps K C io F ds vs) (re : Reps K C io F es xs) :
    ∀ {src : List Src} {zs : List Value} {as : List D}, SrcVs us ws src zs → pick ds es src = some as → ∃ ys, Vals ys zs ∧ Reps K C io F as ys
  | _, _, _, .nil, h => by cases h; exact ⟨[], .nil, .nil⟩
  | q :: r, _, _, .cons (v := v0) h1 h2, h => by
    simp only [pick] at h
    obtain ⟨d, e1, h⟩ := bind_some' h
    obtain ⟨ds', e2, h⟩ := bind_some' h
    cases h
    obtain ⟨ys, g1, g2⟩ := picked ru rw_ rd re h2 e2
    have : ∃ y, RelV y v0 ∧ Rep K C io F d y := by
      cases q with
      | p i =>
        obtain ⟨v, a1, a2⟩ := Vals.at' ru h1
        obtain ⟨d', b1, b2⟩ := rd.getV a1
        have e : d' = d := by have e1' : ds[i]? = some d := e1; rw [b1] at e1'; exact Option.some.inj e1'
        exact ⟨v, a2, e ▸ b2⟩
      | k i =>
        obtain ⟨v, a1, a2⟩ := Vals.at' rw_ h1
        obtain ⟨d', b1, b2⟩ := re.getV a1
        have e : d' = d := by have e1' : es[i]? = some d := e1; rw [b1] at e1'; exact Option.some.inj e1'
        exact ⟨v, a2, e ▸ b2⟩
      | c d0 => cases e1; exact cst_rep h1
    obtain ⟨y, c1, c2⟩ := this
    exact ⟨y :: ys, .cons c1 g1, .cons c2 g2⟩
def rCallK (g : List D → Store → Res D) (src : List Src) (as ks : RA) : RE := fun e S => (as e S).bind fun ds S1 => (ks e S1).bind fun es S2 => match pick ds es src with
  | some zs => g zs S2
  | none => .bad
theorem SrcVs.length {us ws : List Value} : ∀ {src : List Src} {zs : List Value}, SrcVs us ws src zs → zs.length = src.length
  | _, _, .nil => rfl
  | _, _, .cons _ h => by simp [SrcVs.length h]
section
variable {X : Cx} {C : Nat → Addr} {W : WX} {n : Nat} {f : Addr} {fd : FuncData} {ps ks : List Str} {g : List D → Store → Res D} {x : Str} {p pos : Pos} {e : Expr} {es : List Expr} {rs rk : RA} {src : List Src} {kws : List Keyword} {m : Nat}
theorem run_cal {pins : List (Addr × Obj)} {sg : L2.St} {H : Hp} {s : Shared} {Q : VK} {us zs : List Value} {kw : List (Str × Value)} {vs : List V} {sp : Sp} (F : Cal X f fd ps sp) (tk : Takes X W) (hb : BindsTo s fd ⟨us, kw⟩ (ps.zip zs)) (I : L2.Inv X pins sg H s) (r : Vals vs zs) (h : sp vs H Q (WE W sg)) :
    wpAny (model X.prog X.w) X.A (call (.ref f) us kw) (EP X pins sg Q) X.xe s := by
  refine wpAny_call (codeAny_mono (F.run pins sg s H _ zs vs Q (WE W sg) I hb r h) fun r s' hq => ?_)
  cases r with
  | error e => exact passAt tk sg pins H s e s' I hq
  | ok fl =>
    cases fl with
    | ret u => exact I.after hq
    | next => exact False.elim hq
    | brk => exact False.elim hq
    | cont => exact False.elim hq
theorem spOf_of {K : PySem.W.Frag} {n : Nat} {ds : List D} {vs : List V} {S : Store} {io : Io} {H : Hp} {sg : L2.St} {Q : VK} (hl : vs.length = n) (dn : Den K C io S H) (r : Reps K C io (Fz io H) ds vs) (p : Post K C (RepR K C) W sg io H (g ds S) Q) : spOf K C n g vs H Q (WE W sg) :=
  ⟨hl, ds, S, io, dn, r, by
    cases q : g ds S with
    | ok a S1 => rw [q] at p; exact p
    | err y S1 => rw [q] at p; exact p
    | bad => rw [q] at p; exact p⟩
/-- a call by places -/
theorem ee_callC (F : Cal X f fd ps (spOf X.K C n g)) (hg : Gl X x) (hm : X.mg x = some (.ref f)) (hk : PySem.W.keepIn X.K (.ref f) = true) (hb : Binds X.K fd ps []) (tk : Takes X W)
    (ha : PA X (e :: es) (tA X.K C W rs)) (hn : AL n rs) (hdb : (x == ("__debug__" : Str)) = false := by decide) (he : starEach (e :: es) X.env = (false, eval e X.env) :: starEach es X.env := by rfl) (hpl : (backTo pos (starEach es X.env)).any (·.1) = false := by rfl) :
    PE X (.Call (.Name x p) (e :: es) [] pos) (tE X.K C W (rCall g rs)) := by
  refine ⟨fun pins s sg H Q I h => ?_⟩
  have h2 := tA.alen hn (tR.seq1 (fun _ ds S => g ds S) h fun _ _ => rfl)
  refine wpAny_Call_Name_kw (ld_glob I hg hm ?_ hdb)
  refine PySem.W.callWith_K (h₀ := X.base) I.ok.mod.kin hk (thn (ha.run pos pins s sg H _ I h2) fun us s1 ⟨vs, H1, I1, r, hl, e, S, io, ds, dn, sl, rr, q⟩ => ⟨I1.kIn, ?_⟩) he hpl
  have hl2 : us.length = ps.length := by
    rw [← r.length]
    exact F.len vs H1 Q _ (spOf_of hl dn rr q)
  have b := hb s1 us I1.kIn (by rw [List.append_nil]; exact hl2)
  rw [List.append_nil] at b
  exact run_cal F tk b I1 r (spOf_of hl dn rr q)
theorem ek_nil : PK X [] (tA X.K C W rNil) := ⟨fun pos pins s sg H Q I h => pk_nil.run pos pins s sg H Q I (by
  obtain ⟨e, S, io, d, s, p⟩ := h
  exact p.here d .nil)⟩
theorem ek_cons {nm : Option Str} {kpos : Pos} {re : RE} (ha : PE X e (tE X.K C W re)) (hr : PK X kws (tA X.K C W rk)) : PK X (⟨nm, e, kpos⟩ :: kws) (tA X.K C W (rCons re rk)) :=
  ⟨fun pos pins s sg H Q I h => (pk_cons ha hr).run pos pins s sg H Q I ((tR.seq2 repM (fun _ x xs S => .ok (x :: xs) S) h fun _ _ => rfl).mono fun x H1 h1 => h1.mono fun y H2 ⟨e, S, io, x1, y1, d, s, r1, r2, p⟩ =>
    p _ H2 io (Ext.refl _ _) d (.cons r1 r2))⟩
/-- by places and by names, or with parameters left out -/
theorem ee_callK (F : Cal X f fd ps (spOf X.K C m g)) (hg : Gl X x) (hm : X.mg x = some (.ref f)) (hk : PySem.W.keepIn X.K (.ref f) = true) (hb : BindK X.K fd ps n ks src) (hsrc : src.length = m) (tk : Takes X W)
    (ha : PA X (e :: es) (tA X.K C W rs)) (hn : AL n rs) (hkw : PK X kws (tA X.K C W rk)) (hnk : AL ks.length rk) (hall : (backToKw pos (keywordEach kws X.env)).all (·.1.isSome) = true := by rfl) (hks : (backToKw pos (keywordEach kws X.env)).filterMap (·.1) = ks := by rfl)
    (hdb : (x == ("__debug__" : Str)) = false := by decide) (he : starEach (e :: es) X.env = (false, eval e X.env) :: starEach es X.env := by rfl)
    (hpl : ((backTo pos (starEach (e :: es) X.env)).any (·.1) || (backToKw pos (keywordEach kws X.env)).any (·.1.isNone)) = false := by rfl) :
    PE X (.Call (.Name x p) (e :: es) kws pos) (tE X.K C W (rCallK g src rs rk)) := by
  refine ⟨fun pins s sg H Q I h => ?_⟩
  have h2 := tA.alen hn (tR.seq1 (R := RepsR X.K C) (fun e ds S1 => (rk e S1).bind fun es S2 => match pick ds es src with | some zs => g zs S2 | none => .bad) h fun _ _ => rfl)
  refine wpAny_Call_Name_kw (ld_glob I hg hm ?_ hdb)
  refine PySem.W.callWith_KW (h₀ := X.base) I.ok.mod.kin hk hall (thn (ha.run pos pins s sg H _ I h2) fun us s1 ⟨vs, H1, I1, r, hl, e, S, io, ds, dn, sl, rr, q⟩ => ?_) hpl he
  have h3 : tA X.K C W rk sg H1 (fun xs H2 => ∃ S2 io2 es, Ext io H1 io2 H2 ∧ Den X.K C io2 S2 H2 ∧ Reps X.K C io2 (Fz io2 H2) es xs ∧ Post X.K C (RepR X.K C) W sg io2 H2 (match pick ds es src with | some zs => g zs S2 | none => .bad) Q) :=
    ⟨e, S, io, dn, sl, q.bind.mono fun xs H2 ⟨io2, S2, es, x2, d2, r2, p2⟩ => ⟨S2, io2, es, x2, d2, r2, p2⟩⟩
  refine thn (hkw.run pos pins s1 sg H1 _ I1 (tA.alen hnk h3)) fun ws s2 ⟨xs, H2, I2, rx, hl2, S2, io2, es, x2, d2, r2, p2⟩ => ⟨I2.kIn, ?_⟩
  rw [hks]
  obtain ⟨zs, b1, b2⟩ := hb.to s2 us ws I2.kIn (r.length.symm.trans hl) (rx.length.symm.trans hl2)
  split at p2
  · rename_i as hp
    obtain ⟨ys, y1, y2⟩ := picked r rx (rr.ext x2) r2 b2 hp
    exact run_cal F tk b1 I2 y1 (spOf_of (by rw [y1.length, b2.length, hsrc]) d2 y2 p2)
  · exact p2.elim
/-- by names alone -/
theorem ee_callK0 (F : Cal X f fd ps (spOf X.K C m g)) (hg : Gl X x) (hm : X.mg x = some (.ref f)) (hk : PySem.W.keepIn X.K (.ref f) = true) (hb : BindK X.K fd ps 0 ks src) (hsrc : src.length = m) (tk : Takes X W)
    (hkw : PK X kws (tA X.K C W rk)) (hnk : AL ks.length rk) (hall : (backToKw pos (keywordEach kws X.env)).all (·.1.isSome) = true := by rfl) (hks : (backToKw pos (keywordEach kws X.env)).filterMap (·.1) = ks := by rfl)
    (hdb : (x == ("__debug__" : Str)) = false := by decide) (hpl : ((backTo pos (starEach [] X.env)).any (·.1) || (backToKw pos (keywordEach kws X.env)).any (·.1.isNone)) = false := by rfl) :
    PE X (.Call (.Name x p) [] kws pos) (tE X.K C W (rCallK g src rNil rk)) := by
  refine ⟨fun pins s sg H Q I h => ?_⟩
  refine wpAny_Call_Name_kw (ld_glob I hg hm ?_ hdb)
  have h2 : tA X.K C W rk sg H (fun xs H2 => ∃ S2 io2 es, Den X.K C io2 S2 H2 ∧ Reps X.K C io2 (Fz io2 H2) es xs ∧ Post X.K C (RepR X.K C) W sg io2 H2 (match pick [] es src with | some zs => g zs S2 | none => .bad) Q) := by
    obtain ⟨e, S, io, dn, sl, q⟩ := h
    exact ⟨e, S, io, dn, sl, (Post.bind (k := fun es S2 => match pick [] es src with | some zs => g zs S2 | none => .bad) q).mono fun xs H2 ⟨io2, S2, es, x2, d2, r2, p2⟩ => ⟨S2, io2, es, d2, r2, p2⟩⟩
  refine PySem.W.callWith_KW0 (h₀ := X.base) I.ok.mod.kin hk hall (thn (hkw.run pos pins s sg H _ I (tA.alen hnk h2)) fun ws s2 ⟨xs, H2, I2, rx, hl2, S2, io2, es, d2, r2, p2⟩ => ⟨I2.kIn, ?_⟩) hpl
  rw [hks]
  obtain ⟨zs, b1, b2⟩ := hb.to s2 [] ws I2.kIn rfl (rx.length.symm.trans hl2)
  split at p2
  · rename_i as hp
    obtain ⟨ys, y1, y2⟩ := picked .nil rx .nil r2 b2 hp
    exact run_cal F tk b1 I2 y1 (spOf_of (by rw [y1.length, b2.length, hsrc]) d2 y2 p2)
  · exact p2.elim
end
/-! ### the end of a law whose def shows data -/
theorem law_callG {P : Program} {w : World} {K : PySem.W.Frag} {mg mb : Str → Option Value} {k : Nat} {fa a : Addr} {fd : FuncData} {x : Str} {sp : Sp} {s1 : Shared} {vs : List Value} {ns : List Int}
    (KX : K.In s1.heap) (hns : s1.heap.Ns mainGlobals mg) (hb : s1.heap.Ns builtinsNs mb) (hbb : ∀ x : Str, x ≠ "__name__" → mb x = bootBuiltins x) (hlim : s1.heap.NoLimit) (hg : s1.gens = #[])
    (ha : s1.heap.get? a = some { cls := .type "list", data := .seq vs.toArray }) (hi : IntsAre vs ns) (hl : ns.length ≤ sizeLine) (hr : Room k callerA)
    (F : ∀ base : Heap, K.In base → base.Ns mainGlobals mg → FnG P w K mg base (L2.CX P w) k fa fd [x] sp) (hbind : ∀ (s : Shared) (u : Value), BindsTo s fd ⟨[u], []⟩ [(x, u)])
    (hsp : ∀ H : Hp, Only H → SqL K H a (ns.map V.int) → sp [.ref a] H (fun v _ => v = .bl true) fun _ _ _ => False) :
    codeAny (model P w) callerA (.call (.ref fa) ⟨[.ref a], []⟩) (fun r s' => r = .ok (.ret (.bool true)) ∧ OldK s1.heap s'.heap ∧ s'.os = s1.os ∧ AllBare s'.gens) s1 := by
  have rv := vals_ints hi
  -- the run from a heap H that knows the script at most
  have go : ∀ H : Hp, Only H → SqL K H a (ns.map V.int) → HOk P w H s1.heap → (∀ b u, H b = some u → b = a ∧ K.lookup a = none) →
      codeAny (model P w) callerA (.call (.ref fa) ⟨[.ref a], []⟩) (fun r s' => r = .ok (.ret (.bool true)) ∧ OldK s1.heap s'.heap ∧ s'.os = s1.os ∧ AllBare s'.gens) s1 := fun H hO hS hok hA => by
    have offD : ∀ {b : Addr} {o : Obj} {es : Array DictEntry} {ep : Nat}, s1.heap.get? b = some o → o.data = .dict es ep → H b = none := fun {b o es ep} e d => by
      cases q : H b with
      | none => rfl
      | some u =>
        obtain ⟨rfl, _⟩ := hA b u q
        rw [ha] at e
        cases e
        cases d
    have nsK : ∀ {b : Addr} {m : Str → Option Value}, s1.heap.Ns b m → (hidT s1.heap H).Ns b m := fun {b m} ⟨o, es, ep, e, d, r⟩ => ⟨o, es, ep, hidT_get e (offD e d), d, r⟩
    have hKb : K.In (hidT s1.heap H) := fun b o e => hidT_get (KX b o e) (by
      cases q : H b with
      | none => rfl
      | some u =>
        obtain ⟨rfl, hk⟩ := hA b u q
        rw [hk] at e
        cases e)
    have lim : (hidT s1.heap H).NoLimit := by
      obtain ⟨mc, h1, h2⟩ := hlim
      exact ⟨mc, nsK h1, h2⟩
    have e0 : Env0 P w K mg (hidT s1.heap H) callerA [] s1 H := ⟨rfl, ⟨hKb, nsK hns, ⟨mb, nsK hb, hbb⟩, lim⟩, fun b o e => of_hidT e, Nat.le_of_eq (hidT_size _ _), trivial, fun b hb => (by cases hb), hok, .of_eq hg⟩
    refine codeAny_mono ((F _ hKb (nsK hns)).run callerA [] s1 H ⟨[.ref a], []⟩ [.ref a] [.ref a] _ _ ⟨hr, rfl⟩ e0 (hbind s1 (.ref a)) (.cons rfl .nil) (hsp H hO hS)) fun r s' h => ?_
    cases r with
    | error e => exact (cx_end h).elim
    | ok fl =>
      cases fl with
      | ret u =>
        obtain ⟨v, H', os, bare, un, hok', r', q⟩ := h
        subst q
        obtain rfl : u = Value.bool true := r'
        refine ⟨rfl, OldK.of_keep fun b o e => ?_, os, bare⟩
        rcases hO b with z | ⟨ob, xs, z⟩
        · exact un.keep b o e z (fun y => by cases y) (by simp)
        · obtain ⟨e1, _⟩ := hok b _ z
          obtain ⟨e2, _⟩ := hok' b _ (un.frzs b ob _ z)
          rw [e] at e1
          cases e1
          exact e2
      | _ => exact False.elim h
  cases hk : K.lookup a with
  | some o =>
    have e := KX a o hk
    rw [ha] at e
    cases e
    exact go (fun _ => none) (fun _ => .inl rfl) (.inr ⟨_, vs.toArray, _, hk, rfl, rfl, rfl, by rw [List.size_toArray, hi.length]; exact hl, by simpa using rv⟩) (fun b u z => by cases z) fun b u z => by cases z
  | none =>
    have at_ : ∀ {b : Addr} {u : HO}, (if b = a then some (HO.frz { cls := .type "list", data := .seq vs.toArray } (.lst (ns.map V.int))) else none) = some u → b = a ∧ u = HO.frz { cls := .type "list", data := .seq vs.toArray } (.lst (ns.map V.int)) := fun {b u} z => by
      split at z
      · cases z; exact ⟨by assumption, rfl⟩
      · cases z
    refine go (fun b => if b = a then some (.frz { cls := .type "list", data := .seq vs.toArray } (.lst (ns.map V.int))) else none) (fun b => ?_) (.inl (.inr ⟨_, if_pos rfl⟩)) (fun b u z => ?_) fun b u z => ⟨(at_ z).1, hk⟩
    · by_cases hb : b = a
      · exact .inr ⟨_, _, if_pos hb⟩
      · exact .inl (if_neg hb)
    · obtain ⟨rfl, rfl⟩ := at_ z
      exact ⟨ha, by rw [List.length_map]; exact hl, vs, _, rv, ha⟩
theorem walk_evG {l : PySem.W.OpenLaw} {n k : Nat} {q : Program} {loose : List Str} {XP : (Str → Option Value) → Heap → Prop} {YP : World → Heap → Prop} {d : DefRec} {K : Params → PySem.W.Frag} {x : Str} {g : List D → Store → Res D}
    (hn : l.most = some n) (hn2 : n ≤ sizeLine) (hdf : d.params.defaults = []) (hr : Room k callerA)
    (hY : ∀ (w : World) (h : Heap), YP w h → (K w.params).In h)
    (F : ∀ (w : World) (mg : Str → Option Value) (fa : Addr) (h : Heap), (K w.params).In h → h.Ns mainGlobals mg → mg d.name = some (.ref fa) →
      ∃ (fd : FuncData) (C : Nat → Addr), (∀ (s : Shared) (u : Value), BindsTo s fd ⟨[u], []⟩ [(x, u)]) ∧
        ∀ base : Heap, (K w.params).In base → base.Ns mainGlobals mg → FnG l.prog w (K w.params) mg base (L2.CX l.prog w) k fa fd [x] (spOf (K w.params) C 1 g))
    (hg : ∀ ns : List Int, ns.length ≤ n → ∃ S', g [.lst (ns.map D.int)] [] = .ok (.bl true) S') :
    PySem.W.WalkO q loose XP YP l.row.toRowW d [] (fun f vs => PySem.call f vs) := by
  refine Att.attach_call hn hdf fun w s0 s1 mg mb fa o pm cd doc a vs ns G Y ho hd hcd hmg hobj hints hlen hgn => ?_
  have KX := hY w _ Y
  obtain ⟨fd, C, hb, hF⟩ := F w mg fa _ KX G.T.g hmg
  exact law_callG KX G.T.g G.T.b G.T.builtins G.T.nolimit hgn hobj hints (Nat.le_trans hlen hn2) hr hF hb (fun H hO hS => law_end hS (hg ns hlen))
end Ev
namespace Ev
open PySem PySem.Spec L2

/-! ### loops over a list of the store, as it stands at each turn -/
def itemAt (S : Store) (x : D) (i : Nat) : Option (Option D) := match x with
  | .loc n => match S[n]? with
    | some (.lst xs) => some xs[i]?
    | _ => none
  | .lst xs => some xs[i]?
  | .tup xs => some xs[i]?
  | _ => none
def okIt (S : Store) : D → Bool
  | .loc n => match S[n]? with
    | some (.lst _) => true
    | _ => false
  | .lst _ => true
  | .tup _ => true
  | _ => false
def forV (t : Tg) (body : RS) (x : D) : Nat → Nat → RS
  | 0, _, _, _ => .bad
  | k + 1, i, e, S => match itemAt S x i with
    | none => .bad
    | some none => .nx e S
    | some (some d) => match bindT S d e t with
      | none => .bad
      | some e1 => (body e1 S).andThen (forV t body x k (i + 1))
def rLive (a : RE) : RE := fun e S => (a e S).bind fun d S1 => if okIt S1 d = true then .ok d S1 else .bad
def sForV (a : RE) (t : Tg) (body : RS) (k : Nat) : RS := fun e S => (rLive a e S).fl e fun x S1 => forV t body x k 0 e S1
/-- the walk J goes through the thing x, as it stands -/
def WkV (K : PySem.W.Frag) (C : Nat → Addr) : Io → Hp → D → It → Prop := fun io F x J =>
  ∀ (io' : Io) (H' : Hp) (S' : Store), (∀ (n : Nat) (a : Addr), io.l[n]? = some a → io'.l[n]? = some a) → Same F (Fz io' H') → Den K C io' S' H' →
    ∀ i, (itemAt S' x i = some none → J.stop i H') ∧ ∀ d, itemAt S' x i = some (some d) → J.go i H' ∧ ∀ v H'', J.yld i H' v H'' → Ext io' H' io' H'' ∧ Den K C io' S' H'' ∧ Rep K C io' (Fz io' H'') d v
theorem wkV_loc {K : PySem.W.Frag} {C : Nat → Addr} {io : Io} {F : Hp} {a : Addr} {n : Nat} (h : io.l[n]? = some a) : WkV K C io F (.loc n) (Itl K a) := fun io' H' S' hp hs dn i => by
  have ha := hp n a h
  cases hS : S'[n]? with
  | none => exact ⟨fun z => by simp [itemAt, hS] at z, fun d z => by simp [itemAt, hS] at z⟩
  | some o =>
    cases o with
    | lst xs =>
      obtain ⟨vs, h1, h2⟩ := dn.obj n _ a hS ha
      refine ⟨fun z => ?_, fun d z => ?_⟩
      · simp only [itemAt, hS, Option.some.injEq] at z
        refine ⟨vs, .of h1, ?_⟩
        rw [← h2.length]
        exact List.getElem?_eq_none_iff.mp z
      · simp only [itemAt, hS, Option.some.injEq] at z
        obtain ⟨v, e1, e2⟩ := h2.get z
        refine ⟨⟨vs, v, .of h1, e1⟩, fun u H'' y => ?_⟩
        obtain ⟨rfl, y⟩ := y
        have e3 := y vs (.of h1)
        rw [e1] at e3
        cases e3
        exact ⟨Ext.refl _ _, dn, e2⟩
    | dK ks xs => exact ⟨fun z => by simp [itemAt, hS] at z, fun d z => by simp [itemAt, hS] at z⟩
    | ins c ns xs => exact ⟨fun z => by simp [itemAt, hS] at z, fun d z => by simp [itemAt, hS] at z⟩
theorem wkV_lst {K : PySem.W.Frag} {C : Nat → Addr} {io : Io} {F : Hp} {a : Addr} {vs : List V} {ds : List D} (h : SqL K F a vs) (r : Reps K C io F ds vs) : WkV K C io F (.lst ds) (Itl K a) := fun io' H' S' hp hs dn i => by
  have h' : SqL K H' a vs := (Fz_same _ _).seq (hs.seq h)
  refine ⟨fun z => ⟨vs, h', ?_⟩, fun d z => ?_⟩
  · rw [← r.length]
    exact List.getElem?_eq_none_iff.mp (Option.some.inj z)
  · have z' : ds[i]? = some d := Option.some.inj z
    obtain ⟨v, e1, e2⟩ := r.get z'
    refine ⟨⟨vs, v, h', e1⟩, fun u H'' y => ?_⟩
    obtain ⟨rfl, y⟩ := y
    have e3 := y vs h'
    rw [e1] at e3
    cases e3
    exact ⟨Ext.refl _ _, dn, e2.mono hp hs⟩
theorem wkV_tup {K : PySem.W.Frag} {C : Nat → Addr} {io : Io} {F : Hp} {a : Addr} {vs : List V} {ds : List D} (h : SqT K F a vs) (r : Reps K C io F ds vs) : WkV K C io F (.tup ds) (Itt K a) := fun io' H' S' hp hs dn i => by
  have h' : SqT K H' a vs := sqT_same (Fz_same _ _) (sqT_same hs h)
  refine ⟨fun z => ⟨vs, h', ?_⟩, fun d z => ?_⟩
  · rw [← r.length]
    exact List.getElem?_eq_none_iff.mp (Option.some.inj z)
  · have z' : ds[i]? = some d := Option.some.inj z
    obtain ⟨v, e1, e2⟩ := r.get z'
    refine ⟨⟨vs, v, h', e1⟩, fun u H'' y => ?_⟩
    obtain ⟨rfl, y⟩ := y
    have e3 := y vs h'
    rw [e1] at e3
    cases e3
    exact ⟨Ext.refl _ _, dn, e2.mono hp hs⟩
section
variable {X : Cx} {C : Nat → Addr} {W : WX} {tg a : Expr} {ra : RE}
theorem ei_live (ha : PE X a (tE X.K C W ra)) : PI X tg a (tR X.K C (WkV X.K C) W (rLive ra)) := by
  have hi : PI X tg a (fun sg H R => tE X.K C W ra sg H fun x H1 => (∃ p, x = .ref p ∧ (∃ xs, SqL X.K H1 p xs) ∧ R (Itl X.K p) H1) ∨ (∃ p, x = .ref p ∧ (∃ xs, SqT X.K H1 p xs) ∧ R (Itt X.K p) H1)) := by
    refine ⟨fun pins s sg H R I h => ?_⟩
    refine thn (ha.run pins s sg H _ I h) fun v s1 ⟨x, H1, I1, r1, q1⟩ => ?_
    rcases q1 with ⟨p, rfl, ⟨xs, hq⟩, q⟩ | ⟨p, rfl, ⟨xs, hq⟩, q⟩
    · cases r1
      obtain ⟨its, rv, pl, hz⟩ := I1.list hq
      refine wpAny_pyIter_list pl.isList ?_
      refine ⟨s1.heap.objs.size, [s1.heap.objs.size], _, _, H1, rfl, I1.kept (t' := s1.toks) fun b o e => Heap.get?_push_of_some _ e, turn_list p _, ⟨_, Heap.get?_push_size _ rfl, rfl, rfl⟩, fun b hb => ?_, q⟩
      have e : b = s1.heap.objs.size := by simpa using hb
      subst e
      exact I1.fpOk (Nat.le_refl _) (I1.hok.fresh (Nat.le_refl _))
    · cases r1
      obtain ⟨its, rv, pl, hz⟩ := I1.tuple hq
      refine wpAny_pyIter_tuple (show s1.heap.IsTuple p its.toArray from pl) ?_
      refine ⟨s1.heap.objs.size, [s1.heap.objs.size], _, _, H1, rfl, I1.kept (t' := s1.toks) fun b o e => Heap.get?_push_of_some _ e, turn_tuple p _, ⟨_, Heap.get?_push_size _ rfl, rfl, rfl⟩, fun b hb => ?_, q⟩
      have e : b = s1.heap.objs.size := by simpa using hb
      subst e
      exact I1.fpOk (Nat.le_refl _) (I1.hok.fresh (Nat.le_refl _))
  refine hi.imp fun sg H R h => (tR.seq1 (R := RepR X.K C) (fun _ d S => if okIt S d = true then .ok d S else .bad) h fun _ _ => rfl).mono fun x H1 ⟨e, S, io, d, dn, s, r, p⟩ => ?_
  by_cases hk : okIt S d = true
  · rw [if_pos hk] at p
    cases r with
    | tup q rs => exact .inr ⟨_, rfl, ⟨_, sqT_same (Fz_same _ _) q⟩, p _ H1 io (Ext.refl _ _) dn (wkV_tup q rs)⟩
    | lst q rs => exact .inl ⟨_, rfl, ⟨_, (Fz_same _ _).seq q⟩, p _ H1 io (Ext.refl _ _) dn (wkV_lst q rs)⟩
    | @loc n a q =>
      simp only [okIt] at hk
      split at hk
      · rename_i xs e1
        obtain ⟨vs, h1, h2⟩ := dn.obj n _ a e1 q
        exact .inl ⟨_, rfl, ⟨vs, .of h1⟩, p _ H1 io (Ext.refl _ _) dn (wkV_loc q)⟩
      · cases hk
    | _ => cases hk
  · rw [if_neg hk] at p
    exact p.elim
end
section
variable {X : Cx} {C : Nat → Addr} {W : WX} {tg iter : Expr} {ra : RE} {body : List Stmt} {mb : RS} {t : Tg} {pos : Pos}
theorem s_forV (k : Nat) (hp : PassesOwn (model X.prog X.w) X.A X.env X.xe) (hc : X.calm = true) (hi : PI X tg iter (tR X.K C (WkV X.K C) W (rLive ra))) (hg : GD X C tg t) (hb : PSs X body (tS X.K C W mb)) (hs : ∀ x, foldedSetIterable iter X.env x = pure x := by intro _; rfl) :
    PS X (.For tg iter body [] pos) (tS X.K C W (sForV ra t mb k)) :=
  (ps_for hp hc hi hg hb hs).imp fun Dn sg H h => (tS.seq (R := WkV X.K C) (fun e x S1 => forV t mb x k 0 e S1) h fun _ _ => rfl).mono fun J H1 ⟨e, S, io, x, dn, s, wk, p⟩ => by
    refine ⟨fun i m sg' H' => ∃ e' S' io', Ext io H1 io' H' ∧ Den X.K C io' S' H' ∧ Slots X.K C io' (Fz io' H') e' sg' ∧ PostS X.K C W io' H' (forV t mb x m i e' S') Dn,
      ⟨k, e, S, io, Ext.refl _ _, dn, s, p⟩, fun i m sg' H' ⟨e', S', io', x', d', s', p'⟩ => ?_⟩
    obtain ⟨stop, step⟩ := wk io' H' S' x'.pre x'.same d' i
    cases m with
    | zero => exact p'.elim
    | succ m =>
      unfold forV at p'
      cases hq : itemAt S' x i with
      | none => rw [hq] at p'; exact p'.elim
      | some o =>
        rw [hq] at p'
        cases o with
        | none => exact .inl ⟨stop hq, p' sg' H' io' (Ext.refl _ _) d' s'⟩
        | some d =>
          obtain ⟨go, yld⟩ := step d hq
          refine .inr ⟨go, fun sg2 H2 => ∃ e2 S2 io2, Ext io H1 io2 H2 ∧ Den X.K C io2 S2 H2 ∧ Slots X.K C io2 (Fz io2 H2) e2 sg2 ∧ PostS X.K C W io2 H2 (forV t mb x m (i + 1) e2 S2) Dn, fun sg2 H2 h2 => ⟨m, by omega, h2⟩, fun v H2 y => ?_⟩
          obtain ⟨x2, d2, r2⟩ := yld v H2 y
          cases hb : bindT S' d e' t with
          | none => simp only [hb] at p'; exact p'.elim
          | some e1 =>
            simp only [hb] at p'
            refine ⟨e', S', io', d, e1, d2, s'.ext x2, r2, hb, fun sg3 s3 _ => ⟨e1, S', io', d2, s3, ?_⟩⟩
            have p2 := PostS.ext x2 p'
            cases q : mb e1 S' with
            | nx e4 S4 =>
              simp only [q, Fl.andThen] at p2
              exact fun sg4 H4 io4 x4 d4 s4 => ⟨e4, S4, io4, (x'.trans x2).trans x4, d4, s4, PostS.ext x4 p2⟩
            | rt d4 S4 => simp only [q, Fl.andThen] at p2; exact p2
            | er x4 e4 S4 => simp only [q, Fl.andThen] at p2; exact p2
            | bad => simp only [q, Fl.andThen] at p2; exact p2
end
end Ev
namespace Ev
open PySem PySem.Spec L2
/-! ### try .. except X: without a name -/
def Fl.noEr : Fl → Fl
  | .er _ _ _ => .bad
  | f => f
def catchOnly (sub : Nat → Option Bool) (suite : RS) (x : Exn) (e : Env) (S : Store) : Fl := match sub x.c with
  | some true => (suite e S).noEr
  | some false => .er x e S
  | none => .bad
def sTryOnly (sub : Nat → Option Bool) (body suite : RS) : RS := fun e S => match body e S with
  | .er x e1 S1 => catchOnly sub suite x e1 S1
  | f => f
theorem s_try_only {X : Cx} {C : Nat → Addr} {W : WX} {x : Str} {c : Value} {body suite : List Stmt} {b0 : Stmt} {np pos pos' : Pos} {mb ms : RS} {sub : Nat → Option Bool} (hs : X.stack = X.env :: X.outer) (hf : X.env.frame = some X.env.locals) (hc : Names X x c) (tk : Takes X W)
    (hsub : ∀ y b, sub y = some b → PySem.W.exmOne X.K (.ref (C y)) c = some b)
    (hb : ∀ (W : WX) (pn : List (Addr × Obj)) (xe : Value → Shared → Prop), Takes (X.tr pn xe) W → PassesOwn (model X.prog X.w) X.A X.env xe → PSs (X.tr pn xe) body (tS X.K C W mb))
    (hsu : ∀ (a : Addr) (pn : List (Addr × Obj)), PSs (X.suite a pn) (b0 :: suite) (tS X.K C (fun _ _ _ _ => False) ms)) :
    PS X (.Try body [.ExceptHandler (some (.Name x np)) none (b0 :: suite) pos'] [] [] pos) (tS X.K C W (sTryOnly sub mb ms)) :=
  (ps_try_only (ts := fun _ _ _ => tS X.K C (fun _ _ _ _ => False) ms) hs hf hc tk hb (fun a oe cls d pn _ _ => hsu a ((a, oe) :: pn))).imp fun Dn sg H h => by
    obtain ⟨e0, S0, io0, dn0, sl0, p0⟩ := h
    refine ⟨e0, S0, io0, dn0, sl0, ?_⟩
    unfold sTryOnly at p0
    cases q : mb e0 S0 with
    | nx e1 S1 => rw [q] at p0; exact p0
    | rt d1 S1 => rw [q] at p0; exact p0
    | bad => rw [q] at p0; exact p0
    | er x e1 S1 =>
      rw [q] at p0
      intro cls dd sg' H' io' xx d' s' xr
      have pc := PostS.ext xx p0
      obtain ⟨rfl, _⟩ := id xr
      cases eb : sub x.c with
      | none => simp only [catchOnly, eb] at pc; exact pc.elim
      | some b =>
        refine ⟨b, hsub _ _ eb, fun hbt a _ => ?_, fun hbf => ?_⟩
        · subst hbt
          simp only [catchOnly, eb] at pc
          refine ⟨e1, S1, io', d', s', ?_⟩
          cases z : ms e1 S1 with
          | nx e2 S2 => rw [z] at pc; exact pc
          | rt d2 S2 => rw [z] at pc; exact pc
          | er y e2 S2 => rw [z] at pc; exact pc.elim
          | bad => rw [z] at pc; exact pc.elim
        · subst hbf
          simp only [catchOnly, eb] at pc
          exact pc _ dd sg' H' io' (Ext.refl _ _) d' s' xr
end Ev
namespace Ev
open PySem PySem.Spec L2 PyProof.Rows

/-! ### list(text) -/
def listT (S : Store) : List D → Option D
  | [.str x] => if x.length ≤ sizeLine then some (.lst (signsD x)) else none
  | as => listD S as
theorem reps_signs {K : PySem.W.Frag} {C : Nat → Addr} {io : Io} {F : Hp} : ∀ l : List Nat, Reps K C io F (l.map fun c => D.str ⟨#[c]⟩) (l.map fun c => V.str ⟨#[c]⟩)
  | [] => .nil
  | c :: l => .cons (.str _) (reps_signs l)
theorem listT_ok {X : Cx} {C : Nat → Addr} (hc : X.calm = true) : CallD X C (.type "list") listT := fun pins s sg H xs us Q I rx ⟨io, S, as, d, dn, ra, e, q⟩ => by
  unfold listT at e
  split at e
  · rename_i x
    split at e
    · rename_i hz
      cases e
      obtain ⟨v, rfl, rv⟩ := reps1 ra
      cases rv
      obtain ⟨u, rfl, ru⟩ := vals1 rx
      obtain ⟨t, rfl⟩ := ru
      refine call_list_str (I.ok.hd hc) x t (hn := hz) fun h' tk acc' c' hk hS hacc => ?_
      have el : acc'.toList.length = acc'.size := by simp
      have hl : (x.cps.toList.map fun c => V.str ⟨#[c]⟩).length = x.length := by simp; rfl
      obtain ⟨x1, d1, r1⟩ := new_lst (xs := signsD x) (vs := x.cps.toList.map fun c => V.str ⟨#[c]⟩) dn (reps_signs _) (I.hok.fresh (Nat.le_refl s.heap.objs.size))
      refine ⟨.ref s.heap.objs.size, upd H s.heap.objs.size (.lst (x.cps.toList.map fun c => V.str ⟨#[c]⟩)), I.laid hk (Nat.le_refl _) (show ObjOk X.prog X.w _ _ _ (.lst (x.cps.toList.map fun c => V.str ⟨#[c]⟩)) from ⟨by rw [hl]; exact hz, acc'.toList, c', ?_, ?_⟩), rfl, q _ _ io x1 d1 r1⟩
      · refine vals_of_at (by rw [hl, el, hacc.1]; rfl) fun j y w h1 h2 => ?_
        obtain ⟨c, u, hcx, rfl⟩ := hacc.2 j w (by rw [← Array.getElem?_toList]; exact h2)
        rw [List.getElem?_map, Array.getElem?_toList, hcx] at h1
        cases h1
        exact ⟨u, rfl⟩
      · rw [Array.toArray_toList]; exact hS
    · cases e
  · exact listD_ok pins s sg H xs us Q I rx ⟨io, S, as, d, dn, ra, e, q⟩
end Ev
namespace Ev
open PySem PySem.Spec L2

/-! ### comprehensions over a list of the store, as it stands at each turn -/
def lcV (t : Tg) (c : RT) (elt : RE) (e0 : Env) (x : D) : Nat → Nat → Store → Res (List D)
  | 0, _, _ => .bad
  | k + 1, i, S => match itemAt S x i with
    | none => .bad
    | some none => .ok [] S
    | some (some d) => match bindT S d e0 t with
      | none => .bad
      | some e1 => (c e1 S).bind fun b S1 => if b = true then (elt e1 S1).bind fun y S2 => (lcV t c elt e0 x k (i + 1) S2).bind fun ys S3 => .ok (y :: ys) S3 else lcV t c elt e0 x k (i + 1) S1
def rLcV (fin : List D → Store → Res D) (a : RE) (t : Tg) (vs : List Nat) (c : RT) (elt : RE) (k : Nat) : RE := fun e S => (rLive a e S).bind fun x S1 => if k ≤ sizeLine then (lcV t c elt (wipeE e vs) x k 0 S1).calm.bind fin else .bad
section
variable {X : Cx} {C : Nat → Addr} {W : WX} {elt tg iter : Expr} {ifs : List Expr} {scope : Scope} {own : List (Str × Nat)} {pos : Pos} {ra : RE} {t : Tg} {rc : RT} {re : RE} {fin : List D → Store → Res D}
theorem lcV_read (k : Nat) (hfin : FinOk fin) (sg : L2.St) (H : Hp) (Q : VK) (vs : List Nat) (hv : ∀ i ∈ t.ixs, i ∈ vs) (h : tE X.K C W (rLcV fin ra t vs rc re k) sg H Q) :
    tLc (tR X.K C (WkV X.K C) W (rLive ra)) (gTg X.K C t)
      (tT X.K C (fun _ _ _ _ => False) rc) (tE X.K C (fun _ _ _ _ => False) re) vs sg H Q := by
  refine (tR.seq1 (R := WkV X.K C) (fun e x S1 => if k ≤ sizeLine then (lcV t rc re (wipeE e vs) x k 0 S1).calm.bind fin else .bad) h fun _ _ => rfl).mono fun J H1 ⟨e, S, io, x, dn, sl, wk, post⟩ => ?_
  split at post
  · rename_i hz
    intro p hp
    let Done : List D → Store → Prop := fun ys S2 => Post X.K C (RepR X.K C) W sg io H1 (fin ys S2) Q
    refine ⟨fun i m H' => m + i = k ∧ ∃ S' io' acc ys, (∀ (n : Nat) (a : Addr), io.l[n]? = some a → io'.l[n]? = some a) ∧ io'.h = io.h ∧ Same (Fz io H1) (Fz (io'.hide p (.lst acc)) H') ∧
        Den X.K C (io'.hide p (.lst acc)) S' H' ∧ Reps X.K C io' (Fz (io'.hide p (.lst acc)) H') ys acc ∧ acc.length ≤ i ∧ ∃ zs S2, lcV t rc re (wipeE e vs) x m i S' = .ok zs S2 ∧ Done (ys ++ zs) S2,
      ⟨k, rfl, S, io, [], [], fun _ _ h => h, rfl, by rw [Fz_hide hp]; exact fun _ _ h => h, dn.hide hp rfl, .nil, Nat.le_refl _, ?_⟩, fun i m H' ⟨hm, S', io', acc, ys, h1, h2, h3, d', rs, hl, zs, S2, hlc, hd⟩ => ?_⟩
    · cases q : lcV t rc re (wipeE e vs) x k 0 S with
      | ok zs S2 => rw [q] at post; exact ⟨zs, S2, rfl, post⟩
      | err x S2 => rw [q] at post; exact post.elim
      | bad => rw [q] at post; exact post.elim
    obtain ⟨stop, step⟩ := wk (io'.hide p (.lst acc)) H' S' h1 h3 d' i
    cases m with
    | zero => cases hlc
    | succ m =>
    unfold lcV at hlc
    cases hq : itemAt S' x i with
    | none => rw [hq] at hlc; cases hlc
    | some o =>
    rw [hq] at hlc
    cases o with
    | none =>
      cases hlc
      rw [List.append_nil] at hd
      exact .inl ⟨stop hq, hfin X.K C W sg io io' H1 H' S' p ys acc Q h1 h2 h3 d' rs hd⟩
    | some d =>
      obtain ⟨go, yld⟩ := step d hq
      refine .inr ⟨go, fun H2 => ∃ S' io' acc ys, (∀ (n : Nat) (a : Addr), io.l[n]? = some a → io'.l[n]? = some a) ∧ io'.h = io.h ∧ Same (Fz io H1) (Fz (io'.hide p (.lst acc)) H2) ∧
        Den X.K C (io'.hide p (.lst acc)) S' H2 ∧ Reps X.K C io' (Fz (io'.hide p (.lst acc)) H2) ys acc ∧ acc.length ≤ i + 1 ∧ ∃ zs S2, lcV t rc re (wipeE e vs) x m (i + 1) S' = .ok zs S2 ∧ Done (ys ++ zs) S2, fun H2 h2 => ⟨m, by omega, by omega, h2⟩, fun v0 H2 y => ?_⟩
      obtain ⟨x2, d2, r2⟩ := yld v0 H2 y
      cases hb : bindT S' d (wipeE e vs) t with
      | none => simp only [hb] at hlc; cases hlc
      | some e1 =>
        simp only [hb] at hlc
        have hs2 : Slots X.K C (io'.hide p (.lst acc)) (Fz (io'.hide p (.lst acc)) H2) (wipeE e vs) (wipe sg vs) := by
          have s0 := sl.wipe vs
          refine ⟨s0.len, fun j q hq => ?_⟩
          obtain ⟨v, v1, v2⟩ := s0.get j q hq
          exact ⟨v, v1, (v2.mono (io' := io'.hide p (.lst acc)) h1 h3).mono (fun _ _ z => z) x2.same⟩
        refine ⟨wipeE e vs, S', io'.hide p (.lst acc), d, e1, d2, hs2, r2, hb, fun sg3 s3 ag => ⟨?_, e1, S', io'.hide p (.lst acc), d2, s3, ?_⟩⟩
        · rw [ag vs hv]
          have : ∀ s : L2.St, wipe (wipe s vs) vs = wipe s vs := fun s => by
            apply List.ext_getElem?
            intro j
            rw [wipe_get, wipe_get, wipe_length]
            by_cases hj : j ∈ vs <;> simp [hj]
          exact this sg
        cases hc : rc e1 S' with
        | err y Sy => rw [hc] at hlc; cases hlc
        | bad => rw [hc] at hlc; cases hlc
        | ok k S3 =>
          rw [hc] at hlc
          intro b H3 io3 x3 d3 eb
          cases eb
          have hh3 : io3.h = (p, HO.lst acc) :: io'.h := x3.hid
          have e3 : io3 = (⟨io3.l, io'.h⟩ : Io).hide p (.lst acc) := by unfold Io.hide; rw [← hh3]
          cases k with
          | false =>
            replace hlc : lcV t rc re (wipeE e vs) x m (i + 1) S3 = .ok zs S2 := hlc
            rw [if_neg Bool.false_ne_true]
            have px := x2.trans x3
            refine ⟨S3, ⟨io3.l, io'.h⟩, acc, ys, fun n a hn => px.pre n a (h1 n a hn), h2, ?_, ?_, ?_, by omega, zs, S2, hlc, hd⟩
            · rw [← e3]; exact h3.trans px.same
            · rw [← e3]; exact d3
            · rw [← e3]; exact rs.mono (io := io') (io' := ⟨io3.l, io'.h⟩) px.pre px.same
          | true =>
            replace hlc : ((re e1 S3).bind fun y S2 => (lcV t rc re (wipeE e vs) x m (i + 1) S2).bind fun ys S3 => Res.ok (y :: ys) S3) = .ok zs S2 := hlc
            rw [if_pos rfl]
            refine ⟨e1, S3, io3, d3, s3.ext x3, ?_⟩
            cases he : re e1 S3 with
            | err y Sy => rw [he] at hlc; cases hlc
            | bad => rw [he] at hlc; cases hlc
            | ok y1 S4 =>
              rw [he] at hlc
              replace hlc : ((lcV t rc re (wipeE e vs) x m (i + 1) S4).bind fun ys S3 => Res.ok (y1 :: ys) S3) = .ok zs S2 := hlc
              intro v H4 io4 x4 d4 r4
              have hh4 : io4.h = (p, HO.lst acc) :: io'.h := x4.hid.trans hh3
              have e4 : io4 = (⟨io4.l, io'.h⟩ : Io).hide p (.lst acc) := by unfold Io.hide; rw [← hh4]
              have px := (x2.trans x3).trans x4
              have hD : H4 p = some (.lst acc) := (d4.hid (p, .lst acc) (by rw [hh4]; exact List.mem_cons_self)).1
              refine ⟨acc, hD, by omega, ?_⟩
              cases hr : lcV t rc re (wipeE e vs) x m (i + 1) S4 with
              | err q Sq => rw [hr] at hlc; cases hlc
              | bad => rw [hr] at hlc; cases hlc
              | ok zs' S5 =>
                rw [hr] at hlc
                cases hlc
                have fz : Fz ((⟨io4.l, io'.h⟩ : Io).hide p (.lst (acc ++ [v]))) (upd H4 p (.lst (acc ++ [v]))) = Fz io4 H4 := by
                  rw [Fz_hide_put (o := .lst acc), ← e4]
                refine ⟨S4, ⟨io4.l, io'.h⟩, acc ++ [v], ys ++ [y1], fun n a hn => px.pre n a (h1 n a hn), h2, ?_, ?_, ?_, by simp; omega, zs', S2, hr, by rw [List.append_assoc]; exact hd⟩
                · rw [fz]; exact h3.trans px.same
                · rw [e4] at d4
                  exact d4.rehide rfl
                · rw [fz]
                  exact (rs.mono (io := io') (io' := ⟨io4.l, io'.h⟩) px.pre px.same).append (.cons (r4.mono (io := io4) (io' := ⟨io4.l, io'.h⟩) (fun _ _ z => z) fun _ _ z => z) .nil)
  · exact post.elim
theorem ee_lcV (k : Nat) {vs : List Nat} (hfin : FinOk fin) (hc : X.calm = true) (hN : X.N.Nodup) (hi : PI X tg iter (tR X.K C (WkV X.K C) W (rLive ra))) (ok : BlkOk X.N X.env.scope scope own) (hw : own.map (·.2) = vs) (hv : ∀ i ∈ t.ixs, i ∈ vs)
    (hg : ∀ (s : Shared) (H : Hp) (A : Addr) (cl : List (Str × Addr)) (fp : List Addr), GD (X.blk s H scope (compEnvC scope cl A X.env) fp) C tg t)
    (ht : ∀ (s : Shared) (H : Hp) (A : Addr) (cl : List (Str × Addr)) (fp : List Addr), PTs (X.blk s H scope (compEnvC scope cl A X.env) fp) ifs (tT X.K C (fun _ _ _ _ => False) rc))
    (he : ∀ (s : Shared) (H : Hp) (A : Addr) (cl : List (Str × Addr)) (fp : List Addr), PE (X.blk s H scope (compEnvC scope cl A X.env) fp) elt (tE X.K C (fun _ _ _ _ => False) re)) (hs : ∀ x, foldedSetIterable iter X.env x = pure x := by intro _; rfl) :
    PE X (.ListComp elt [⟨tg, iter, ifs, 0⟩] scope pos) (tE X.K C W (rLcV fin ra t vs rc re k)) := by
  subst hw
  exact (pe_lc (g := gTg X.K C t) hc hN hi ok hg ht he hs).imp fun sg H Q h => lcV_read k hfin sg H Q _ hv h
theorem s_setLcV (i k : Nat) {vs : List Nat} {y : Str} {py spos : Pos} (hfin : FinOk fin) (hc : X.calm = true) (hN : X.N.Nodup) (hsw : swapsWith (.ListComp elt [⟨tg, iter, ifs, 0⟩] scope pos) (some (.Name y py)) spos.line X.env = pure true)
    (hi : PI X tg iter (tR X.K C (WkV X.K C) W (rLive ra))) (ok : BlkOk X.N X.env.scope scope own) (hw : own.map (·.2) = vs) (hv : ∀ i ∈ t.ixs, i ∈ vs)
    (hg : ∀ (s : Shared) (H : Hp) (A : Addr) (cl : List (Str × Addr)) (fp : List Addr), GD (X.blk s H scope (compEnvC scope cl A X.env) fp) C tg t)
    (ht : ∀ (s : Shared) (H : Hp) (A : Addr) (cl : List (Str × Addr)) (fp : List Addr), PTs (X.blk s H scope (compEnvC scope cl A X.env) fp) ifs (tT X.K C (fun _ _ _ _ => False) rc))
    (he : ∀ (s : Shared) (H : Hp) (A : Addr) (cl : List (Str × Addr)) (fp : List Addr), PE (X.blk s H scope (compEnvC scope cl A X.env) fp) elt (tE X.K C (fun _ _ _ _ => False) re)) (hs : ∀ x, foldedSetIterable iter X.env x = pure x := by intro _; rfl)
    (hy : X.N[i]? = some y := by rfl) (hyl : X.env.scope.names.lookup y = some .local := by rfl) :
    PS X (.Assign [.Name y py] (.ListComp elt [⟨tg, iter, ifs, 0⟩] scope pos) spos) (tS X.K C W (sSet i (rLcV fin ra t vs rc re k))) := by
  subst hw
  exact (ps_setLc (g := gTg X.K C t) hc hN hy hyl hsw hi ok hg ht he hs).imp fun Dn sg H h => lcV_read k hfin sg H _ _ hv ((tS.seq (R := RepR X.K C) (fun e d S1 => .nx (e.set i (some d)) S1) h fun _ _ => rfl).mono fun v H1 ⟨e, S, io, k1, d, s, q, p⟩ => p _ H1 io (Ext.refl _ _) d (s.set i q))
end
/-! ### two lists glued to a list of the store -/
def rAddM (a b : RE) : RE := fun e S => (a e S).bind fun x S1 => (b e S1).bind fun y S2 => match asL S2 x, asL S2 y with
  | some xs, some ys => if xs.length + ys.length ≤ sizeLine then .ok (.loc S2.length) (S2 ++ [.lst (xs ++ ys)]) else .bad
  | _, _ => .bad
section
variable {X : Cx} {C : Nat → Addr} {W : WX} {a b : Expr} {ra rb : RE} {pos : Pos}
theorem ee_addM (ha : PE X a (tE X.K C W ra)) (hb : PE X b (tE X.K C W rb)) : PE X (.BinOp a .Add b pos) (tE X.K C W (rAddM ra rb)) :=
  (pe_op op_catL ha hb).imp fun sg H Q h => (tR.seq2 repM (fun _ x y S2 => match asL S2 x, asL S2 y with
  | some xs, some ys => if xs.length + ys.length ≤ sizeLine then .ok (.loc S2.length) (S2 ++ [.lst (xs ++ ys)]) else .bad
  | _, _ => .bad) h fun _ _ => rfl).mono fun x H1 h1 => h1.mono fun y H2 ⟨e, S, io, x1, y1, dn, s, r1, r2, p⟩ => by
    split at p
    · rename_i xs ys e1 e2
      split at p
      · rename_i hz
        obtain ⟨p1, v1, rfl, h1, r1⟩ := asL_rep e1 dn r1
        obtain ⟨p2, v2, rfl, h2, r2⟩ := asL_rep e2 dn r2
        have l1 := r1.length
        have l2 := r2.length
        refine ⟨_, _, _, _, rfl, rfl, h1, h2, by omega, fun q hq => ?_⟩
        obtain ⟨x1, d1, r1⟩ := new_lstM dn (r1.append r2) hq
        exact p _ _ _ x1 d1 r1
      · exact p.elim
    · exact p.elim
end
end Ev
namespace Ev
open PySem PySem.Spec L2
section
variable {e : Env} {S : Store} {A B : Type}
@[simp] theorem bind_ok (a : A) (S : Store) (f : A → Store → Res B) : (Res.ok a S).bind f = f a S := (rfl)
@[simp] theorem bind_err (x : Exn) (S : Store) (f : A → Store → Res B) : (Res.err x S).bind f = .err x S := (rfl)
@[simp] theorem fl_ok (a : A) (S : Store) (f : A → Store → Fl) : (Res.ok a S).fl e f = f a S := (rfl)
@[simp] theorem fl_err (x : Exn) (S : Store) (f : A → Store → Fl) : (Res.err x S).fl e f = .er x e S := (rfl)
@[simp] theorem then_nx (k : RS) : (Fl.nx e S).andThen k = k e S := (rfl)
@[simp] theorem then_rt (d : D) (k : RS) : (Fl.rt d S).andThen k = .rt d S := (rfl)
@[simp] theorem then_er (x : Exn) (k : RS) : (Fl.er x e S).andThen k = .er x e S := (rfl)
@[simp] theorem bind_bad (f : A → Store → Res B) : (Res.bad : Res A).bind f = .bad := (rfl)
@[simp] theorem fl_bad (f : A → Store → Fl) : (Res.bad : Res A).fl e f = .bad := (rfl)
@[simp] theorem then_bad (k : RS) : (Fl.bad).andThen k = .bad := (rfl)
@[simp] theorem ofO_none : (ofO none S : Res A) = .bad := (rfl)
@[simp] theorem res_nx : (Fl.nx e S).res = .ok .non S := (rfl)
@[simp] theorem res_rt (d : D) : (Fl.rt d S).res = .ok d S := (rfl)
@[simp] theorem res_er (x : Exn) : (Fl.er x e S).res = .err x S := (rfl)
@[simp] theorem res_ite {c : Prop} [Decidable c] (a b : Fl) : (if c then a else b).res = if c then a.res else b.res := by split <;> rfl
@[simp] theorem then_ite {c : Prop} [Decidable c] (a b : Fl) (k : RS) : (if c then a else b).andThen k = if c then a.andThen k else b.andThen k := by split <;> rfl
@[simp] theorem bind_ite {c : Prop} [Decidable c] (a b : Res A) (k : A → Store → Res B) : (if c then a else b).bind k = if c then a.bind k else b.bind k := by split <;> rfl
@[simp] theorem fl_ite {c : Prop} [Decidable c] (a b : Res A) (k : A → Store → Fl) : (if c then a else b).fl e k = if c then a.fl e k else b.fl e k := by split <;> rfl
@[simp] theorem ofO_some (a : A) : ofO (some a) S = .ok a S := (rfl)
@[simp] theorem rCon_eq (d : D) : rCon d e S = .ok d S := (rfl)
@[simp] theorem rVar_eq (i : Nat) : rVar i e S = match e[i]? with | some (some d) => .ok d S | _ => .bad := (rfl)
@[simp] theorem rBin_eq (f : Store → D → D → Option D) (a b : RE) : rBin f a b e S = (a e S).bind fun x S1 => (b e S1).bind fun y S2 => ofO (f S2 x y) S2 := (rfl)
@[simp] theorem rUn_eq (f : Store → D → Option D) (a : RE) : rUn f a e S = (a e S).bind fun x S1 => ofO (f S1 x) S1 := (rfl)
@[simp] theorem rCal_eq (f : Store → List D → Option D) (a : RA) : rCal f a e S = (a e S).bind fun xs S1 => ofO (f S1 xs) S1 := (rfl)
@[simp] theorem rCall_eq (g : List D → Store → Res D) (a : RA) : rCall g a e S = (a e S).bind fun xs S1 => g xs S1 := (rfl)
@[simp] theorem rCallK_eq (g : List D → Store → Res D) (src : List Src) (as ks : RA) : rCallK g src as ks e S = (as e S).bind fun ds S1 => (ks e S1).bind fun es S2 => match pick ds es src with | some zs => g zs S2 | none => .bad := (rfl)
@[simp] theorem pick_nil (us ws : List D) : pick us ws [] = some [] := (rfl)
@[simp] theorem pick_cons (us ws : List D) (q : Src) (r : List Src) : pick us ws (q :: r) = (pick1 us ws q).bind fun x => (pick us ws r).bind fun xs => some (x :: xs) := (rfl)
@[simp] theorem pick1_p (us ws : List D) (i : Nat) : pick1 us ws (.p i) = us[i]? := (rfl)
@[simp] theorem pick1_k (us ws : List D) (i : Nat) : pick1 us ws (.k i) = ws[i]? := (rfl)
@[simp] theorem pick1_c (us ws : List D) (d : D) : pick1 us ws (.c d) = some d := (rfl)
@[simp] theorem rNil_eq : rNil e S = .ok [] S := (rfl)
@[simp] theorem rCons_eq (a : RE) (r : RA) : rCons a r e S = (a e S).bind fun x S1 => (r e S1).bind fun xs S2 => .ok (x :: xs) S2 := (rfl)
@[simp] theorem rTup_eq (r : RA) : rTup r e S = (r e S).bind fun xs S1 => .ok (.tup xs) S1 := (rfl)
@[simp] theorem rLst_eq (r : RA) : rLst r e S = (r e S).bind fun xs S1 => .ok (.lst xs) S1 := (rfl)
@[simp] theorem rLstM_eq (r : RA) : rLstM r e S = (r e S).bind fun xs S1 => .ok (.loc S1.length) (S1 ++ [.lst xs]) := (rfl)
@[simp] theorem rAddM_eq (a b : RE) : rAddM a b e S = (a e S).bind fun x S1 => (b e S1).bind fun y S2 => match asL S2 x, asL S2 y with
  | some xs, some ys => if xs.length + ys.length ≤ sizeLine then .ok (.loc S2.length) (S2 ++ [.lst (xs ++ ys)]) else .bad
  | _, _ => .bad := (rfl)
@[simp] theorem rDct0_eq : rDct0 e S = .ok (.dct [] []) S := (rfl)
@[simp] theorem rAnd_eq (a b : RE) : rAnd a b e S = (a e S).bind fun x S1 => (ofO (truthD S1 x) S1).bind fun k S2 => if k = true then b e S2 else .ok x S2 := (rfl)
@[simp] theorem rOr_eq (a b : RE) : rOr a b e S = (a e S).bind fun x S1 => (ofO (truthD S1 x) S1).bind fun k S2 => if k = true then .ok x S2 else b e S2 := (rfl)
@[simp] theorem rNot_eq (a : RE) : rNot a e S = (a e S).bind fun x S1 => (ofO (truthD S1 x) S1).bind fun k S2 => .ok (.bl (!k)) S2 := (rfl)
@[simp] theorem rIf_eq (t : RT) (a b : RE) : rIf t a b e S = (t e S).bind fun k S1 => if k = true then a e S1 else b e S1 := (rfl)
@[simp] theorem rTest_eq (a : RE) : rTest a e S = (a e S).bind fun x S1 => ofO (asB x) S1 := (rfl)
@[simp] theorem rTruth_eq (a : RE) : rTruth a e S = (a e S).bind fun x S1 => ofO (truthD S1 x) S1 := (rfl)
@[simp] theorem rAndT_eq (a b : RT) : rAndT a b e S = (a e S).bind fun k S1 => if k = true then b e S1 else .ok false S1 := (rfl)
@[simp] theorem rOrT_eq (a b : RT) : rOrT a b e S = (a e S).bind fun k S1 => if k = true then .ok true S1 else b e S1 := (rfl)
@[simp] theorem rNotT_eq (a : RT) : rNotT a e S = (a e S).bind fun k S1 => .ok (!k) S1 := (rfl)
@[simp] theorem rChain_eq (a : RE) (k : RC) : rChain a k e S = (a e S).bind fun x S1 => k x e S1 := (rfl)
@[simp] theorem rLast_eq (f : Store → D → D → Option D) (b : RE) (x : D) : rLast f b x e S = (b e S).bind fun y S1 => ofO (f S1 x y) S1 := (rfl)
@[simp] theorem rLink_eq (f : Store → D → D → Option D) (b : RE) (k : RC) (x : D) : rLink f b k x e S = (b e S).bind fun y S1 => (ofO ((f S1 x y).bind asB) S1).bind fun t S2 => if t = true then k y e S2 else .ok (.bl false) S2 := (rfl)
@[simp] theorem rSl_eq (a : RE) (lo hi : RO) : rSl a lo hi e S = (a e S).bind fun x S1 => (lo e S1).bind fun l S2 => (hi e S2).bind fun h S3 => ofO (slD S3 x l h) S3 := (rfl)
@[simp] theorem rNoP_eq : rNoP e S = .ok none S := (rfl)
@[simp] theorem rPart_eq (a : RE) : rPart a e S = (a e S).bind fun x S1 => (ofO (asI x) S1).bind fun i S2 => .ok (some i) S2 := (rfl)
@[simp] theorem sNil_eq : sNil e S = .nx e S := (rfl)
@[simp] theorem sSeq_eq (a b : RS) : sSeq a b e S = (a e S).andThen b := (rfl)
@[simp] theorem sIf_eq (t : RT) (a b : RS) : sIf t a b e S = (t e S).fl e fun k S1 => if k = true then a e S1 else b e S1 := (rfl)
@[simp] theorem sRet_eq (a : RE) : sRet a e S = (a e S).fl e fun d S1 => .rt d S1 := (rfl)
@[simp] theorem sRetN_eq : sRetN e S = .rt .non S := (rfl)
@[simp] theorem sExp_eq (a : RE) : sExp a e S = (a e S).fl e fun _ S1 => .nx e S1 := (rfl)
@[simp] theorem sSet_eq (i : Nat) (a : RE) : sSet i a e S = (a e S).fl e fun d S1 => .nx (e.set i (some d)) S1 := (rfl)
@[simp] theorem sAsg_eq (t : Tg) (a : RE) : sAsg t a e S = (a e S).fl e fun d S1 => match bindT S1 d e t with | some e' => .nx e' S1 | none => .bad := (rfl)
@[simp] theorem sPar_eq (is : List Nat) (as : RA) : sPar is as e S = (as e S).fl e fun ds S1 => if ds.length = is.length then .nx (setAll is ds e) S1 else .bad := (rfl)
@[simp] theorem sPutIx_eq (a o i : RE) : sPutIx a o i e S = (a e S).fl e fun v S1 => (o e S1).fl e fun x S2 => (i e S2).fl e fun y S3 => match putIx S3 x y v with | some S4 => .nx e S4 | none => .bad := (rfl)
@[simp] theorem sAug_eq (i : Nat) (f : Store → D → D → Option D) (a : RE) : sAug i f a e S = match e[i]? with
  | some (some x) => (a e S).fl e fun y S1 => match f S1 x y with
    | some z => .nx (e.set i (some z)) S1
    | none => .bad
  | _ => .bad := (rfl)
@[simp] theorem sFor_eq (it : RA) (t : Tg) (body : RS) : sFor it t body e S = (it e S).fl e fun ds S1 => forL t body ds e S1 := (rfl)
@[simp] theorem rLive_eq (a : RE) : rLive a e S = (a e S).bind fun d S1 => if okIt S1 d = true then .ok d S1 else .bad := (rfl)
@[simp] theorem sForV_eq (a : RE) (t : Tg) (body : RS) (k : Nat) : sForV a t body k e S = (rLive a e S).fl e fun x S1 => forV t body x k 0 e S1 := (rfl)
@[simp] theorem rIt_eq (a : RE) : rIt a e S = (a e S).bind fun d S1 => ofO (itemsD d) S1 := (rfl)
@[simp] theorem rRan_eq (f : List D → Option (List D)) (as : RA) : rRan f as e S = (as e S).bind fun ds S1 => ofO (f ds) S1 := (rfl)
@[simp] theorem sRaise0_eq (c : Nat) : sRaise0 c e S = .er ⟨c, [], []⟩ e S := (rfl)
@[simp] theorem sTryAs_eq (sub : Nat → Option Bool) (i : Nat) (body suite : RS) : sTryAs sub i body suite e S = match body e S with
  | .er x e1 S1 => catchAs sub i suite x e1 S1
  | f => f := (rfl)
@[simp] theorem sTryOnly_eq (sub : Nat → Option Bool) (body suite : RS) : sTryOnly sub body suite e S = match body e S with
  | .er x e1 S1 => catchOnly sub suite x e1 S1
  | f => f := (rfl)
@[simp] theorem setAll_cons {A : Type} (i : Nat) (is : List Nat) (d : A) (ds : List A) (e : List (Option A)) : setAll (i :: is) (d :: ds) e = setAll is ds (e.set i (some d)) := (rfl)
@[simp] theorem setAll_nil {A : Type} (ds : List A) (e : List (Option A)) : setAll [] ds e = e := by cases ds <;> rfl
@[simp] theorem bindT_nm (d : D) (i : Nat) : bindT S d e (.nm i) = some (e.set i (some d)) := (rfl)
@[simp] theorem bindT_tp (d : D) (is : List Nat) : bindT S d e (.tp is) = (parts S d).bind fun ds => if ds.length = is.length then some (setAll is ds e) else none := (rfl)
@[simp] theorem parts_tup (xs : List D) : parts S (.tup xs) = some xs := (rfl)
@[simp] theorem parts_lst (xs : List D) : parts S (.lst xs) = some xs := (rfl)
@[simp] theorem itemsD_tup (xs : List D) : itemsD (.tup xs) = some xs := (rfl)
@[simp] theorem itemsD_lst (xs : List D) : itemsD (.lst xs) = some xs := (rfl)
@[simp] theorem asB_bl (b : Bool) : asB (.bl b) = some b := (rfl)
@[simp] theorem asI_int (i : Int) : asI (.int i) = some i := (rfl)
@[simp] theorem truthD_bl (b : Bool) : truthD S (.bl b) = some b := (rfl)
@[simp] theorem truthD_int (i : Int) : truthD S (.int i) = some (i != 0) := (rfl)
@[simp] theorem truthD_non : truthD S .non = some false := (rfl)
@[simp] theorem asL_lst (xs : List D) : asL S (.lst xs) = some xs := (rfl)
@[simp] theorem asL_loc (n : Nat) : asL S (.loc n) = match S[n]? with | some (.lst xs) => some xs | _ => none := (rfl)
@[simp] theorem addD_int (i j : Int) : addD S (.int i) (.int j) = some (.int (i + j)) := (rfl)
@[simp] theorem i2_int (c : Int → Int → Bool) (g : Int → Int → D) (i j : Int) : i2 c g S (.int i) (.int j) = if c i j = true then some (g i j) else none := (rfl)
@[simp] theorem subD_int (i j : Int) : subD S (.int i) (.int j) = some (.int (i - j)) := (rfl)
@[simp] theorem mulD_int (i j : Int) : mulD S (.int i) (.int j) = if mulOk i j = true then some (.int (i * j)) else none := (rfl)
@[simp] theorem divD_int (i j : Int) : divD S (.int i) (.int j) = if (decide (0 < j) && decide (j < 18446744073709551616)) = true then some (.int (i / j)) else none := (rfl)
@[simp] theorem modD_int (i j : Int) : modD S (.int i) (.int j) = if decide (0 < j) = true then some (.int (i % j)) else none := (rfl)
@[simp] theorem powD_int (i j : Int) : powD S (.int i) (.int j) = if powOk i j = true then some (.int (i ^ j.toNat)) else none := (rfl)
@[simp] theorem shlD_int (i j : Int) : shlD S (.int i) (.int j) = if powOk i j = true then some (.int (i * 2 ^ j.toNat)) else none := (rfl)
@[simp] theorem shrD_int (i j : Int) : shrD S (.int i) (.int j) = if decide (0 ≤ j) = true then some (.int (i / 2 ^ j.toNat)) else none := (rfl)
@[simp] theorem andD_int (i j : Int) : andD S (.int i) (.int j) = some (.int (Builtin.bitAnd i j)) := (rfl)
@[simp] theorem orD_int (i j : Int) : orD S (.int i) (.int j) = some (.int (Builtin.bitOr i j)) := (rfl)
@[simp] theorem xorD_int (i j : Int) : xorD S (.int i) (.int j) = some (.int (Builtin.bitXor i j)) := (rfl)
@[simp] theorem ltD_int (i j : Int) : ltD S (.int i) (.int j) = some (.bl (decide (i < j))) := (rfl)
@[simp] theorem leD_int (i j : Int) : leD S (.int i) (.int j) = some (.bl (decide (i ≤ j))) := (rfl)
@[simp] theorem gtD_int (i j : Int) : gtD S (.int i) (.int j) = some (.bl (decide (j < i))) := (rfl)
@[simp] theorem geD_int (i j : Int) : geD S (.int i) (.int j) = some (.bl (decide (j ≤ i))) := (rfl)
@[simp] theorem negD_int (i : Int) : negD S (.int i) = some (.int (-i)) := (rfl)
@[simp] theorem absD_int (i : Int) : absD S [.int i] = some (.int (if i < 0 then -i else i)) := (rfl)
@[simp] theorem intD_int (i : Int) : intD S [.int i] = some (.int i) := (rfl)
@[simp] theorem intD_bl (b : Bool) : intD S [.bl b] = some (.int (if b = true then 1 else 0)) := by cases b <;> rfl
@[simp] theorem maxD2_int (i j : Int) : maxD2 S [.int i, .int j] = some (.int (if j > i then j else i)) := (rfl)
@[simp] theorem minD2_int (i j : Int) : minD2 S [.int i, .int j] = some (.int (if j < i then j else i)) := (rfl)
@[simp] theorem listT_lst (xs : List D) : listT S [.lst xs] = some (.lst xs) := (rfl)
@[simp] theorem listT_tup (xs : List D) : listT S [.tup xs] = some (.lst xs) := (rfl)
@[simp] theorem listT_str (x : Str) : listT S [.str x] = if x.length ≤ sizeLine then some (.lst (signsD x)) else none := (rfl)
@[simp] theorem listT_loc (n : Nat) : listT S [.loc n] = (asL S (.loc n)).bind fun xs => some (.lst xs) := (rfl)
@[simp] theorem lenD_lst (xs : List D) : lenD S [.lst xs] = some (.int xs.length) := (rfl)
@[simp] theorem lenD_tup (xs : List D) : lenD S [.tup xs] = some (.int xs.length) := (rfl)
theorem isiD_of {T t : String} {d : D} {b : Bool} (h1 : tyD S d = some t) (h2 : kitB t T = some b) : isiD T S d = some (.bl b) := by
  unfold isiD; rw [h1, Option.bind_some, h2, Option.bind_some]
@[simp] theorem isi_int_non : isiD "int" S .non = some (.bl false) := isiD_of rfl (by decide +kernel)
@[simp] theorem isi_int_bl (b : Bool) : isiD "int" S (.bl b) = some (.bl true) := isiD_of rfl (by decide +kernel)
@[simp] theorem isi_int_int (i : Int) : isiD "int" S (.int i) = some (.bl true) := isiD_of rfl (by decide +kernel)
@[simp] theorem isi_int_str (x : Str) : isiD "int" S (.str x) = some (.bl false) := isiD_of rfl (by decide +kernel)
@[simp] theorem isi_int_tup (xs : List D) : isiD "int" S (.tup xs) = some (.bl false) := isiD_of rfl (by decide +kernel)
@[simp] theorem isi_int_lst (xs : List D) : isiD "int" S (.lst xs) = some (.bl false) := isiD_of rfl (by decide +kernel)
@[simp] theorem isi_int_dct (ks : List Key) (xs : List D) : isiD "int" S (.dct ks xs) = some (.bl false) := isiD_of rfl (by decide +kernel)
@[simp] theorem isi_bool_non : isiD "bool" S .non = some (.bl false) := isiD_of rfl (by decide +kernel)
@[simp] theorem isi_bool_bl (b : Bool) : isiD "bool" S (.bl b) = some (.bl true) := isiD_of rfl (by decide +kernel)
@[simp] theorem isi_bool_int (i : Int) : isiD "bool" S (.int i) = some (.bl false) := isiD_of rfl (by decide +kernel)
@[simp] theorem isi_bool_str (x : Str) : isiD "bool" S (.str x) = some (.bl false) := isiD_of rfl (by decide +kernel)
@[simp] theorem isi_bool_tup (xs : List D) : isiD "bool" S (.tup xs) = some (.bl false) := isiD_of rfl (by decide +kernel)
@[simp] theorem isi_bool_lst (xs : List D) : isiD "bool" S (.lst xs) = some (.bl false) := isiD_of rfl (by decide +kernel)
@[simp] theorem isi_bool_dct (ks : List Key) (xs : List D) : isiD "bool" S (.dct ks xs) = some (.bl false) := isiD_of rfl (by decide +kernel)
@[simp] theorem isi_str_non : isiD "str" S .non = some (.bl false) := isiD_of rfl (by decide +kernel)
@[simp] theorem isi_str_bl (b : Bool) : isiD "str" S (.bl b) = some (.bl false) := isiD_of rfl (by decide +kernel)
@[simp] theorem isi_str_int (i : Int) : isiD "str" S (.int i) = some (.bl false) := isiD_of rfl (by decide +kernel)
@[simp] theorem isi_str_str (x : Str) : isiD "str" S (.str x) = some (.bl true) := isiD_of rfl (by decide +kernel)
@[simp] theorem isi_str_tup (xs : List D) : isiD "str" S (.tup xs) = some (.bl false) := isiD_of rfl (by decide +kernel)
@[simp] theorem isi_str_lst (xs : List D) : isiD "str" S (.lst xs) = some (.bl false) := isiD_of rfl (by decide +kernel)
@[simp] theorem isi_str_dct (ks : List Key) (xs : List D) : isiD "str" S (.dct ks xs) = some (.bl false) := isiD_of rfl (by decide +kernel)
@[simp] theorem isi_tuple_non : isiD "tuple" S .non = some (.bl false) := isiD_of rfl (by decide +kernel)
@[simp] theorem isi_tuple_bl (b : Bool) : isiD "tuple" S (.bl b) = some (.bl false) := isiD_of rfl (by decide +kernel)
@[simp] theorem isi_tuple_int (i : Int) : isiD "tuple" S (.int i) = some (.bl false) := isiD_of rfl (by decide +kernel)
@[simp] theorem isi_tuple_str (x : Str) : isiD "tuple" S (.str x) = some (.bl false) := isiD_of rfl (by decide +kernel)
@[simp] theorem isi_tuple_tup (xs : List D) : isiD "tuple" S (.tup xs) = some (.bl true) := isiD_of rfl (by decide +kernel)
@[simp] theorem isi_tuple_lst (xs : List D) : isiD "tuple" S (.lst xs) = some (.bl false) := isiD_of rfl (by decide +kernel)
@[simp] theorem isi_tuple_dct (ks : List Key) (xs : List D) : isiD "tuple" S (.dct ks xs) = some (.bl false) := isiD_of rfl (by decide +kernel)
@[simp] theorem isi_list_non : isiD "list" S .non = some (.bl false) := isiD_of rfl (by decide +kernel)
@[simp] theorem isi_list_bl (b : Bool) : isiD "list" S (.bl b) = some (.bl false) := isiD_of rfl (by decide +kernel)
@[simp] theorem isi_list_int (i : Int) : isiD "list" S (.int i) = some (.bl false) := isiD_of rfl (by decide +kernel)
@[simp] theorem isi_list_str (x : Str) : isiD "list" S (.str x) = some (.bl false) := isiD_of rfl (by decide +kernel)
@[simp] theorem isi_list_tup (xs : List D) : isiD "list" S (.tup xs) = some (.bl false) := isiD_of rfl (by decide +kernel)
@[simp] theorem isi_list_lst (xs : List D) : isiD "list" S (.lst xs) = some (.bl true) := isiD_of rfl (by decide +kernel)
@[simp] theorem isi_list_dct (ks : List Key) (xs : List D) : isiD "list" S (.dct ks xs) = some (.bl false) := isiD_of rfl (by decide +kernel)
@[simp] theorem isi_dict_non : isiD "dict" S .non = some (.bl false) := isiD_of rfl (by decide +kernel)
@[simp] theorem isi_dict_bl (b : Bool) : isiD "dict" S (.bl b) = some (.bl false) := isiD_of rfl (by decide +kernel)
@[simp] theorem isi_dict_int (i : Int) : isiD "dict" S (.int i) = some (.bl false) := isiD_of rfl (by decide +kernel)
@[simp] theorem isi_dict_str (x : Str) : isiD "dict" S (.str x) = some (.bl false) := isiD_of rfl (by decide +kernel)
@[simp] theorem isi_dict_tup (xs : List D) : isiD "dict" S (.tup xs) = some (.bl false) := isiD_of rfl (by decide +kernel)
@[simp] theorem isi_dict_lst (xs : List D) : isiD "dict" S (.lst xs) = some (.bl false) := isiD_of rfl (by decide +kernel)
@[simp] theorem isi_dict_dct (ks : List Key) (xs : List D) : isiD "dict" S (.dct ks xs) = some (.bl true) := isiD_of rfl (by decide +kernel)
@[simp] theorem eqD_eq (a b : D) : eqD S a b = (eqB S a b).bind fun k => some (.bl k) := (rfl)
@[simp] theorem neD_eq (a b : D) : neD S a b = (eqB S a b).bind fun k => some (.bl (!k)) := (rfl)
@[simp] theorem eqB_ii (i j : Int) : eqB S (.int i) (.int j) = some (i == j) := by simp [eqB, deepN, pyD, PyData.eqv]
@[simp] theorem eqB_ss (i j : Str) : eqB S (.str i) (.str j) = some (i == j) := by simp [eqB, deepN, pyD, PyData.eqv]
@[simp] theorem eqB_tt (xs ys : List D) : eqB S (.tup xs) (.tup ys) = (pyAll (pyD S 59) xs).bind fun p => (pyAll (pyD S 59) ys).bind fun q => some (PyData.eqvAll p q) := by
  unfold eqB deepN
  simp only [pyD]
  cases pyAll (pyD S 59) xs <;> cases pyAll (pyD S 59) ys <;> simp [PyData.eqv]
@[simp] theorem eqB_ll (xs ys : List D) : eqB S (.lst xs) (.lst ys) = (pyAll (pyD S 59) xs).bind fun p => (pyAll (pyD S 59) ys).bind fun q => some (PyData.eqvAll p q) := by
  unfold eqB deepN
  simp only [pyD]
  cases pyAll (pyD S 59) xs <;> cases pyAll (pyD S 59) ys <;> simp [PyData.eqv]
@[simp] theorem pyAll_nil (f : D → Option PyData) : pyAll f [] = some [] := (rfl)
@[simp] theorem pyAll_cons' (f : D → Option PyData) (x : D) (xs : List D) : pyAll f (x :: xs) = (f x).bind fun y => (pyAll f xs).bind fun ys => some (y :: ys) := (rfl)
@[simp] theorem pyD_int (n : Nat) (i : Int) : pyD S n (.int i) = some (.int i) := by cases n <;> rfl
@[simp] theorem pyD_str (n : Nat) (i : Str) : pyD S n (.str i) = some (.str i) := by cases n <;> rfl
@[simp] theorem pyD_bl (n : Nat) (i : Bool) : pyD S n (.bl i) = some (.bool i) := by cases n <;> rfl
@[simp] theorem pyD_non (n : Nat) : pyD S n .non = some .none := by cases n <;> rfl
@[simp] theorem isN_non : isN S .non .non = some (.bl true) := (rfl)
@[simp] theorem isN_exn (c : Nat) (ns : List Str) (xs : List D) : isN S (.exn c ns xs) .non = some (.bl false) := (rfl)
end
theorem forL_inv {t : Tg} {body : RS} (P : Env → Store → Prop) : ∀ (ds : List D) {e : Env} {S : Store}, (∀ d ∈ ds, ∀ e S, P e S → ∃ e1, bindT S d e t = some e1 ∧ ∃ e2 S2, body e1 S = .nx e2 S2 ∧ P e2 S2) → P e S → ∃ e' S', forL t body ds e S = .nx e' S' ∧ P e' S'
  | [], e, S, _, h => ⟨e, S, rfl, h⟩
  | d :: ds, e, S, hs, h => by
    obtain ⟨e1, h1, e2, S2, h2, h3⟩ := hs d List.mem_cons_self e S h
    obtain ⟨e', S', h4, h5⟩ := forL_inv P ds (fun d hd => hs d (List.mem_cons_of_mem _ hd)) h3
    exact ⟨e', S', by simp [forL, h1, h2, h4], h5⟩
theorem forL_try {t : Tg} {body : RS} (P : Env → Store → Prop) (R : D → Store → Prop) : ∀ (ds : List D) {e : Env} {S : Store}, (∀ d ∈ ds, ∀ e S, P e S → ∃ e1, bindT S d e t = some e1 ∧ ((∃ e2 S2, body e1 S = .nx e2 S2 ∧ P e2 S2) ∨ ∃ x S2, body e1 S = .rt x S2 ∧ R x S2)) → P e S →
    (∃ e' S', forL t body ds e S = .nx e' S' ∧ P e' S') ∨ ∃ x S', forL t body ds e S = .rt x S' ∧ R x S'
  | [], e, S, _, h => .inl ⟨e, S, rfl, h⟩
  | d :: ds, e, S, hs, h => by
    obtain ⟨e1, h1, h2⟩ := hs d List.mem_cons_self e S h
    rcases h2 with ⟨e2, S2, h2, h3⟩ | ⟨x, S2, h2, h3⟩
    · rcases forL_try P R ds (fun d hd => hs d (List.mem_cons_of_mem _ hd)) h3 with ⟨e', S', h4, h5⟩ | ⟨x, S', h4, h5⟩
      · exact .inl ⟨e', S', by simp [forL, h1, h2, h4], h5⟩
      · exact .inr ⟨x, S', by simp [forL, h1, h2, h4], h5⟩
    · exact .inr ⟨x, S2, by simp [forL, h1, h2], h3⟩
/-- a loop, by what has been gone through -/
theorem forL_pre {t : Tg} {body : RS} (P : List D → Env → Store → Prop) : ∀ (ds pre : List D) {e : Env} {S : Store}, (∀ p d q, pre ++ ds = p ++ d :: q → ∀ e S, P p e S → ∃ e1, bindT S d e t = some e1 ∧ ∃ e2 S2, body e1 S = .nx e2 S2 ∧ P (p ++ [d]) e2 S2) → P pre e S → ∃ e' S', forL t body ds e S = .nx e' S' ∧ P (pre ++ ds) e' S'
  | [], pre, e, S, _, h => ⟨e, S, rfl, by rw [List.append_nil]; exact h⟩
  | d :: ds, pre, e, S, hs, h => by
    obtain ⟨e1, h1, e2, S2, h2, h3⟩ := hs pre d ds rfl e S h
    obtain ⟨e', S', h4, h5⟩ := forL_pre P ds (pre ++ [d]) (fun p x q eq => hs p x q (by rw [← eq, List.append_assoc]; rfl)) h3
    refine ⟨e', S', by simp [forL, h1, h2, h4], ?_⟩
    rw [List.append_assoc] at h5
    exact h5
/-- a loop that folds -/
theorem forL_fold {A B : Type} {t : Tg} {body : RS} (g : A → D) (f : B → A → B) (P : B → Env → Store → Prop) : ∀ (as : List A) {b : B} {e : Env} {S : Store}, (∀ a ∈ as, ∀ b e S, P b e S → ∃ e1, bindT S (g a) e t = some e1 ∧ ∃ e2 S2, body e1 S = .nx e2 S2 ∧ P (f b a) e2 S2) → P b e S → ∃ e' S', forL t body (as.map g) e S = .nx e' S' ∧ P (as.foldl f b) e' S'
  | [], b, e, S, _, h => ⟨e, S, rfl, h⟩
  | a :: as, b, e, S, hs, h => by
    obtain ⟨e1, h1, e2, S2, h2, h3⟩ := hs a List.mem_cons_self b e S h
    obtain ⟨e', S', h4, h5⟩ := forL_fold g f P as (fun x hx => hs x (List.mem_cons_of_mem _ hx)) h3
    exact ⟨e', S', by simp [forL, h1, h2, h4], h5⟩
/-- a comprehension over a list of the store, which stays -/
theorem lcV_map {A : Type} {t : Tg} {c : RT} {elt : RE} {e0 : Env} {x : D} {S : Store} (h : A → D) (E : A → Env) (p : A → Bool) (f : A → D) (as : List A) (hx : ∀ i, itemAt S x i = some ((as.map h)[i]?)) (hs : ∀ a ∈ as, bindT S (h a) e0 t = some (E a) ∧ c (E a) S = .ok (p a) S ∧ (p a = true → elt (E a) S = .ok (f a) S)) :
    ∀ (k i : Nat), as.length < i + k → i ≤ as.length → lcV t c elt e0 x k i S = .ok (((as.drop i).filter p).map f) S
  | 0, i, h1, h2 => by omega
  | k + 1, i, h1, h2 => by
    unfold lcV
    rw [hx i, List.getElem?_map]
    by_cases hi : i < as.length
    · obtain ⟨b1, b2, b3⟩ := hs as[i] (List.getElem_mem hi)
      have ih := lcV_map h E p f as hx hs k (i + 1) (by omega) (by omega)
      rw [List.getElem?_eq_getElem hi, List.drop_eq_getElem_cons hi, List.filter_cons]
      dsimp only [Option.map_some]
      rw [b1]
      dsimp only
      rw [b2, bind_ok]
      cases hp : p as[i] with
      | true => rw [if_pos rfl, if_pos rfl, b3 hp, bind_ok, ih, bind_ok, List.map_cons]
      | false => rw [if_neg Bool.false_ne_true, if_neg Bool.false_ne_true, ih]
    · rw [List.getElem?_eq_none (by omega), List.drop_of_length_le (by omega)]
      rfl
/-- a loop that comes back at the first item for which c holds -/
theorem forL_search {t : Tg} {body : RS} (P : Env → Prop) (c : D → Bool) (r : D) {S : Store} : ∀ (ds : List D) {e : Env}, (∀ d ∈ ds, ∀ e, P e → ∃ e1, bindT S d e t = some e1 ∧ (c d = true → body e1 S = .rt r S) ∧ (c d = false → ∃ e2, body e1 S = .nx e2 S ∧ P e2)) → P e →
    (ds.any c = true ∧ forL t body ds e S = .rt r S) ∨ (ds.any c = false ∧ ∃ e', forL t body ds e S = .nx e' S ∧ P e')
  | [], e, _, h => .inr ⟨rfl, e, rfl, h⟩
  | d :: ds, e, hs, h => by
    obtain ⟨e1, h1, h2, h3⟩ := hs d List.mem_cons_self e h
    cases hc : c d with
    | true => exact .inl ⟨by simp [hc], by simp [forL, h1, h2 hc]⟩
    | false =>
      obtain ⟨e2, h4, h5⟩ := h3 hc
      rcases forL_search P c r ds (fun d hd => hs d (List.mem_cons_of_mem _ hd)) h5 with ⟨a, b⟩ | ⟨a, e', b, p⟩
      · exact .inl ⟨by simp [hc, a], by simp [forL, h1, h4, b]⟩
      · exact .inr ⟨by simp [hc, a], e', by simp [forL, h1, h4, b], p⟩
theorem forV_inv {t : Tg} {body : RS} {x : D} (P : Env → Store → Prop) (xs : List D) (hP : ∀ e S, P e S → ∀ i, itemAt S x i = some xs[i]?) (hs : ∀ d ∈ xs, ∀ e S, P e S → ∃ e1, bindT S d e t = some e1 ∧ ∃ e2 S2, body e1 S = .nx e2 S2 ∧ P e2 S2) :
    ∀ (k i : Nat) (e : Env) (S : Store), xs.length < i + k → i ≤ xs.length → P e S → ∃ e' S', forV t body x k i e S = .nx e' S' ∧ P e' S'
  | 0, i, e, S, h, h2, _ => by omega
  | k + 1, i, e, S, h, h2, hp => by
    have it := hP e S hp i
    by_cases hi : i < xs.length
    · rw [List.getElem?_eq_getElem hi] at it
      obtain ⟨e1, b1, e2, S2, b2, p2⟩ := hs xs[i] (List.getElem_mem hi) e S hp
      obtain ⟨e', S', h3, p3⟩ := forV_inv P xs hP hs k (i + 1) e2 S2 (by omega) (by omega) p2
      exact ⟨e', S', by simp [forV, it, b1, b2, h3], p3⟩
    · rw [List.getElem?_eq_none (by omega)] at it
      exact ⟨e, S, by simp [forV, it], hp⟩
@[simp] theorem ran1_int (j : Int) : ran1 [.int j] = if -(2 ^ 62) ≤ j ∧ j < 2 ^ 62 then some (rangeD 0 j.toNat) else none := (rfl)
@[simp] theorem ran2_int (i j : Int) : ran2 [.int i, .int j] = if -(2 ^ 62) ≤ i ∧ i < 2 ^ 62 ∧ -(2 ^ 62) ≤ j ∧ j < 2 ^ 62 then some (rangeD i (j - i).toNat) else none := (rfl)
/-- range(max(1, min(len(script), n))) -/
theorem ran_cells (l n : Nat) (h : n ≤ 63) (hn : 1 ≤ n) : ∃ m, m ≤ n ∧ ran1 [.int (if (if (n : Int) < (l : Int) then (n : Int) else (l : Int)) > 1 then (if (n : Int) < (l : Int) then (n : Int) else (l : Int)) else 1)] = some (rangeD 0 m) := by
  refine ⟨(if (if (n : Int) < (l : Int) then (n : Int) else (l : Int)) > 1 then (if (n : Int) < (l : Int) then (n : Int) else (l : Int)) else 1).toNat, ?_, ?_⟩
  · split <;> split <;> omega
  · rw [ran1_int, if_pos]
    split <;> split <;> omega
theorem mem_rangeD {lo : Int} {n : Nat} {d : D} (h : d ∈ rangeD lo n) : ∃ i : Nat, i < n ∧ d = .int (lo + i) := by
  unfold rangeD at h
  obtain ⟨i, h1, h2⟩ := List.mem_map.mp h
  exact ⟨i, List.mem_range.mp h1, h2.symm⟩
theorem atI_mem {A : Type} {xs : List A} {r : Int} (h : 0 ≤ r) (h2 : r < xs.length) : ∃ d, atI xs r = some d ∧ d ∈ xs := by
  have h3 : r.toNat < xs.length := by omega
  exact ⟨xs[r.toNat], by simp [atI, ixN, h, h2, h3], List.getElem_mem h3⟩
end Ev
namespace Lw
open PySem PySem.Spec L2 Ev
def topS (i : Nat) : Stmt := PySem.Challenge.pw_sealedreach_k08_rooms_and_greatest_highs.main.body.getD i (.Pass ⟨0, 0, 0, 0⟩)
abbrev cl_ReachError : Nat := 0
abbrev cl_NoBounds : Nat := 1
abbrev s_is_whole : Stmt := topS 6
theorem sc_is_whole : FnScope ["thing"] ["thing"] (defScope s_is_whole) := ⟨rfl, rfl, rfl, by decide +kernel, rfl, by decide +kernel, by decide +kernel⟩
abbrev s_look_at_bounds : Stmt := topS 7
theorem sc_look_at_bounds : FnScope ["low", "high"] ["low", "high"] (defScope s_look_at_bounds) := ⟨rfl, rfl, rfl, by decide +kernel, rfl, by decide +kernel, by decide +kernel⟩
abbrev s_least_in_bits : Stmt := topS 8
theorem sc_least_in_bits : FnScope ["low", "high", "step", "first"] ["low", "high"] (defScope s_least_in_bits) := ⟨rfl, rfl, rfl, by decide +kernel, rfl, by decide +kernel, by decide +kernel⟩
abbrev s_from_bits : Stmt := topS 9
theorem sc_from_bits : FnScope ["step", "first", "count"] ["step", "first", "count"] (defScope s_from_bits) := ⟨rfl, rfl, rfl, by decide +kernel, rfl, by decide +kernel, by decide +kernel⟩
abbrev s_least_held : Stmt := topS 10
theorem sc_least_held : FnScope ["low", "high", "step", "first", "count"] ["low", "high"] (defScope s_least_held) := ⟨rfl, rfl, rfl, by decide +kernel, rfl, by decide +kernel, by decide +kernel⟩
abbrev s_is_exact : Stmt := topS 11
theorem sc_is_exact : FnScope ["low", "high"] ["low", "high"] (defScope s_is_exact) := ⟨rfl, rfl, rfl, by decide +kernel, rfl, by decide +kernel, by decide +kernel⟩
abbrev s_room_of : Stmt := topS 12
theorem sc_room_of : FnScope ["many", "step"] ["many"] (defScope s_room_of) := ⟨rfl, rfl, rfl, by decide +kernel, rfl, by decide +kernel, by decide +kernel⟩
abbrev s_greatest_high : Stmt := topS 13
theorem sc_greatest_high : FnScope ["low", "high", "found"] ["low", "high"] (defScope s_greatest_high) := ⟨rfl, rfl, rfl, by decide +kernel, rfl, by decide +kernel, by decide +kernel⟩
abbrev s_law_pool : Stmt := topS 15
theorem sc_law_pool : FnScope ["_law_script", "_law_k", "_law_cell", "_law_size", "_law_mixed"] ["_law_script", "_law_k"] (defScope s_law_pool) := ⟨rfl, rfl, rfl, by decide +kernel, rfl, by decide +kernel, by decide +kernel⟩
abbrev s_law_take : Stmt := topS 16
theorem sc_law_take : FnScope ["_law_pool_here", "_law_many", "_law_found"] ["_law_pool_here", "_law_many"] (defScope s_law_take) := ⟨rfl, rfl, rfl, by decide +kernel, rfl, by decide +kernel, by decide +kernel⟩
abbrev s_law_least : Stmt := topS 17
theorem sc_law_least : FnScope ["_law_low", "_law_high_here", "_law_step"] ["_law_low", "_law_high_here"] (defScope s_law_least) := ⟨rfl, rfl, rfl, by decide +kernel, rfl, by decide +kernel, by decide +kernel⟩
abbrev s_law_room : Stmt := topS 18
theorem sc_law_room : FnScope ["_law_many", "_law_step", "_law_size"] ["_law_many"] (defScope s_law_room) := ⟨rfl, rfl, rfl, by decide +kernel, rfl, by decide +kernel, by decide +kernel⟩
abbrev s_law_high : Stmt := topS 19
theorem sc_law_high : FnScope ["_law_low", "_law_high_here"] ["_law_low", "_law_high_here"] (defScope s_law_high) := ⟨rfl, rfl, rfl, by decide +kernel, rfl, by decide +kernel, by decide +kernel⟩
abbrev s_law_room_so : Stmt := topS 20
theorem sc_law_room_so : FnScope ["_law_pool_here", "_law_many", "_law_found", "_law_size", "_law_step", "_law_spots", "_law_low"] ["_law_pool_here", "_law_many"] (defScope s_law_room_so) := ⟨rfl, rfl, rfl, by decide +kernel, rfl, by decide +kernel, by decide +kernel⟩
abbrev s_law : Stmt := topS 21
theorem sc_law : FnScope ["_law_script", "_law_some", "_law_step", "_law_many", "_law_k", "_law_pool_here", "_law_turn", "_law_low", "_law_high_here"] ["_law_script"] (defScope s_law) := ⟨rfl, rfl, rfl, by decide +kernel, rfl, by decide +kernel, by decide +kernel⟩
def m_is_whole : RS := (sRet (rAnd (rUn (isiD "int") (rVar 0)) (rNot (rUn (isiD "bool") (rVar 0)))))
def g_is_whole : List D → Store → Res D := runDef 1 m_is_whole
def m_look_at_bounds : RS := (sIf (rOrT (rNotT (rTruth (rCall g_is_whole (rCons (rVar 0) rNil)))) (rOrT (rNotT (rTruth (rCall g_is_whole (rCons (rVar 1) rNil)))) (rNotT (rTest (rChain (rCon (.int 0)) (rLink leD (rVar 0) (rLink ltD (rVar 1) (rLast leD (rCon (.int 4096))))))))))
    (sRaise0 cl_NoBounds)
    sNil)
def g_look_at_bounds : List D → Store → Res D := runDef 2 m_look_at_bounds
def lb1_least_in_bits : RS := (sAug 2 (i2 (fun _ _ => true) fun i j => .int (i + j)) (rCon (.int 1)))
def m_least_in_bits : RS := (sSeq (sSet 2 (rCon (.int 0)))
    (sSeq (whileN (rTest (rBin gtD (rBin subD (rUn negD (rBin shrD (rUn negD (rVar 1)) (rVar 2))) (rBin shrD (rVar 0) (rVar 2))) (rCon (.int 16))))
    lb1_least_in_bits 20)
    (sSeq (sSet 3 (rBin shrD (rVar 0) (rVar 2)))
    (sRet (rTup (rCons (rVar 2) (rCons (rVar 3) (rCons (rBin subD (rUn negD (rBin shrD (rUn negD (rVar 1)) (rVar 2))) (rVar 3)) rNil))))))))
def g_least_in_bits : List D → Store → Res D := runDef 4 m_least_in_bits
def m_from_bits : RS := (sRet (rTup (rCons (rBin shlD (rVar 1) (rVar 0)) (rCons (rBin shlD (rBin addD (rVar 1) (rVar 2)) (rVar 0)) rNil))))
def g_from_bits : List D → Store → Res D := runDef 3 m_from_bits
def m_least_held : RS := (sSeq (sAsg (.tp [2, 3, 4]) (rCall g_least_in_bits (rCons (rVar 0) (rCons (rVar 1) rNil))))
    (sRet (rCall g_from_bits (rCons (rVar 2) (rCons (rVar 3) (rCons (rVar 4) rNil))))))
def g_least_held : List D → Store → Res D := runDef 5 m_least_held
def m_is_exact : RS := (sSeq (sExp (rCall g_look_at_bounds (rCons (rVar 0) (rCons (rVar 1) rNil))))
    (sRet (rBin eqD (rCall g_least_held (rCons (rVar 0) (rCons (rVar 1) rNil))) (rTup (rCons (rVar 0) (rCons (rVar 1) rNil))))))
def g_is_exact : List D → Store → Res D := runDef 2 m_is_exact
def lb1_room_of : RS := (sAug 1 (i2 (fun _ _ => true) fun i j => .int (i + j)) (rCon (.int 1)))
def m_room_of : RS := (sSeq (sIf (rOrT (rNotT (rTruth (rCall g_is_whole (rCons (rVar 0) rNil)))) (rNotT (rTest (rChain (rCon (.int 1)) (rLink leD (rVar 0) (rLast leD (rCon (.int 4096))))))))
    (sRaise0 cl_NoBounds)
    sNil)
    (sSeq (sSet 1 (rCon (.int 0)))
    (sSeq (whileN (rTest (rBin gtD (rUn negD (rBin shrD (rUn negD (rVar 0)) (rVar 1))) (rCon (.int 16))))
    lb1_room_of 20)
    (sRet (rTup (rCons (rBin shlD (rUn negD (rBin shrD (rUn negD (rVar 0)) (rVar 1))) (rVar 1)) (rCons (rVar 1) rNil)))))))
def g_room_of : List D → Store → Res D := runDef 2 m_room_of
def lb1_greatest_high : RS := (sAug 2 subD (rCon (.int 1)))
def m_greatest_high : RS := (sSeq (sExp (rCall g_look_at_bounds (rCons (rVar 0) (rCons (rVar 1) rNil))))
    (sSeq (sSet 2 (rVar 1))
    (sSeq (whileN (rTest (rBin neD (rCall g_least_held (rCons (rVar 0) (rCons (rVar 2) rNil))) (rTup (rCons (rVar 0) (rCons (rVar 2) rNil)))))
    lb1_greatest_high 5000)
    (sRet (rVar 2)))))
def g_greatest_high : List D → Store → Res D := runDef 3 m_greatest_high
def m_law_pool : RS := (sSeq (sSet 2 (rBin addD (rBin mulD (rCon (.int 7)) (rCal sumD (rCons (rSl (rVar 0) rNoP (rPart (rCon (.int 63)))) rNil))) (rVar 1)))
    (sSeq (sIf (rTest (rBin ltD (rVar 1) (rCal lenD (rCons (rVar 0) rNil))))
    (sSet 2 (rBin ixD (rVar 0) (rVar 1)))
    sNil)
    (sSeq (sSet 3 (rCal absD (rCons (rVar 2) rNil)))
    (sSeq (sSet 4 (rBin modD (rBin mulD (rBin addD (rBin addD (rBin addD (rBin modD (rVar 3) (rCon (.int 2147483629))) (rBin mulD (rBin mulD (rCon (.int 7919)) (rVar 1)) (rVar 1))) (rBin mulD (rCon (.int 31)) (rVar 1))) (rCon (.int 17))) (rCon (.int 48271))) (rCon (.int 2147483647))))
    (sRet (rLstM (rCons (rBin mulD (rVar 3) (rCal intD (rCons (rBin geD (rVar 3) (rBin powD (rCon (.int 10)) (rCon (.int 18)))) rNil))) (rCons (rBin modD (rBin mulD (rVar 4) (rVar 4)) (rCon (.int 2147483629))) rNil))))))))
def g_law_pool : List D → Store → Res D := runDef 5 m_law_pool
def m_law_take : RS := (sSeq (sIf (rTest (rBin gtD (rBin ixD (rVar 0) (rCon (.int 0))) (rCon (.int 0))))
    (sSeq (sSet 2 (rBin modD (rBin ixD (rVar 0) (rCon (.int 0))) (rVar 1)))
    (sSeq (sPutIx (rBin divD (rBin ixD (rVar 0) (rCon (.int 0))) (rVar 1)) (rVar 0) (rCon (.int 0)))
    (sRet (rVar 2))))
    sNil)
    (sSeq (sPutIx (rBin modD (rBin addD (rBin mulD (rBin ixD (rVar 0) (rCon (.int 1))) (rCon (.int 48271))) (rCon (.int 11))) (rCon (.int 2147483647))) (rVar 0) (rCon (.int 1)))
    (sRet (rBin modD (rBin divD (rBin modD (rBin mulD (rBin ixD (rVar 0) (rCon (.int 1))) (rBin ixD (rVar 0) (rCon (.int 1)))) (rCon (.int 2147483629))) (rCon (.int 16))) (rVar 1)))))
def g_law_take : List D → Store → Res D := runDef 3 m_law_take
def lb1_law_least : RS := (sSet 2 (rBin addD (rVar 2) (rCon (.int 1))))
def m_law_least : RS := (sSeq (sSet 2 (rCon (.int 0)))
    (sSeq (whileN (rTest (rBin gtD (rBin subD (rBin shrD (rBin subD (rVar 1) (rCon (.int 1))) (rVar 2)) (rBin shrD (rVar 0) (rVar 2))) (rCon (.int 15))))
    lb1_law_least 20)
    (sRet (rTup (rCons (rBin shlD (rBin shrD (rVar 0) (rVar 2)) (rVar 2)) (rCons (rBin shlD (rBin addD (rBin shrD (rBin subD (rVar 1) (rCon (.int 1))) (rVar 2)) (rCon (.int 1))) (rVar 2)) (rCons (rVar 2) rNil)))))))
def g_law_least : List D → Store → Res D := runDef 3 m_law_least
def lb1_law_room : RS := (sSet 1 (rBin addD (rVar 1) (rCon (.int 1))))
def lb2_law_room : RS := (sSet 2 (rBin addD (rVar 2) (rCon (.int 1))))
def m_law_room : RS := (sSeq (sSet 1 (rCon (.int 0)))
    (sSeq (whileN (rTest (rBin ltD (rBin shlD (rCon (.int 16)) (rVar 1)) (rVar 0)))
    lb1_law_room 300)
    (sSeq (sSet 2 (rVar 0))
    (sSeq (whileN (rTest (rBin neD (rBin shlD (rBin shrD (rVar 2) (rVar 1)) (rVar 1)) (rVar 2)))
    lb2_law_room 300)
    (sRet (rTup (rCons (rVar 2) (rCons (rVar 1) rNil))))))))
def g_law_room : List D → Store → Res D := runDef 3 m_law_room
def lb1_law_high : RS := (sSet 1 (rBin subD (rVar 1) (rCon (.int 1))))
def m_law_high : RS := (sSeq (whileN (rTest (rBin neD (rSl (rCall g_law_least (rCons (rVar 0) (rCons (rVar 1) rNil))) rNoP (rPart (rCon (.int 2)))) (rTup (rCons (rVar 0) (rCons (rVar 1) rNil)))))
    lb1_law_high 5000)
    (sRet (rVar 1)))
def g_law_high : List D → Store → Res D := runDef 2 m_law_high
def m_law_room_so : RS := (sSeq (sSet 2 (rCall g_room_of (rCons (rVar 1) rNil)))
    (sSeq (sIf (rOrT (rTest (rBin neD (rVar 2) (rCall g_law_room (rCons (rVar 1) rNil)))) (rNotT (rTruth (rUn (isiD "tuple") (rVar 2)))))
    (sRet (rCon (.bl false)))
    sNil)
    (sSeq (sAsg (.tp [3, 4]) (rVar 2))
    (sSeq (sSet 5 (rBin addD (rBin shrD (rBin subD (rCon (.int 4096)) (rVar 3)) (rVar 4)) (rCon (.int 1))))
    (sSeq (sSet 6 (rBin shlD (rCall g_law_take (rCons (rVar 0) (rCons (rVar 5) rNil))) (rVar 4)))
    (sRet (rBin isN (rCall g_is_exact (rCons (rVar 6) (rCons (rBin addD (rVar 6) (rVar 3)) rNil))) (rCon (.bl true)))))))))
def g_law_room_so : List D → Store → Res D := runDef 7 m_law_room_so
def lb1_law : RS := (sSet 1 (rBin addD (rVar 1) (rLst (rCons (rBin subD (rBin shlD (rCon (.int 16)) (rVar 2)) (rCon (.int 1))) (rCons (rBin shlD (rCon (.int 16)) (rVar 2)) (rCons (rBin addD (rBin shlD (rCon (.int 16)) (rVar 2)) (rCon (.int 1))) rNil))))))
def lb2_law : RS := (sIf (rAndT (rTest (rBin leD (rVar 3) (rCon (.int 4096)))) (rNotT (rTruth (rCall g_law_room_so (rCons (rLstM (rCons (rCon (.int 0)) (rCons (rVar 3) rNil))) (rCons (rVar 3) rNil))))))
    (sRet (rCon (.bl false)))
    sNil)
def lb3_law : RS := (sSeq (sIf (rNotT (rTruth (rCall g_law_room_so (rCons (rVar 5) (rCons (rBin addD (rCon (.int 1)) (rCall g_law_take (rCons (rVar 5) (rCons (rCon (.int 4096)) rNil)))) rNil)))))
    (sRet (rCon (.bl false)))
    sNil)
    (sSeq (sSet 7 (rBin ixD (rLst (rCons (rCon (.int 0)) (rCons (rCon (.int 32)) (rCons (rCall g_law_take (rCons (rVar 5) (rCons (rCon (.int 4096)) rNil))) (rCons (rBin mulD (rCon (.int 16)) (rCall g_law_take (rCons (rVar 5) (rCons (rCon (.int 256)) rNil)))) rNil))))) (rCall g_law_take (rCons (rVar 5) (rCons (rCon (.int 4)) rNil)))))
    (sSeq (sSet 8 (rCal minD2 (rCons (rCon (.int 4096)) (rCons (rBin addD (rBin addD (rVar 7) (rCon (.int 1))) (rBin ixD (rLst (rCons (rCall g_law_take (rCons (rVar 5) (rCons (rCon (.int 300)) rNil))) (rCons (rCall g_law_take (rCons (rVar 5) (rCons (rCon (.int 4096)) rNil))) rNil))) (rCall g_law_take (rCons (rVar 5) (rCons (rCon (.int 2)) rNil))))) rNil))))
    (sIf (rTest (rBin neD (rCall g_greatest_high (rCons (rVar 7) (rCons (rVar 8) rNil))) (rCall g_law_high (rCons (rVar 7) (rCons (rVar 8) rNil)))))
    (sRet (rCon (.bl false)))
    sNil))))
def lb4_law : RS := (sSeq (sSet 5 (rCall g_law_pool (rCons (rVar 0) (rCons (rVar 4) rNil))))
    (sFor (rRan ran1 (rCons (rCon (.int 3)) rNil)) (.nm 6)
    lb3_law))
def m_law : RS := (sSeq (sSet 1 (rCal (rgD ran2) (rCons (rCon (.int 1)) (rCons (rCon (.int 81)) rNil))))
    (sSeq (sFor (rRan ran1 (rCons (rCon (.int 9)) rNil)) (.nm 2)
    lb1_law)
    (sSeq (sFor (rIt (rVar 1)) (.nm 3)
    lb2_law)
    (sSeq (sIf (rTest (rBin neD (rLst (rCons (rCall g_greatest_high (rCons (rCon (.int 0)) (rCons (rCon (.int 4096)) rNil))) (rCons (rCall g_greatest_high (rCons (rCon (.int 256)) (rCons (rCon (.int 4096)) rNil))) (rCons (rCall g_greatest_high (rCons (rCon (.int 1)) (rCons (rCon (.int 4096)) rNil))) rNil)))) (rLst (rCons (rCon (.int 4096)) (rCons (rCon (.int 4096)) (rCons (rCon (.int 17)) rNil))))))
    (sRet (rCon (.bl false)))
    sNil)
    (sSeq (sFor (rRan ran1 (rCons (rCal maxD2 (rCons (rCon (.int 1)) (rCons (rCal minD2 (rCons (rCal lenD (rCons (rVar 0) rNil)) (rCons (rCon (.int 8)) rNil))) rNil))) rNil)) (.nm 4)
    lb4_law)
    (sRet (rCon (.bl true))))))))
def g_law : List D → Store → Res D := runDef 9 m_law
structure Txt (K : PySem.W.Frag) (mg : Str → Option Value) (C A : Nat → Addr) (fd : Nat → FuncData) : Prop where
  f_is_whole : Fun K "is_whole" "is_whole" s_is_whole (A 0) (fd 0)
  b_is_whole : Binds K (fd 0) ["thing"] []
  g_is_whole : mg "is_whole" = some (.ref (A 0))
  f_look_at_bounds : Fun K "look_at_bounds" "look_at_bounds" s_look_at_bounds (A 1) (fd 1)
  b_look_at_bounds : Binds K (fd 1) ["low", "high"] []
  g_look_at_bounds : mg "look_at_bounds" = some (.ref (A 1))
  f_least_in_bits : Fun K "least_in_bits" "least_in_bits" s_least_in_bits (A 2) (fd 2)
  b_least_in_bits : Binds K (fd 2) ["low", "high"] []
  g_least_in_bits : mg "least_in_bits" = some (.ref (A 2))
  f_from_bits : Fun K "from_bits" "from_bits" s_from_bits (A 3) (fd 3)
  b_from_bits : Binds K (fd 3) ["step", "first", "count"] []
  g_from_bits : mg "from_bits" = some (.ref (A 3))
  f_least_held : Fun K "least_held" "least_held" s_least_held (A 4) (fd 4)
  b_least_held : Binds K (fd 4) ["low", "high"] []
  g_least_held : mg "least_held" = some (.ref (A 4))
  f_is_exact : Fun K "is_exact" "is_exact" s_is_exact (A 5) (fd 5)
  b_is_exact : Binds K (fd 5) ["low", "high"] []
  g_is_exact : mg "is_exact" = some (.ref (A 5))
  f_room_of : Fun K "room_of" "room_of" s_room_of (A 6) (fd 6)
  b_room_of : Binds K (fd 6) ["many"] []
  g_room_of : mg "room_of" = some (.ref (A 6))
  f_greatest_high : Fun K "greatest_high" "greatest_high" s_greatest_high (A 7) (fd 7)
  b_greatest_high : Binds K (fd 7) ["low", "high"] []
  g_greatest_high : mg "greatest_high" = some (.ref (A 7))
  f_law_pool : Fun K "_law_pool" "_law_pool" s_law_pool (A 8) (fd 8)
  b_law_pool : Binds K (fd 8) ["_law_script", "_law_k"] []
  g_law_pool : mg "_law_pool" = some (.ref (A 8))
  f_law_take : Fun K "_law_take" "_law_take" s_law_take (A 9) (fd 9)
  b_law_take : Binds K (fd 9) ["_law_pool_here", "_law_many"] []
  g_law_take : mg "_law_take" = some (.ref (A 9))
  f_law_least : Fun K "_law_least" "_law_least" s_law_least (A 10) (fd 10)
  b_law_least : Binds K (fd 10) ["_law_low", "_law_high_here"] []
  g_law_least : mg "_law_least" = some (.ref (A 10))
  f_law_room : Fun K "_law_room" "_law_room" s_law_room (A 11) (fd 11)
  b_law_room : Binds K (fd 11) ["_law_many"] []
  g_law_room : mg "_law_room" = some (.ref (A 11))
  f_law_high : Fun K "_law_high" "_law_high" s_law_high (A 12) (fd 12)
  b_law_high : Binds K (fd 12) ["_law_low", "_law_high_here"] []
  g_law_high : mg "_law_high" = some (.ref (A 12))
  f_law_room_so : Fun K "_law_room_so" "_law_room_so" s_law_room_so (A 13) (fd 13)
  b_law_room_so : Binds K (fd 13) ["_law_pool_here", "_law_many"] []
  g_law_room_so : mg "_law_room_so" = some (.ref (A 13))
  f_law : Fun K "law" "law" s_law (A 14) (fd 14)
  b_law : Binds K (fd 14) ["_law_script"] []
  g_law : mg "law" = some (.ref (A 14))
  c_CELLS : ∃ t, mg "CELLS" = some (.int 4096 t)
  c_MOST_COUNT : ∃ t, mg "MOST_COUNT" = some (.int 16 t)
  z_abs : mg "abs" = none
  z_bool : mg "bool" = none
  z_int : mg "int" = none
  z_isinstance : mg "isinstance" = none
  z_len : mg "len" = none
  z_list : mg "list" = none
  z_max : mg "max" = none
  z_min : mg "min" = none
  z_range : mg "range" = none
  z_sum : mg "sum" = none
  z_tuple : mg "tuple" = none
  k_ReachError : mg "ReachError" = some (.ref (C 0))
  k_NoBounds : mg "NoBounds" = some (.ref (C 1))
  x_NoBounds : PySem.W.excIn K (C 1) [.type "ValueError", .type "Exception", .type "BaseException", .type "object"] "ValueError.__new__" = true
  p_NoBounds : PySem.W.keepIn K (.ref (C 1)) = true
  u_NoBounds : PySem.W.subIn K (.ref (C 1)) (.type "BaseException") = some true
  y_NoBounds : PySem.W.typeIn K (.ref (C 1)) = some (.type "type")
section
variable {P : Program} {w : World} {K : PySem.W.Frag} {mg : Str → Option Value} {base : Heap} {C A : Nat → Addr} {fd : Nat → FuncData}
theorem ok_is_whole (T : Txt K mg C A fd) : FnOk P w K mg base (L2.CX P w) 1 (A 0) (fd 0) ["thing"] (spOf K C 1 g_is_whole) :=
  fn_ev T.f_is_whole sc_is_whole fun cdv Ar outer s H E hr tk po =>
    (es_one (s_ret (ee_and (ee_isi (ee_var 0) rfl T.z_isinstance rfl T.z_int (by decide +kernel)) (ee_one (ee_not (ee_isi (ee_var 0) rfl T.z_isinstance rfl T.z_bool (by decide +kernel)))))))
theorem ok_look_at_bounds (T : Txt K mg C A fd) : FnOk P w K mg base (L2.CX P w) 2 (A 1) (fd 1) ["low", "high"] (spOf K C 2 g_look_at_bounds) :=
  fn_ev T.f_look_at_bounds sc_look_at_bounds fun cdv Ar outer s H E hr tk po =>
    (es_one (s_if (PW.pt (et_or (et_not (et_val (ee_callC (Cal.ok (ok_is_whole T) (hr.mono (by decide))) rfl T.g_is_whole T.f_is_whole.kp T.b_is_whole tk (ea_cons (ee_var 0) ea_nil) (al_cons al_nil)))) (et_or (et_not (et_val (ee_callC (Cal.ok (ok_is_whole T) (hr.mono (by decide))) rfl T.g_is_whole T.f_is_whole.kp T.b_is_whole tk (ea_cons (ee_var 1) ea_nil) (al_cons al_nil)))) (et_or1 (et_not (et_chain ee_int (ch_link leD_ok (ee_var 0) (ch_link ltD_ok (ee_var 1) (ch_last leD_ok (ee_gI T.c_CELLS))))))))))
    (es_one (s_raise0 cl_NoBounds rfl tk PySem.F.excBase_ValueError T.x_NoBounds T.k_NoBounds T.p_NoBounds (raises_own T.u_NoBounds T.y_NoBounds) rfl))
    es_nil))
theorem ok_least_in_bits (T : Txt K mg C A fd) : FnOk P w K mg base (L2.CX P w) 1 (A 2) (fd 2) ["low", "high"] (spOf K C 2 g_least_in_bits) :=
  fn_ev T.f_least_in_bits sc_least_in_bits fun cdv Ar outer s H E hr tk po =>
    (es_cons (s_set 2 sc_least_in_bits.nd ee_int)
    (es_cons (s_while 20 po (et_cmp gtD_ok (ee_op subD_ok (ee_un negD_ok (ee_op shrD_ok (ee_un negD_ok (ee_var 1)) (ee_var 2))) (ee_op shrD_ok (ee_var 0) (ee_var 2))) (ee_gI T.c_MOST_COUNT) (nomark _))
    (es_one (s_aug 2 sc_least_in_bits.nd iaddD_ok ee_int)))
    (es_cons (s_set 3 sc_least_in_bits.nd (ee_op shrD_ok (ee_var 0) (ee_var 2)))
    (es_one (s_ret (ee_tup (ea_cons (ee_var 2) (ea_cons (ee_var 3) (ea_cons (ee_op subD_ok (ee_un negD_ok (ee_op shrD_ok (ee_un negD_ok (ee_var 1)) (ee_var 2))) (ee_var 3)) ea_nil))) (al_cons (al_cons (al_cons al_nil)))))))))
theorem ok_from_bits (T : Txt K mg C A fd) : FnOk P w K mg base (L2.CX P w) 1 (A 3) (fd 3) ["step", "first", "count"] (spOf K C 3 g_from_bits) :=
  fn_ev T.f_from_bits sc_from_bits fun cdv Ar outer s H E hr tk po =>
    (es_one (s_ret (ee_tup (ea_cons (ee_op shlD_ok (ee_var 1) (ee_var 0)) (ea_cons (ee_op shlD_ok (ee_op addD_ok (ee_var 1) (ee_var 2)) (ee_var 0)) ea_nil)) (al_cons (al_cons al_nil)))))
theorem ok_least_held (T : Txt K mg C A fd) : FnOk P w K mg base (L2.CX P w) 2 (A 4) (fd 4) ["low", "high"] (spOf K C 2 g_least_held) :=
  fn_ev T.f_least_held sc_least_held fun cdv Ar outer s H E hr tk po =>
    (es_cons (s_asg (ee_callC (Cal.ok (ok_least_in_bits T) (hr.mono (by decide))) rfl T.g_least_in_bits T.f_least_in_bits.kp T.b_least_in_bits tk (ea_cons (ee_var 0) (ea_cons (ee_var 1) ea_nil)) (al_cons (al_cons al_nil))) (g_tp rfl (gs_cons 2 sc_least_held.nd (gs_cons 3 sc_least_held.nd (gs_cons 4 sc_least_held.nd gs_nil)))))
    (es_one (s_ret (ee_callC (Cal.ok (ok_from_bits T) (hr.mono (by decide))) rfl T.g_from_bits T.f_from_bits.kp T.b_from_bits tk (ea_cons (ee_var 2) (ea_cons (ee_var 3) (ea_cons (ee_var 4) ea_nil))) (al_cons (al_cons (al_cons al_nil)))))))
theorem ok_is_exact (T : Txt K mg C A fd) : FnOk P w K mg base (L2.CX P w) 3 (A 5) (fd 5) ["low", "high"] (spOf K C 2 g_is_exact) :=
  fn_ev T.f_is_exact sc_is_exact fun cdv Ar outer s H E hr tk po =>
    (es_cons (s_exp (ee_callC (Cal.ok (ok_look_at_bounds T) (hr.mono (by decide))) rfl T.g_look_at_bounds T.f_look_at_bounds.kp T.b_look_at_bounds tk (ea_cons (ee_var 0) (ea_cons (ee_var 1) ea_nil)) (al_cons (al_cons al_nil))))
    (es_one (s_ret (ee_cmp (eqD_ok hr.units) (ee_callC (Cal.ok (ok_least_held T) (hr.mono (by decide))) rfl T.g_least_held T.f_least_held.kp T.b_least_held tk (ea_cons (ee_var 0) (ea_cons (ee_var 1) ea_nil)) (al_cons (al_cons al_nil))) (ee_tup (ea_cons (ee_var 0) (ea_cons (ee_var 1) ea_nil)) (al_cons (al_cons al_nil))) (nomark _)))))
theorem ok_room_of (T : Txt K mg C A fd) : FnOk P w K mg base (L2.CX P w) 2 (A 6) (fd 6) ["many"] (spOf K C 1 g_room_of) :=
  fn_ev T.f_room_of sc_room_of fun cdv Ar outer s H E hr tk po =>
    (es_cons (s_if (PW.pt (et_or (et_not (et_val (ee_callC (Cal.ok (ok_is_whole T) (hr.mono (by decide))) rfl T.g_is_whole T.f_is_whole.kp T.b_is_whole tk (ea_cons (ee_var 0) ea_nil) (al_cons al_nil)))) (et_or1 (et_not (et_chain ee_int (ch_link leD_ok (ee_var 0) (ch_last leD_ok (ee_gI T.c_CELLS))))))))
    (es_one (s_raise0 cl_NoBounds rfl tk PySem.F.excBase_ValueError T.x_NoBounds T.k_NoBounds T.p_NoBounds (raises_own T.u_NoBounds T.y_NoBounds) rfl))
    es_nil)
    (es_cons (s_set 1 sc_room_of.nd ee_int)
    (es_cons (s_while 20 po (et_cmp gtD_ok (ee_un negD_ok (ee_op shrD_ok (ee_un negD_ok (ee_var 0)) (ee_var 1))) (ee_gI T.c_MOST_COUNT) (nomark _))
    (es_one (s_aug 1 sc_room_of.nd iaddD_ok ee_int)))
    (es_one (s_ret (ee_tup (ea_cons (ee_op shlD_ok (ee_un negD_ok (ee_op shrD_ok (ee_un negD_ok (ee_var 0)) (ee_var 1))) (ee_var 1)) (ea_cons (ee_var 1) ea_nil)) (al_cons (al_cons al_nil))))))))
theorem ok_greatest_high (T : Txt K mg C A fd) : FnOk P w K mg base (L2.CX P w) 3 (A 7) (fd 7) ["low", "high"] (spOf K C 2 g_greatest_high) :=
  fn_ev T.f_greatest_high sc_greatest_high fun cdv Ar outer s H E hr tk po =>
    (es_cons (s_exp (ee_callC (Cal.ok (ok_look_at_bounds T) (hr.mono (by decide))) rfl T.g_look_at_bounds T.f_look_at_bounds.kp T.b_look_at_bounds tk (ea_cons (ee_var 0) (ea_cons (ee_var 1) ea_nil)) (al_cons (al_cons al_nil))))
    (es_cons (s_set 2 sc_greatest_high.nd (ee_var 1))
    (es_cons (s_while 5000 po (et_cmp (neD_ok hr.units) (ee_callC (Cal.ok (ok_least_held T) (hr.mono (by decide))) rfl T.g_least_held T.f_least_held.kp T.b_least_held tk (ea_cons (ee_var 0) (ea_cons (ee_var 2) ea_nil)) (al_cons (al_cons al_nil))) (ee_tup (ea_cons (ee_var 0) (ea_cons (ee_var 2) ea_nil)) (al_cons (al_cons al_nil))) (nomark _))
    (es_one (s_aug 2 sc_greatest_high.nd isubD_ok ee_int)))
    (es_one (s_ret (ee_var 2))))))
theorem ok_law_pool (T : Txt K mg C A fd) : FnOk P w K mg base (L2.CX P w) 1 (A 8) (fd 8) ["_law_script", "_law_k"] (spOf K C 2 g_law_pool) :=
  fn_ev T.f_law_pool sc_law_pool fun cdv Ar outer s H E hr tk po =>
    (es_cons (s_set 2 sc_law_pool.nd (ee_op addD_ok (ee_op mulD_ok ee_int (ee_callB (sumD_ok rfl) rfl T.z_sum (by decide +kernel) (ea_cons (ee_sl (ee_var 0) eo_none (eo_some ee_int)) ea_nil))) (ee_var 1)))
    (es_cons (s_if (et_cmp ltD_ok (ee_var 1) (ee_callB lenD_ok rfl T.z_len (by decide +kernel) (ea_cons (ee_var 0) ea_nil)) (nomark _))
    (es_one (s_set 2 sc_law_pool.nd (ee_ix (ee_var 0) (ee_var 1))))
    es_nil)
    (es_cons (s_set 3 sc_law_pool.nd (ee_callB absD_ok rfl T.z_abs (by decide +kernel) (ea_cons (ee_var 2) ea_nil)))
    (es_cons (s_set 4 sc_law_pool.nd (ee_op modD_ok (ee_op mulD_ok (ee_op addD_ok (ee_op addD_ok (ee_op addD_ok (ee_op modD_ok (ee_var 3) ee_int) (ee_op mulD_ok (ee_op mulD_ok ee_int (ee_var 1)) (ee_var 1))) (ee_op mulD_ok ee_int (ee_var 1))) ee_int) ee_int) ee_int))
    (es_one (s_ret (ee_lstM (ea_cons (ee_op mulD_ok (ee_var 3) (ee_callTy intD_ok rfl T.z_int (by decide +kernel) (ea_cons (ee_cmp geD_ok (ee_var 3) (ee_op powD_ok ee_int ee_int) (nomark _)) ea_nil))) (ea_cons (ee_op modD_ok (ee_op mulD_ok (ee_var 4) (ee_var 4)) ee_int) ea_nil)) (al_cons (al_cons al_nil)))))))))
theorem ok_law_take (T : Txt K mg C A fd) : FnOk P w K mg base (L2.CX P w) 1 (A 9) (fd 9) ["_law_pool_here", "_law_many"] (spOf K C 2 g_law_take) :=
  fn_ev T.f_law_take sc_law_take fun cdv Ar outer s H E hr tk po =>
    (es_cons (s_if (et_cmp gtD_ok (ee_ix (ee_var 0) ee_int) ee_int (nomark _))
    (es_cons (s_set 2 sc_law_take.nd (ee_op modD_ok (ee_ix (ee_var 0) ee_int) (ee_var 1)))
    (es_cons (s_putIx (ee_op divD_ok (ee_ix (ee_var 0) ee_int) (ee_var 1)) (ee_var 0) ee_int)
    (es_one (s_ret (ee_var 2)))))
    es_nil)
    (es_cons (s_putIx (ee_op modD_ok (ee_op addD_ok (ee_op mulD_ok (ee_ix (ee_var 0) ee_int) ee_int) ee_int) ee_int) (ee_var 0) ee_int)
    (es_one (s_ret (ee_op modD_ok (ee_op divD_ok (ee_op modD_ok (ee_op mulD_ok (ee_ix (ee_var 0) ee_int) (ee_ix (ee_var 0) ee_int)) ee_int) ee_int) (ee_var 1))))))
theorem ok_law_least (T : Txt K mg C A fd) : FnOk P w K mg base (L2.CX P w) 1 (A 10) (fd 10) ["_law_low", "_law_high_here"] (spOf K C 2 g_law_least) :=
  fn_ev T.f_law_least sc_law_least fun cdv Ar outer s H E hr tk po =>
    (es_cons (s_set 2 sc_law_least.nd ee_int)
    (es_cons (s_while 20 po (et_cmp gtD_ok (ee_op subD_ok (ee_op shrD_ok (ee_op subD_ok (ee_var 1) ee_int) (ee_var 2)) (ee_op shrD_ok (ee_var 0) (ee_var 2))) ee_int (nomark _))
    (es_one (s_set 2 sc_law_least.nd (ee_op addD_ok (ee_var 2) ee_int))))
    (es_one (s_ret (ee_tup (ea_cons (ee_op shlD_ok (ee_op shrD_ok (ee_var 0) (ee_var 2)) (ee_var 2)) (ea_cons (ee_op shlD_ok (ee_op addD_ok (ee_op shrD_ok (ee_op subD_ok (ee_var 1) ee_int) (ee_var 2)) ee_int) (ee_var 2)) (ea_cons (ee_var 2) ea_nil))) (al_cons (al_cons (al_cons al_nil))))))))
theorem ok_law_room (T : Txt K mg C A fd) : FnOk P w K mg base (L2.CX P w) 1 (A 11) (fd 11) ["_law_many"] (spOf K C 1 g_law_room) :=
  fn_ev T.f_law_room sc_law_room fun cdv Ar outer s H E hr tk po =>
    (es_cons (s_set 1 sc_law_room.nd ee_int)
    (es_cons (s_while 300 po (et_cmp ltD_ok (ee_op shlD_ok ee_int (ee_var 1)) (ee_var 0) (nomark _))
    (es_one (s_set 1 sc_law_room.nd (ee_op addD_ok (ee_var 1) ee_int))))
    (es_cons (s_set 2 sc_law_room.nd (ee_var 0))
    (es_cons (s_while 300 po (et_cmp (neD_ok hr.units) (ee_op shlD_ok (ee_op shrD_ok (ee_var 2) (ee_var 1)) (ee_var 1)) (ee_var 2) (nomark _))
    (es_one (s_set 2 sc_law_room.nd (ee_op addD_ok (ee_var 2) ee_int))))
    (es_one (s_ret (ee_tup (ea_cons (ee_var 2) (ea_cons (ee_var 1) ea_nil)) (al_cons (al_cons al_nil)))))))))
theorem ok_law_high (T : Txt K mg C A fd) : FnOk P w K mg base (L2.CX P w) 2 (A 12) (fd 12) ["_law_low", "_law_high_here"] (spOf K C 2 g_law_high) :=
  fn_ev T.f_law_high sc_law_high fun cdv Ar outer s H E hr tk po =>
    (es_cons (s_while 5000 po (et_cmp (neD_ok hr.units) (ee_sl (ee_callC (Cal.ok (ok_law_least T) (hr.mono (by decide))) rfl T.g_law_least T.f_law_least.kp T.b_law_least tk (ea_cons (ee_var 0) (ea_cons (ee_var 1) ea_nil)) (al_cons (al_cons al_nil))) eo_none (eo_some ee_int)) (ee_tup (ea_cons (ee_var 0) (ea_cons (ee_var 1) ea_nil)) (al_cons (al_cons al_nil))) (nomark _))
    (es_one (s_set 1 sc_law_high.nd (ee_op subD_ok (ee_var 1) ee_int))))
    (es_one (s_ret (ee_var 1))))
theorem ok_law_room_so (T : Txt K mg C A fd) : FnOk P w K mg base (L2.CX P w) 4 (A 13) (fd 13) ["_law_pool_here", "_law_many"] (spOf K C 2 g_law_room_so) :=
  fn_ev T.f_law_room_so sc_law_room_so fun cdv Ar outer s H E hr tk po =>
    (es_cons (s_set 2 sc_law_room_so.nd (ee_callC (Cal.ok (ok_room_of T) (hr.mono (by decide))) rfl T.g_room_of T.f_room_of.kp T.b_room_of tk (ea_cons (ee_var 1) ea_nil) (al_cons al_nil)))
    (es_cons (s_if (PW.pt (et_or (et_cmp (neD_ok hr.units) (ee_var 2) (ee_callC (Cal.ok (ok_law_room T) (hr.mono (by decide))) rfl T.g_law_room T.f_law_room.kp T.b_law_room tk (ea_cons (ee_var 1) ea_nil) (al_cons al_nil)) (nomark _)) (et_or1 (et_not (et_val (ee_isi (ee_var 2) rfl T.z_isinstance rfl T.z_tuple (by decide +kernel)))))))
    (es_one (s_ret ee_bl))
    es_nil)
    (es_cons (s_asg (ee_var 2) (g_tp rfl (gs_cons 3 sc_law_room_so.nd (gs_cons 4 sc_law_room_so.nd gs_nil))))
    (es_cons (s_set 5 sc_law_room_so.nd (ee_op addD_ok (ee_op shrD_ok (ee_op subD_ok ee_int (ee_var 3)) (ee_var 4)) ee_int))
    (es_cons (s_set 6 sc_law_room_so.nd (ee_op shlD_ok (ee_callC (Cal.ok (ok_law_take T) (hr.mono (by decide))) rfl T.g_law_take T.f_law_take.kp T.b_law_take tk (ea_cons (ee_var 0) (ea_cons (ee_var 5) ea_nil)) (al_cons (al_cons al_nil))) (ee_var 4)))
    (es_one (s_ret (ee_cmp isN_ok (ee_callC (Cal.ok (ok_is_exact T) (hr.mono (by decide))) rfl T.g_is_exact T.f_is_exact.kp T.b_is_exact tk (ea_cons (ee_var 6) (ea_cons (ee_op addD_ok (ee_var 6) (ee_var 3)) ea_nil)) (al_cons (al_cons al_nil))) ee_bl (nomark _)))))))))
theorem ok_law (T : Txt K mg C A fd) : FnOk P w K mg base (L2.CX P w) 5 (A 14) (fd 14) ["_law_script"] (spOf K C 1 g_law) :=
  fn_ev T.f_law sc_law fun cdv Ar outer s H E hr tk po =>
    (es_cons (s_set 1 sc_law.nd (ee_listRg2 rfl rfl T.z_list rfl T.z_range ee_int ee_int))
    (es_cons (s_for po rfl (ei_range1 rfl T.z_range (ea_cons ee_int ea_nil)) (g_nm 2 sc_law.nd)
    (es_one (s_set 1 sc_law.nd (ee_op addD_ok (ee_var 1) (ee_lst (ea_cons (ee_op subD_ok (ee_op shlD_ok ee_int (ee_var 2)) ee_int) (ea_cons (ee_op shlD_ok ee_int (ee_var 2)) (ea_cons (ee_op addD_ok (ee_op shlD_ok ee_int (ee_var 2)) ee_int) ea_nil))) (al_cons (al_cons (al_cons al_nil))))))))
    (es_cons (s_for po rfl (ei_seq (ee_var 1)) (g_nm 3 sc_law.nd)
    (es_one (s_if (PW.pt (et_and (et_cmp leD_ok (ee_var 3) ee_int (nomark _)) (et_and1 (et_not (et_val (ee_callC (Cal.ok (ok_law_room_so T) (hr.mono (by decide))) rfl T.g_law_room_so T.f_law_room_so.kp T.b_law_room_so tk (ea_cons (ee_lstM (ea_cons ee_int (ea_cons (ee_var 3) ea_nil)) (al_cons (al_cons al_nil))) (ea_cons (ee_var 3) ea_nil)) (al_cons (al_cons al_nil))))))))
    (es_one (s_ret ee_bl))
    es_nil)))
    (es_cons (s_if (et_cmp (neD_ok hr.units) (ee_lst (ea_cons (ee_callC (Cal.ok (ok_greatest_high T) (hr.mono (by decide))) rfl T.g_greatest_high T.f_greatest_high.kp T.b_greatest_high tk (ea_cons ee_int (ea_cons ee_int ea_nil)) (al_cons (al_cons al_nil))) (ea_cons (ee_callC (Cal.ok (ok_greatest_high T) (hr.mono (by decide))) rfl T.g_greatest_high T.f_greatest_high.kp T.b_greatest_high tk (ea_cons ee_int (ea_cons ee_int ea_nil)) (al_cons (al_cons al_nil))) (ea_cons (ee_callC (Cal.ok (ok_greatest_high T) (hr.mono (by decide))) rfl T.g_greatest_high T.f_greatest_high.kp T.b_greatest_high tk (ea_cons ee_int (ea_cons ee_int ea_nil)) (al_cons (al_cons al_nil))) ea_nil))) (al_cons (al_cons (al_cons al_nil)))) (ee_lst (ea_cons ee_int (ea_cons ee_int (ea_cons ee_int ea_nil))) (al_cons (al_cons (al_cons al_nil)))) (nomark _))
    (es_one (s_ret ee_bl))
    es_nil)
    (es_cons (s_for po rfl (ei_range1 rfl T.z_range (ea_cons (ee_callB (maxD2_ok rfl) rfl T.z_max (by decide +kernel) (ea_cons ee_int (ea_cons (ee_callB (minD2_ok rfl) rfl T.z_min (by decide +kernel) (ea_cons (ee_callB lenD_ok rfl T.z_len (by decide +kernel) (ea_cons (ee_var 0) ea_nil)) (ea_cons ee_int ea_nil))) ea_nil))) ea_nil)) (g_nm 4 sc_law.nd)
    (es_cons (s_set 5 sc_law.nd (ee_callC (Cal.ok (ok_law_pool T) (hr.mono (by decide))) rfl T.g_law_pool T.f_law_pool.kp T.b_law_pool tk (ea_cons (ee_var 0) (ea_cons (ee_var 4) ea_nil)) (al_cons (al_cons al_nil))))
    (es_one (s_for po rfl (ei_range1 rfl T.z_range (ea_cons ee_int ea_nil)) (g_nm 6 sc_law.nd)
    (es_cons (s_if (et_not (et_val (ee_callC (Cal.ok (ok_law_room_so T) (hr.mono (by decide))) rfl T.g_law_room_so T.f_law_room_so.kp T.b_law_room_so tk (ea_cons (ee_var 5) (ea_cons (ee_op addD_ok ee_int (ee_callC (Cal.ok (ok_law_take T) (hr.mono (by decide))) rfl T.g_law_take T.f_law_take.kp T.b_law_take tk (ea_cons (ee_var 5) (ea_cons ee_int ea_nil)) (al_cons (al_cons al_nil)))) ea_nil)) (al_cons (al_cons al_nil)))))
    (es_one (s_ret ee_bl))
    es_nil)
    (es_cons (s_set 7 sc_law.nd (ee_ix (ee_lst (ea_cons ee_int (ea_cons ee_int (ea_cons (ee_callC (Cal.ok (ok_law_take T) (hr.mono (by decide))) rfl T.g_law_take T.f_law_take.kp T.b_law_take tk (ea_cons (ee_var 5) (ea_cons ee_int ea_nil)) (al_cons (al_cons al_nil))) (ea_cons (ee_op mulD_ok ee_int (ee_callC (Cal.ok (ok_law_take T) (hr.mono (by decide))) rfl T.g_law_take T.f_law_take.kp T.b_law_take tk (ea_cons (ee_var 5) (ea_cons ee_int ea_nil)) (al_cons (al_cons al_nil)))) ea_nil)))) (al_cons (al_cons (al_cons (al_cons al_nil))))) (ee_callC (Cal.ok (ok_law_take T) (hr.mono (by decide))) rfl T.g_law_take T.f_law_take.kp T.b_law_take tk (ea_cons (ee_var 5) (ea_cons ee_int ea_nil)) (al_cons (al_cons al_nil)))))
    (es_cons (s_set 8 sc_law.nd (ee_callB (minD2_ok rfl) rfl T.z_min (by decide +kernel) (ea_cons ee_int (ea_cons (ee_op addD_ok (ee_op addD_ok (ee_var 7) ee_int) (ee_ix (ee_lst (ea_cons (ee_callC (Cal.ok (ok_law_take T) (hr.mono (by decide))) rfl T.g_law_take T.f_law_take.kp T.b_law_take tk (ea_cons (ee_var 5) (ea_cons ee_int ea_nil)) (al_cons (al_cons al_nil))) (ea_cons (ee_callC (Cal.ok (ok_law_take T) (hr.mono (by decide))) rfl T.g_law_take T.f_law_take.kp T.b_law_take tk (ea_cons (ee_var 5) (ea_cons ee_int ea_nil)) (al_cons (al_cons al_nil))) ea_nil)) (al_cons (al_cons al_nil))) (ee_callC (Cal.ok (ok_law_take T) (hr.mono (by decide))) rfl T.g_law_take T.f_law_take.kp T.b_law_take tk (ea_cons (ee_var 5) (ea_cons ee_int ea_nil)) (al_cons (al_cons al_nil))))) ea_nil))))
    (es_one (s_if (et_cmp (neD_ok hr.units) (ee_callC (Cal.ok (ok_greatest_high T) (hr.mono (by decide))) rfl T.g_greatest_high T.f_greatest_high.kp T.b_greatest_high tk (ea_cons (ee_var 7) (ea_cons (ee_var 8) ea_nil)) (al_cons (al_cons al_nil))) (ee_callC (Cal.ok (ok_law_high T) (hr.mono (by decide))) rfl T.g_law_high T.f_law_high.kp T.b_law_high tk (ea_cons (ee_var 7) (ea_cons (ee_var 8) ea_nil)) (al_cons (al_cons al_nil))) (nomark _))
    (es_one (s_ret ee_bl))
    es_nil)))))))))
    (es_one (s_ret ee_bl)))))))
end
theorem all_mk {l : PySem.W.OpenLaw} {w : World} {K : PySem.W.Frag} {h : Heap} {mg : Str → Option Value} {fa f0 f1 f2 f3 f4 f5 f6 f7 f8 f9 f10 f11 f12 f13 f14 c0 c1 : Addr} (X : K.In h) (G : h.Ns mainGlobals mg) (hfa : mg "law" = some (.ref fa))
    {od0 an0 : Option Addr} {sl0 : Array (Option Value)} {oc0 kV0 dc0 pm0 cd0 ct0 : Value}
    {od1 an1 : Option Addr} {sl1 : Array (Option Value)} {oc1 kV1 dc1 pm1 cd1 ct1 : Value}
    {od2 an2 : Option Addr} {sl2 : Array (Option Value)} {oc2 kV2 dc2 pm2 cd2 ct2 : Value}
    {od3 an3 : Option Addr} {sl3 : Array (Option Value)} {oc3 kV3 dc3 pm3 cd3 ct3 : Value}
    {od4 an4 : Option Addr} {sl4 : Array (Option Value)} {oc4 kV4 dc4 pm4 cd4 ct4 : Value}
    {od5 an5 : Option Addr} {sl5 : Array (Option Value)} {oc5 kV5 dc5 pm5 cd5 ct5 : Value}
    {od6 an6 : Option Addr} {sl6 : Array (Option Value)} {oc6 kV6 dc6 pm6 cd6 ct6 : Value}
    {od7 an7 : Option Addr} {sl7 : Array (Option Value)} {oc7 kV7 dc7 pm7 cd7 ct7 : Value}
    {od8 an8 : Option Addr} {sl8 : Array (Option Value)} {oc8 kV8 dc8 pm8 cd8 ct8 : Value}
    {od9 an9 : Option Addr} {sl9 : Array (Option Value)} {oc9 kV9 dc9 pm9 cd9 ct9 : Value}
    {od10 an10 : Option Addr} {sl10 : Array (Option Value)} {oc10 kV10 dc10 pm10 cd10 ct10 : Value}
    {od11 an11 : Option Addr} {sl11 : Array (Option Value)} {oc11 kV11 dc11 pm11 cd11 ct11 : Value}
    {od12 an12 : Option Addr} {sl12 : Array (Option Value)} {oc12 kV12 dc12 pm12 cd12 ct12 : Value}
    {od13 an13 : Option Addr} {sl13 : Array (Option Value)} {oc13 kV13 dc13 pm13 cd13 ct13 : Value}
    {od14 an14 : Option Addr} {sl14 : Array (Option Value)} {oc14 kV14 dc14 pm14 cd14 ct14 : Value}
    {t_CELLS : Tok}
    {t_MOST_COUNT : Tok}
    (a0 : PySem.W.nsIn K mainGlobals "is_whole" = some (some (.ref f0)))
    (l0 : K.lookup f0 = some ⟨oc0, od0, .func (PySem.W.fnOf "is_whole" "is_whole" (defArgs s_is_whole) (defBody s_is_whole) (defScope s_is_whole) .none kV0 dc0 pm0 an0 cd0 ct0), sl0⟩)
    (o0 : PySem.W.codeIn K cd0 "is_whole" = true)
    (p0 : PySem.W.keepIn K (.ref f0) = true)
    (a1 : PySem.W.nsIn K mainGlobals "look_at_bounds" = some (some (.ref f1)))
    (l1 : K.lookup f1 = some ⟨oc1, od1, .func (PySem.W.fnOf "look_at_bounds" "look_at_bounds" (defArgs s_look_at_bounds) (defBody s_look_at_bounds) (defScope s_look_at_bounds) .none kV1 dc1 pm1 an1 cd1 ct1), sl1⟩)
    (o1 : PySem.W.codeIn K cd1 "look_at_bounds" = true)
    (p1 : PySem.W.keepIn K (.ref f1) = true)
    (a2 : PySem.W.nsIn K mainGlobals "least_in_bits" = some (some (.ref f2)))
    (l2 : K.lookup f2 = some ⟨oc2, od2, .func (PySem.W.fnOf "least_in_bits" "least_in_bits" (defArgs s_least_in_bits) (defBody s_least_in_bits) (defScope s_least_in_bits) .none kV2 dc2 pm2 an2 cd2 ct2), sl2⟩)
    (o2 : PySem.W.codeIn K cd2 "least_in_bits" = true)
    (p2 : PySem.W.keepIn K (.ref f2) = true)
    (a3 : PySem.W.nsIn K mainGlobals "from_bits" = some (some (.ref f3)))
    (l3 : K.lookup f3 = some ⟨oc3, od3, .func (PySem.W.fnOf "from_bits" "from_bits" (defArgs s_from_bits) (defBody s_from_bits) (defScope s_from_bits) .none kV3 dc3 pm3 an3 cd3 ct3), sl3⟩)
    (o3 : PySem.W.codeIn K cd3 "from_bits" = true)
    (p3 : PySem.W.keepIn K (.ref f3) = true)
    (a4 : PySem.W.nsIn K mainGlobals "least_held" = some (some (.ref f4)))
    (l4 : K.lookup f4 = some ⟨oc4, od4, .func (PySem.W.fnOf "least_held" "least_held" (defArgs s_least_held) (defBody s_least_held) (defScope s_least_held) .none kV4 dc4 pm4 an4 cd4 ct4), sl4⟩)
    (o4 : PySem.W.codeIn K cd4 "least_held" = true)
    (p4 : PySem.W.keepIn K (.ref f4) = true)
    (a5 : PySem.W.nsIn K mainGlobals "is_exact" = some (some (.ref f5)))
    (l5 : K.lookup f5 = some ⟨oc5, od5, .func (PySem.W.fnOf "is_exact" "is_exact" (defArgs s_is_exact) (defBody s_is_exact) (defScope s_is_exact) .none kV5 dc5 pm5 an5 cd5 ct5), sl5⟩)
    (o5 : PySem.W.codeIn K cd5 "is_exact" = true)
    (p5 : PySem.W.keepIn K (.ref f5) = true)
    (a6 : PySem.W.nsIn K mainGlobals "room_of" = some (some (.ref f6)))
    (l6 : K.lookup f6 = some ⟨oc6, od6, .func (PySem.W.fnOf "room_of" "room_of" (defArgs s_room_of) (defBody s_room_of) (defScope s_room_of) .none kV6 dc6 pm6 an6 cd6 ct6), sl6⟩)
    (o6 : PySem.W.codeIn K cd6 "room_of" = true)
    (p6 : PySem.W.keepIn K (.ref f6) = true)
    (a7 : PySem.W.nsIn K mainGlobals "greatest_high" = some (some (.ref f7)))
    (l7 : K.lookup f7 = some ⟨oc7, od7, .func (PySem.W.fnOf "greatest_high" "greatest_high" (defArgs s_greatest_high) (defBody s_greatest_high) (defScope s_greatest_high) .none kV7 dc7 pm7 an7 cd7 ct7), sl7⟩)
    (o7 : PySem.W.codeIn K cd7 "greatest_high" = true)
    (p7 : PySem.W.keepIn K (.ref f7) = true)
    (a8 : PySem.W.nsIn K mainGlobals "_law_pool" = some (some (.ref f8)))
    (l8 : K.lookup f8 = some ⟨oc8, od8, .func (PySem.W.fnOf "_law_pool" "_law_pool" (defArgs s_law_pool) (defBody s_law_pool) (defScope s_law_pool) .none kV8 dc8 pm8 an8 cd8 ct8), sl8⟩)
    (o8 : PySem.W.codeIn K cd8 "_law_pool" = true)
    (p8 : PySem.W.keepIn K (.ref f8) = true)
    (a9 : PySem.W.nsIn K mainGlobals "_law_take" = some (some (.ref f9)))
    (l9 : K.lookup f9 = some ⟨oc9, od9, .func (PySem.W.fnOf "_law_take" "_law_take" (defArgs s_law_take) (defBody s_law_take) (defScope s_law_take) .none kV9 dc9 pm9 an9 cd9 ct9), sl9⟩)
    (o9 : PySem.W.codeIn K cd9 "_law_take" = true)
    (p9 : PySem.W.keepIn K (.ref f9) = true)
    (a10 : PySem.W.nsIn K mainGlobals "_law_least" = some (some (.ref f10)))
    (l10 : K.lookup f10 = some ⟨oc10, od10, .func (PySem.W.fnOf "_law_least" "_law_least" (defArgs s_law_least) (defBody s_law_least) (defScope s_law_least) .none kV10 dc10 pm10 an10 cd10 ct10), sl10⟩)
    (o10 : PySem.W.codeIn K cd10 "_law_least" = true)
    (p10 : PySem.W.keepIn K (.ref f10) = true)
    (a11 : PySem.W.nsIn K mainGlobals "_law_room" = some (some (.ref f11)))
    (l11 : K.lookup f11 = some ⟨oc11, od11, .func (PySem.W.fnOf "_law_room" "_law_room" (defArgs s_law_room) (defBody s_law_room) (defScope s_law_room) .none kV11 dc11 pm11 an11 cd11 ct11), sl11⟩)
    (o11 : PySem.W.codeIn K cd11 "_law_room" = true)
    (p11 : PySem.W.keepIn K (.ref f11) = true)
    (a12 : PySem.W.nsIn K mainGlobals "_law_high" = some (some (.ref f12)))
    (l12 : K.lookup f12 = some ⟨oc12, od12, .func (PySem.W.fnOf "_law_high" "_law_high" (defArgs s_law_high) (defBody s_law_high) (defScope s_law_high) .none kV12 dc12 pm12 an12 cd12 ct12), sl12⟩)
    (o12 : PySem.W.codeIn K cd12 "_law_high" = true)
    (p12 : PySem.W.keepIn K (.ref f12) = true)
    (a13 : PySem.W.nsIn K mainGlobals "_law_room_so" = some (some (.ref f13)))
    (l13 : K.lookup f13 = some ⟨oc13, od13, .func (PySem.W.fnOf "_law_room_so" "_law_room_so" (defArgs s_law_room_so) (defBody s_law_room_so) (defScope s_law_room_so) .none kV13 dc13 pm13 an13 cd13 ct13), sl13⟩)
    (o13 : PySem.W.codeIn K cd13 "_law_room_so" = true)
    (p13 : PySem.W.keepIn K (.ref f13) = true)
    (a14 : PySem.W.nsIn K mainGlobals "law" = some (some (.ref f14)))
    (l14 : K.lookup f14 = some ⟨oc14, od14, .func (PySem.W.fnOf "law" "law" (defArgs s_law) (defBody s_law) (defScope s_law) .none kV14 dc14 pm14 an14 cd14 ct14), sl14⟩)
    (o14 : PySem.W.codeIn K cd14 "law" = true)
    (p14 : PySem.W.keepIn K (.ref f14) = true)
    (k_CELLS : PySem.W.nsIn K mainGlobals "CELLS" = some (some (.int 4096 t_CELLS)))
    (k_MOST_COUNT : PySem.W.nsIn K mainGlobals "MOST_COUNT" = some (some (.int 16 t_MOST_COUNT)))
    (z_abs : PySem.W.nsIn K mainGlobals "abs" = some none)
    (z_bool : PySem.W.nsIn K mainGlobals "bool" = some none)
    (z_int : PySem.W.nsIn K mainGlobals "int" = some none)
    (z_isinstance : PySem.W.nsIn K mainGlobals "isinstance" = some none)
    (z_len : PySem.W.nsIn K mainGlobals "len" = some none)
    (z_list : PySem.W.nsIn K mainGlobals "list" = some none)
    (z_max : PySem.W.nsIn K mainGlobals "max" = some none)
    (z_min : PySem.W.nsIn K mainGlobals "min" = some none)
    (z_range : PySem.W.nsIn K mainGlobals "range" = some none)
    (z_sum : PySem.W.nsIn K mainGlobals "sum" = some none)
    (z_tuple : PySem.W.nsIn K mainGlobals "tuple" = some none)
    (g_ReachError : PySem.W.nsIn K mainGlobals "ReachError" = some (some (.ref c0)))
    (g_NoBounds : PySem.W.nsIn K mainGlobals "NoBounds" = some (some (.ref c1)))
    (x_NoBounds : PySem.W.excIn K c1 [.type "ValueError", .type "Exception", .type "BaseException", .type "object"] "ValueError.__new__" = true)
    (p_NoBounds : PySem.W.keepIn K (.ref c1) = true)
    (u_NoBounds : PySem.W.subIn K (.ref c1) (.type "BaseException") = some true)
    (y_NoBounds : PySem.W.typeIn K (.ref c1) = some (.type "type"))
    : ∃ (fd : FuncData) (C : Nat → Addr), (∀ (s : Shared) (v : Value), BindsTo s fd ⟨[v], []⟩ [("_law_script", v)]) ∧ ∀ base : Heap, K.In base → base.Ns mainGlobals mg → FnOk l.prog w K mg base (L2.CX l.prog w) 5 fa fd ["_law_script"] (spOf K C 1 g_law) := by
  have e := hfa.symm.trans (PySem.W.mg_of X G a14)
  cases e
  have F0 := fun_mk (st := s_is_whole) l0 o0 p0
  have F1 := fun_mk (st := s_look_at_bounds) l1 o1 p1
  have F2 := fun_mk (st := s_least_in_bits) l2 o2 p2
  have F3 := fun_mk (st := s_from_bits) l3 o3 p3
  have F4 := fun_mk (st := s_least_held) l4 o4 p4
  have F5 := fun_mk (st := s_is_exact) l5 o5 p5
  have F6 := fun_mk (st := s_room_of) l6 o6 p6
  have F7 := fun_mk (st := s_greatest_high) l7 o7 p7
  have F8 := fun_mk (st := s_law_pool) l8 o8 p8
  have F9 := fun_mk (st := s_law_take) l9 o9 p9
  have F10 := fun_mk (st := s_law_least) l10 o10 p10
  have F11 := fun_mk (st := s_law_room) l11 o11 p11
  have F12 := fun_mk (st := s_law_high) l12 o12 p12
  have F13 := fun_mk (st := s_law_room_so) l13 o13 p13
  have F14 := fun_mk (st := s_law) l14 o14 p14
  let A : Nat → Addr := fun n => match n with | 0 => f0 | 1 => f1 | 2 => f2 | 3 => f3 | 4 => f4 | 5 => f5 | 6 => f6 | 7 => f7 | 8 => f8 | 9 => f9 | 10 => f10 | 11 => f11 | 12 => f12 | 13 => f13 | 14 => fa | _ => 0
  let C : Nat → Addr := fun n => match n with | 0 => c0 | 1 => c1 | _ => 0
  let fd : Nat → FuncData := fun n => match n with | 0 => PySem.W.fnOf "is_whole" "is_whole" (defArgs s_is_whole) (defBody s_is_whole) (defScope s_is_whole) .none kV0 dc0 pm0 an0 cd0 ct0 | 1 => PySem.W.fnOf "look_at_bounds" "look_at_bounds" (defArgs s_look_at_bounds) (defBody s_look_at_bounds) (defScope s_look_at_bounds) .none kV1 dc1 pm1 an1 cd1 ct1 | 2 => PySem.W.fnOf "least_in_bits" "least_in_bits" (defArgs s_least_in_bits) (defBody s_least_in_bits) (defScope s_least_in_bits) .none kV2 dc2 pm2 an2 cd2 ct2 | 3 => PySem.W.fnOf "from_bits" "from_bits" (defArgs s_from_bits) (defBody s_from_bits) (defScope s_from_bits) .none kV3 dc3 pm3 an3 cd3 ct3 | 4 => PySem.W.fnOf "least_held" "least_held" (defArgs s_least_held) (defBody s_least_held) (defScope s_least_held) .none kV4 dc4 pm4 an4 cd4 ct4 | 5 => PySem.W.fnOf "is_exact" "is_exact" (defArgs s_is_exact) (defBody s_is_exact) (defScope s_is_exact) .none kV5 dc5 pm5 an5 cd5 ct5 | 6 => PySem.W.fnOf "room_of" "room_of" (defArgs s_room_of) (defBody s_room_of) (defScope s_room_of) .none kV6 dc6 pm6 an6 cd6 ct6 | 7 => PySem.W.fnOf "greatest_high" "greatest_high" (defArgs s_greatest_high) (defBody s_greatest_high) (defScope s_greatest_high) .none kV7 dc7 pm7 an7 cd7 ct7 | 8 => PySem.W.fnOf "_law_pool" "_law_pool" (defArgs s_law_pool) (defBody s_law_pool) (defScope s_law_pool) .none kV8 dc8 pm8 an8 cd8 ct8 | 9 => PySem.W.fnOf "_law_take" "_law_take" (defArgs s_law_take) (defBody s_law_take) (defScope s_law_take) .none kV9 dc9 pm9 an9 cd9 ct9 | 10 => PySem.W.fnOf "_law_least" "_law_least" (defArgs s_law_least) (defBody s_law_least) (defScope s_law_least) .none kV10 dc10 pm10 an10 cd10 ct10 | 11 => PySem.W.fnOf "_law_room" "_law_room" (defArgs s_law_room) (defBody s_law_room) (defScope s_law_room) .none kV11 dc11 pm11 an11 cd11 ct11 | 12 => PySem.W.fnOf "_law_high" "_law_high" (defArgs s_law_high) (defBody s_law_high) (defScope s_law_high) .none kV12 dc12 pm12 an12 cd12 ct12 | 13 => PySem.W.fnOf "_law_room_so" "_law_room_so" (defArgs s_law_room_so) (defBody s_law_room_so) (defScope s_law_room_so) .none kV13 dc13 pm13 an13 cd13 ct13 | 14 => PySem.W.fnOf "law" "law" (defArgs s_law) (defBody s_law) (defScope s_law) .none kV14 dc14 pm14 an14 cd14 ct14 | _ => PySem.W.fnOf "law" "law" (defArgs s_law) (defBody s_law) (defScope s_law) .none kV14 dc14 pm14 an14 cd14 ct14
  have T : Txt K mg C A fd := {
    f_is_whole := F0,
    b_is_whole := F0.binds (ps := ["thing"]) fun _ _ _ _ _ _ us hl => match us, hl with | [_], _ => rfl,
    g_is_whole := PySem.W.mg_of X G a0,
    f_look_at_bounds := F1,
    b_look_at_bounds := F1.binds (ps := ["low", "high"]) fun _ _ _ _ _ _ us hl => match us, hl with | [_, _], _ => rfl,
    g_look_at_bounds := PySem.W.mg_of X G a1,
    f_least_in_bits := F2,
    b_least_in_bits := F2.binds (ps := ["low", "high"]) fun _ _ _ _ _ _ us hl => match us, hl with | [_, _], _ => rfl,
    g_least_in_bits := PySem.W.mg_of X G a2,
    f_from_bits := F3,
    b_from_bits := F3.binds (ps := ["step", "first", "count"]) fun _ _ _ _ _ _ us hl => match us, hl with | [_, _, _], _ => rfl,
    g_from_bits := PySem.W.mg_of X G a3,
    f_least_held := F4,
    b_least_held := F4.binds (ps := ["low", "high"]) fun _ _ _ _ _ _ us hl => match us, hl with | [_, _], _ => rfl,
    g_least_held := PySem.W.mg_of X G a4,
    f_is_exact := F5,
    b_is_exact := F5.binds (ps := ["low", "high"]) fun _ _ _ _ _ _ us hl => match us, hl with | [_, _], _ => rfl,
    g_is_exact := PySem.W.mg_of X G a5,
    f_room_of := F6,
    b_room_of := F6.binds (ps := ["many"]) fun _ _ _ _ _ _ us hl => match us, hl with | [_], _ => rfl,
    g_room_of := PySem.W.mg_of X G a6,
    f_greatest_high := F7,
    b_greatest_high := F7.binds (ps := ["low", "high"]) fun _ _ _ _ _ _ us hl => match us, hl with | [_, _], _ => rfl,
    g_greatest_high := PySem.W.mg_of X G a7,
    f_law_pool := F8,
    b_law_pool := F8.binds (ps := ["_law_script", "_law_k"]) fun _ _ _ _ _ _ us hl => match us, hl with | [_, _], _ => rfl,
    g_law_pool := PySem.W.mg_of X G a8,
    f_law_take := F9,
    b_law_take := F9.binds (ps := ["_law_pool_here", "_law_many"]) fun _ _ _ _ _ _ us hl => match us, hl with | [_, _], _ => rfl,
    g_law_take := PySem.W.mg_of X G a9,
    f_law_least := F10,
    b_law_least := F10.binds (ps := ["_law_low", "_law_high_here"]) fun _ _ _ _ _ _ us hl => match us, hl with | [_, _], _ => rfl,
    g_law_least := PySem.W.mg_of X G a10,
    f_law_room := F11,
    b_law_room := F11.binds (ps := ["_law_many"]) fun _ _ _ _ _ _ us hl => match us, hl with | [_], _ => rfl,
    g_law_room := PySem.W.mg_of X G a11,
    f_law_high := F12,
    b_law_high := F12.binds (ps := ["_law_low", "_law_high_here"]) fun _ _ _ _ _ _ us hl => match us, hl with | [_, _], _ => rfl,
    g_law_high := PySem.W.mg_of X G a12,
    f_law_room_so := F13,
    b_law_room_so := F13.binds (ps := ["_law_pool_here", "_law_many"]) fun _ _ _ _ _ _ us hl => match us, hl with | [_, _], _ => rfl,
    g_law_room_so := PySem.W.mg_of X G a13,
    f_law := F14,
    b_law := F14.binds (ps := ["_law_script"]) fun _ _ _ _ _ _ us hl => match us, hl with | [_], _ => rfl,
    g_law := PySem.W.mg_of X G a14,
    c_CELLS := ⟨_, PySem.W.mg_of X G k_CELLS⟩,
    c_MOST_COUNT := ⟨_, PySem.W.mg_of X G k_MOST_COUNT⟩,
    z_abs := PySem.W.mg_none_of X G z_abs,
    z_bool := PySem.W.mg_none_of X G z_bool,
    z_int := PySem.W.mg_none_of X G z_int,
    z_isinstance := PySem.W.mg_none_of X G z_isinstance,
    z_len := PySem.W.mg_none_of X G z_len,
    z_list := PySem.W.mg_none_of X G z_list,
    z_max := PySem.W.mg_none_of X G z_max,
    z_min := PySem.W.mg_none_of X G z_min,
    z_range := PySem.W.mg_none_of X G z_range,
    z_sum := PySem.W.mg_none_of X G z_sum,
    z_tuple := PySem.W.mg_none_of X G z_tuple,
    k_ReachError := PySem.W.mg_of X G g_ReachError,
    k_NoBounds := PySem.W.mg_of X G g_NoBounds,
    x_NoBounds := x_NoBounds,
    p_NoBounds := p_NoBounds,
    u_NoBounds := u_NoBounds,
    y_NoBounds := y_NoBounds }
  exact ⟨_, C, fun s v => .of_eq rfl, fun base _ _ => ok_law T⟩
end Lw
namespace Lw
open PySem PySem.Spec L2 Ev
theorem mulOk_of {i j : Int} (h : -18446744073709551616 < i) (h2 : i < 18446744073709551616) : mulOk i j = true := by unfold mulOk; simp [h, h2]
theorem take_eq {S : Store} {n : Nat} {a b many : Int} (hS : S[n]? = some (.lst [.int a, .int b])) (hb : 0 ≤ b) (hb2 : b < 2147483647) (hm : 0 < many) (hm2 : many < 18446744073709551616) :
    g_law_take [.loc n, .int many] S = if 0 < a then .ok (.int (a % many)) (S.set n (.lst [.int (a / many), .int b]))
      else .ok (.int ((b * 48271 + 11) % 2147483647 * ((b * 48271 + 11) % 2147483647) % 2147483629 / 16 % many)) (S.set n (.lst [.int a, .int ((b * 48271 + 11) % 2147483647)])) := by
  have hl : n < S.length := (List.getElem?_eq_some_iff.mp hS).1
  have hset : ∀ o : MO, (S.set n o)[n]? = some o := fun o => List.getElem?_set_self hl
  have hb3 : mulOk b 48271 = true := mulOk_of (by omega) (by omega)
  have hb4 : mulOk ((b * 48271 + 11) % 2147483647) ((b * 48271 + 11) % 2147483647) = true := mulOk_of (by omega) (by omega)
  unfold g_law_take runDef m_law_take
  simp [ixD, atI, ixN, hS, putIx, hm, hm2, hb3, hb4, hset]
/-- the pool at n; what else stands is as it was -/
def PoolAt (S : Store) (n : Nat) : Prop := ∃ a b : Int, S[n]? = some (.lst [.int a, .int b]) ∧ 0 ≤ a ∧ 0 ≤ b ∧ b < 2147483647
theorem take_ok {S : Store} {n : Nat} (many : Int) (h : PoolAt S n) (hm : 0 < many) (hm2 : many < 18446744073709551616) : ∃ r S', g_law_take [.loc n, .int many] S = .ok (.int r) S' ∧ 0 ≤ r ∧ r < many ∧ PoolAt S' n ∧ ∃ o, S' = S.set n o := by
  obtain ⟨a, b, hS, ha, hb, hb2⟩ := h
  have hl : n < S.length := (List.getElem?_eq_some_iff.mp hS).1
  rw [take_eq hS hb hb2 hm hm2]
  split
  · exact ⟨_, _, rfl, Int.emod_nonneg _ (by omega), Int.emod_lt_of_pos _ hm, ⟨_, _, List.getElem?_set_self hl, Int.ediv_nonneg ha (by omega), hb, hb2⟩, _, rfl⟩
  · exact ⟨_, _, rfl, Int.emod_nonneg _ (by omega), Int.emod_lt_of_pos _ hm, ⟨_, _, List.getElem?_set_self hl, ha, by omega, by omega⟩, _, rfl⟩
theorem atI_map (ns : List Int) (k : Int) (h : 0 ≤ k) (h2 : k < ns.length) : atI (ns.map D.int) k = some (.int (ns.getD k.toNat 0)) := by
  have h3 : k.toNat < ns.length := by omega
  simp [atI, ixN, h, h2, List.getD, h3]
theorem pool_ok (ns : List Int) (k : Int) (S : Store) (hk : 0 ≤ k) (hk2 : k < 1000) : ∃ a b : Int, 0 ≤ a ∧ 0 ≤ b ∧ b < 2147483647 ∧ g_law_pool [.lst (ns.map D.int), .int k] S = .ok (.loc S.length) (S ++ [.lst [.int a, .int b]]) := by
  have m1 : ∀ x, mulOk 7 x = true := fun x => mulOk_of (by omega) (by omega)
  have m2 : mulOk 7919 k = true := mulOk_of (by omega) (by omega)
  have m3 : mulOk (7919 * k) k = true := mulOk_of (by omega) (by omega)
  have m4 : mulOk 31 k = true := mulOk_of (by omega) (by omega)
  have kk : 0 ≤ 7919 * k * k ∧ 7919 * k * k < 7919000000 := by
    have h1 : 0 ≤ k * k := Int.mul_nonneg hk hk
    have h2 : k * k ≤ 999 * 999 := Int.mul_le_mul (by omega) (by omega) hk (by omega)
    have e : 7919 * k * k = 7919 * (k * k) := Int.mul_assoc ..
    rw [e]
    omega
  have fin : ∀ c : Int, ∃ a b : Int, 0 ≤ a ∧ 0 ≤ b ∧ b < 2147483647 ∧
      ((sSeq (sSet 3 (rCal absD (rCons (rVar 2) rNil)))
                      (sSeq
                        (sSet 4
                          (rBin modD
                            (rBin mulD
                              (rBin addD
                                (rBin addD
                                  (rBin addD (rBin modD (rVar 3) (rCon (D.int 2147483629)))
                                    (rBin mulD (rBin mulD (rCon (D.int 7919)) (rVar 1)) (rVar 1)))
                                  (rBin mulD (rCon (D.int 31)) (rVar 1)))
                                (rCon (D.int 17)))
                              (rCon (D.int 48271)))
                            (rCon (D.int 2147483647))))
                        (sRet
                          (rLstM
                            (rCons
                              (rBin mulD (rVar 3)
                                (rCal intD
                                  (rCons (rBin geD (rVar 3) (rBin powD (rCon (D.int 10)) (rCon (D.int 18)))) rNil)))
                              (rCons (rBin modD (rBin mulD (rVar 4) (rVar 4)) (rCon (D.int 2147483629)))
                                rNil)))))) [some (D.lst (List.map D.int ns)), some (D.int k), some (.int c), none, none] S).res = Res.ok (D.loc (List.length S)) (S ++ [MO.lst [D.int a, D.int b]]) := fun c => by
    generalize hg : (if c < 0 then -c else c) = z
    have hz : 0 ≤ z := by rw [← hg]; split <;> omega
    have m5 : mulOk (z % 2147483629 + 7919 * k * k + 31 * k + 17) 48271 = true := mulOk_of (by omega) (by omega)
    generalize hy : (z % 2147483629 + 7919 * k * k + 31 * k + 17) * 48271 % 2147483647 = y
    have hy0 : 0 ≤ y := by omega
    have hy1 : y < 2147483647 := by omega
    have m6 : mulOk y y = true := mulOk_of (by omega) (by omega)
    have m7 : ∀ b : Bool, mulOk z (if b = true then 1 else 0) = true := fun b => by cases b <;> simp [mulOk]
    have p1 : powOk 10 18 = true := by decide
    have m8 := m7 (decide (10 ^ 18 ≤ z))
    simp at m8
    refine ⟨if 1000000000000000000 ≤ z then z else 0, y * y % 2147483629, ?_, by omega, by omega, ?_⟩
    · split <;> omega
    · simp [hg, m2, m3, m4, m5, hy, m6, p1, m8]
      split <;> simp
  unfold g_law_pool runDef m_law_pool
  by_cases hlt : k < ns.length
  · obtain ⟨a, b, h1, h2, h3, h4⟩ := fin (ns.getD k.toNat 0)
    refine ⟨a, b, h1, h2, h3, ?_⟩
    rw [← h4]
    simp [slD, sumD, cutD, HT.sIx, ← List.map_take, allI_map, m1, hlt, ixD, atI_map ns k hk hlt]
  · obtain ⟨a, b, h1, h2, h3, h4⟩ := fin (7 * (ns.take (min 63 ns.length)).sum + k)
    refine ⟨a, b, h1, h2, h3, ?_⟩
    rw [← h4]
    simp [slD, sumD, cutD, HT.sIx, ← List.map_take, allI_map, m1, hlt]
end Lw
namespace Lw
open PySem PySem.Spec L2 Ev
/-! ### bounds -/
def Typed (S : Store) (d : D) : Prop := ∃ t, tyD S d = some t
def isW : D → Bool
  | .int _ => true
  | _ => false
theorem isi_loc_int {S : Store} {n : Nat} (h : Typed S (.loc n)) : isiD "int" S (.loc n) = some (.bl false) := by
  obtain ⟨t, h⟩ := h
  have h2 := h
  simp only [tyD] at h2
  split at h2 <;> cases h2
  · exact isiD_of h (by decide +kernel)
  · exact isiD_of h (by decide +kernel)
theorem is_whole_eq {S : Store} {d : D} (h : Typed S d) : g_is_whole [d] S = .ok (.bl (isW d)) S := by
  unfold g_is_whole runDef m_is_whole
  cases d with
  | loc n => simp [isi_loc_int h, isW]
  | exn c ns xs => obtain ⟨t, h⟩ := h; cases h
  | _ => simp [isW]
def noB : Exn := ⟨cl_NoBounds, [], []⟩
/-- two ints that are bounds -/
def bnd : D → D → Option (Int × Int)
  | .int l, .int h => if 0 ≤ l ∧ l < h ∧ h ≤ 4096 then some (l, h) else none
  | _, _ => none
theorem bnd_some {a b : D} {l h : Int} (e : bnd a b = some (l, h)) : a = .int l ∧ b = .int h ∧ 0 ≤ l ∧ l < h ∧ h ≤ 4096 := by
  unfold bnd at e
  split at e
  · split at e
    · rename_i hh
      cases e
      exact ⟨rfl, rfl, hh⟩
    · cases e
  · cases e
theorem look_eq {S : Store} {a b : D} (h1 : Typed S a) (h2 : Typed S b) : g_look_at_bounds [a, b] S = if (bnd a b).isSome = true then .ok .non S else .err noB S := by
  unfold g_look_at_bounds runDef m_look_at_bounds
  have e1 := is_whole_eq h1
  have e2 := is_whole_eq h2
  cases ha : isW a with
  | false =>
    have hb : bnd a b = none := by cases a <;> cases b <;> first | rfl | simp [isW] at ha
    rw [ha] at e1
    simp [e1, hb, noB]
  | true =>
    rw [ha] at e1
    cases hb : isW b with
    | false =>
      have hb' : bnd a b = none := by cases a <;> cases b <;> first | rfl | simp [isW] at ha hb
      rw [hb] at e2
      simp [e1, e2, hb', noB]
    | true =>
      rw [hb] at e2
      obtain ⟨l, rfl⟩ : ∃ l, a = .int l := by cases a <;> first | exact ⟨_, rfl⟩ | simp [isW] at ha
      obtain ⟨h, rfl⟩ : ∃ l, b = .int l := by cases b <;> first | exact ⟨_, rfl⟩ | simp [isW] at hb
      simp [e1, e2, bnd, noB]
      by_cases c1 : 0 ≤ l <;> by_cases c2 : l < h <;> by_cases c3 : h ≤ 4096 <;> simp [c1, c2, c3]
/-! the least bounds in bits -/
/-- h / 2^s, rounded up -/
def cdv (h : Int) (s : Nat) : Int := -(-h / 2 ^ s)
def cnt (l h : Int) (s : Nat) : Int := cdv h s - l / 2 ^ s
/-- the first step from s on, at most n further, at which count is at most 16 -/
def fstep (l h : Int) : Nat → Nat → Nat
  | 0, s => s
  | n + 1, s => if 16 < cnt l h s then fstep l h n (s + 1) else s
def stp (l h : Int) : Nat := fstep l h 8 0
theorem cdv_mono (h : Int) (s : Nat) : True := trivial
theorem cnt8 {l h : Int} (h0 : 0 ≤ l) (h2 : h ≤ 4096) : cnt l h 8 ≤ 16 := by
  unfold cnt cdv
  have e : (2 : Int) ^ 8 = 256 := by decide
  rw [e]
  omega
theorem fstep_spec (l h : Int) : ∀ (n s : Nat), cnt l h (s + n) ≤ 16 → cnt l h (fstep l h n s) ≤ 16 ∧ s ≤ fstep l h n s ∧ fstep l h n s ≤ s + n ∧ ∀ t, s ≤ t → t < fstep l h n s → 16 < cnt l h t
  | 0, s, hc => ⟨hc, Nat.le_refl _, Nat.le_refl _, fun t h1 h2 => absurd h2 (by simp only [fstep]; omega)⟩
  | n + 1, s, hc => by
    unfold fstep
    split
    · rename_i hs
      obtain ⟨h1, h2, h3, h4⟩ := fstep_spec l h n (s + 1) (by rw [show s + 1 + n = s + (n + 1) by omega]; exact hc)
      exact ⟨h1, by omega, by omega, fun t a b => by
        by_cases e : t = s
        · subst e; exact hs
        · exact h4 t (by omega) b⟩
    · rename_i hs
      exact ⟨by omega, Nat.le_refl _, by omega, fun t a b => by omega⟩
theorem stp_spec {l h : Int} (h0 : 0 ≤ l) (h2 : h ≤ 4096) : cnt l h (stp l h) ≤ 16 ∧ stp l h ≤ 8 ∧ ∀ t, t < stp l h → 16 < cnt l h t := by
  obtain ⟨h1, _, h3, h4⟩ := fstep_spec l h 8 0 (cnt8 h0 h2)
  exact ⟨h1, by unfold stp; omega, fun t a => h4 t (Nat.zero_le _) a⟩
def lib (l h : Int) : D := .tup [.int (stp l h), .int (l / 2 ^ stp l h), .int (cnt l h (stp l h))]
theorem lib_loop {l h : Int} {S : Store} {x : Option D} (tc : RT) (hb : RS)
    (ht : tc = rTest (rBin gtD (rBin subD (rUn negD (rBin shrD (rUn negD (rVar 1)) (rVar 2))) (rBin shrD (rVar 0) (rVar 2))) (rCon (.int 16))))
    (hbd : hb = sAug 2 (i2 (fun _ _ => true) fun i j => .int (i + j)) (rCon (.int 1))) :
    ∀ (n s m : Nat), cnt l h (s + n) ≤ 16 → n < m → whileN tc hb m [some (.int l), some (.int h), some (.int s), x] S = .nx [some (.int l), some (.int h), some (.int (fstep l h n s)), x] S
  | 0, s, 0, hc, hm => by omega
  | n + 1, s, 0, hc, hm => by omega
  | 0, s, m + 1, hc, hm => by
    have hs : ¬ 16 < cnt l h s := by have : cnt l h s ≤ 16 := hc; omega
    unfold cnt cdv at hs
    simp [whileN, ht, fstep, hs]
  | n + 1, s, m + 1, hc, hm => by
    by_cases hs : 16 < cnt l h s
    · have ih := lib_loop (S := S) (x := x) tc hb ht hbd n (s + 1) m (by rw [show s + 1 + n = s + (n + 1) by omega]; exact hc) (by omega)
      have e : fstep l h (n + 1) s = fstep l h n (s + 1) := by simp [fstep, hs]
      rw [e, ← ih]
      have hs' := hs
      unfold cnt cdv at hs'
      simp [whileN]
      subst ht hbd
      simp [hs']
    · have e : fstep l h (n + 1) s = s := by simp [fstep, hs]
      have hs' := hs
      unfold cnt cdv at hs'
      simp [whileN, ht, e, hs']
theorem lib_eq {l h : Int} {S : Store} (h0 : 0 ≤ l) (h2 : h ≤ 4096) : g_least_in_bits [.int l, .int h] S = .ok (lib l h) S := by
  have lp := lib_loop (l := l) (h := h) (S := S) (x := none) _ lb1_least_in_bits rfl rfl 8 0 20 (cnt8 h0 h2) (by omega)
  unfold g_least_in_bits runDef m_least_in_bits
  simp only [Int.ofNat_zero] at lp
  simp [lp, lib, stp, cnt, cdv]
end Lw
namespace Lw
open PySem PySem.Spec L2 Ev
def lhl (l h : Int) : Int := l / 2 ^ stp l h * 2 ^ stp l h
def lhh (l h : Int) : Int := cdv h (stp l h) * 2 ^ stp l h
theorem pow_pos (s : Nat) : (0 : Int) < 2 ^ s := Int.pow_pos (by decide)
theorem from_eq {f c : Int} {s : Nat} {S : Store} (hs : s ≤ 8) (hf : f.natAbs < 4294967296) (hc : c.natAbs < 4294967296) : g_from_bits [.int s, .int f, .int c] S = .ok (.tup [.int (f * 2 ^ s), .int ((f + c) * 2 ^ s)]) S := by
  have p1 : powOk f s = true := by unfold powOk; simp; omega
  have p2 : powOk (f + c) s = true := by unfold powOk; simp; omega
  unfold g_from_bits runDef m_from_bits
  simp [p1, p2]
theorem div_bnd {l : Int} (s : Nat) (h0 : 0 ≤ l) (h1 : l ≤ 4096) : 0 ≤ l / 2 ^ s ∧ l / 2 ^ s ≤ 4096 := by
  have p := pow_pos s
  refine ⟨Int.ediv_nonneg h0 (by omega), Int.le_trans (Int.ediv_le_self _ h0) h1⟩
theorem cdv_le {h : Int} (s : Nat) : h ≤ cdv h s * 2 ^ s := by
  unfold cdv
  have p := pow_pos s
  have := Int.ediv_mul_le (-h) (Int.ne_of_gt p)
  rw [Int.neg_mul]
  omega
theorem cdv_lt {h : Int} (s : Nat) : cdv h s * 2 ^ s < h + 2 ^ s := by
  unfold cdv
  have p := pow_pos s
  have := Int.lt_ediv_add_one_mul_self (-h) p
  rw [Int.neg_mul]
  rw [Int.add_mul, Int.one_mul] at this
  omega
theorem cdv_pos {h : Int} (s : Nat) (h0 : 0 < h) : 0 < cdv h s := by
  have p := pow_pos s
  have a := cdv_le (h := h) s
  by_cases z : 0 < cdv h s
  · exact z
  · have : cdv h s * 2 ^ s ≤ 0 := Int.mul_nonpos_of_nonpos_of_nonneg (by omega) (by omega)
    omega
theorem cdv_bnd {h : Int} (s : Nat) (h0 : 0 < h) (h1 : h ≤ 4096) : 0 < cdv h s ∧ cdv h s ≤ 4096 := by
  refine ⟨cdv_pos s h0, ?_⟩
  have p := pow_pos s
  have b := cdv_lt (h := h) s
  by_cases z : cdv h s ≤ h
  · omega
  · have : (h + 1) * 2 ^ s ≤ cdv h s * 2 ^ s := Int.mul_le_mul_of_nonneg_right (by omega) (by omega)
    rw [Int.add_mul, Int.one_mul] at this
    have : h * 1 ≤ h * 2 ^ s := Int.mul_le_mul_of_nonneg_left (by omega) (by omega)
    omega
theorem held_eq {l h : Int} {S : Store} (h0 : 0 ≤ l) (h1 : l < h) (h2 : h ≤ 4096) : g_least_held [.int l, .int h] S = .ok (.tup [.int (lhl l h), .int (lhh l h)]) S := by
  obtain ⟨s1, s2, _⟩ := stp_spec h0 h2
  have a := div_bnd (stp l h) h0 (by omega : l ≤ 4096)
  have b := cdv_bnd (stp l h) (by omega : 0 < h) h2
  have c : cnt l h (stp l h) = cdv h (stp l h) - l / 2 ^ stp l h := rfl
  have e := from_eq (f := l / 2 ^ stp l h) (c := cnt l h (stp l h)) (S := S) s2 (by omega) (by omega)
  unfold g_least_held runDef m_least_held
  have c2 : l / 2 ^ stp l h + cnt l h (stp l h) = cdv h (stp l h) := by omega
  simp [lib_eq h0 h2, lib, e, lhl, lhh, c2]
def exb (l h : Int) : Bool := lhl l h == l && lhh l h == h
theorem is_exact_eq {S : Store} {a b : D} (h1 : Typed S a) (h2 : Typed S b) : g_is_exact [a, b] S = match bnd a b with | some (l, h) => .ok (.bl (exb l h)) S | none => .err noB S := by
  unfold g_is_exact runDef m_is_exact
  simp [look_eq h1 h2]
  cases hb : bnd a b with
  | none => simp
  | some p =>
    obtain ⟨l, h⟩ := p
    obtain ⟨rfl, rfl, b1, b2, b3⟩ := bnd_some hb
    simp [held_eq b1 b2 b3, exb, PyData.eqvAll, PyData.eqv]
/-- the greatest high from f down -/
@[irreducible] def gh (l : Int) : Nat → Int → Int
  | 0, f => f
  | n + 1, f => if exb l f = true then f else gh l n (f - 1)
theorem stp_one {l : Int} : stp l (l + 1) = 0 := by
  unfold stp fstep
  have : ¬ 16 < cnt l (l + 1) 0 := by unfold cnt cdv; simp; omega
  simp [this]
theorem ex_one {l : Int} : exb l (l + 1) = true := by
  unfold exb lhl lhh
  rw [stp_one]
  simp [cdv]
theorem gh_loop {l h : Int} {S : Store} (tc : RT) (hb : RS) (h0 : 0 ≤ l)
    (ht : tc = rTest (rBin neD (rCall g_least_held (rCons (rVar 0) (rCons (rVar 2) rNil))) (rTup (rCons (rVar 0) (rCons (rVar 2) rNil)))))
    (hbd : hb = sAug 2 subD (rCon (.int 1))) :
    ∀ (n m : Nat) (f : Int), f ≤ 4096 → f = l + 1 + n → n < m → whileN tc hb m [some (.int l), some (.int h), some (.int f)] S = .nx [some (.int l), some (.int h), some (.int (gh l n f))] S
  | 0, 0, f, _, hc, hm => by omega
  | n + 1, 0, f, _, hc, hm => by omega
  | 0, m + 1, f, h4, hc, hm => by
    have e : f = l + 1 := by omega
    subst e
    have ex := ex_one (l := l)
    unfold exb at ex
    simp only [Bool.and_eq_true, beq_iff_eq] at ex
    simp [whileN, ht, held_eq h0 (by omega : l < l + 1) h4, PyData.eqvAll, PyData.eqv, ex.1, ex.2, gh]
  | n + 1, m + 1, f, h4, hc, hm => by
    have hh := held_eq (S := S) h0 (by omega : l < f) h4
    by_cases ex : exb l f = true
    · have e : gh l (n + 1) f = f := by simp [gh, ex]
      unfold exb at ex
      simp only [Bool.and_eq_true, beq_iff_eq] at ex
      simp [whileN, ht, hh, PyData.eqvAll, PyData.eqv, ex.1, ex.2, e]
    · have e : gh l (n + 1) f = gh l n (f - 1) := by simp [gh, ex]
      have ih := gh_loop (h := h) (S := S) tc hb h0 ht hbd n m (f - 1) (by omega) (by omega) (by omega)
      rw [e, ← ih]
      unfold exb at ex
      simp [whileN]
      subst ht hbd
      simp only [Bool.not_eq_true, Bool.and_eq_false_imp, beq_iff_eq] at ex
      by_cases e1 : lhl l f = l
      · have e2 := ex e1
        have e3 : ¬ lhh l f = f := by simpa using e2
        simp [hh, PyData.eqvAll, PyData.eqv, e1, e3]
      · simp [hh, PyData.eqvAll, PyData.eqv, e1]
theorem greatest_eq {S : Store} {a b : D} (h1 : Typed S a) (h2 : Typed S b) : g_greatest_high [a, b] S = match bnd a b with | some (l, h) => .ok (.int (gh l (h - l - 1).toNat h)) S | none => .err noB S := by
  unfold g_greatest_high runDef m_greatest_high
  simp [look_eq h1 h2]
  cases hb : bnd a b with
  | none => simp
  | some p =>
    obtain ⟨l, h⟩ := p
    obtain ⟨rfl, rfl, b1, b2, b3⟩ := bnd_some hb
    have lp := gh_loop (h := h) (S := S) _ lb1_greatest_high b1 rfl rfl (h - l - 1).toNat 5000 h b3 (by omega) (by omega)
    simp [lp]
/-! rooms -/
def rm (m : Int) : D := .tup [.int (cdv m (stp 0 m) * 2 ^ stp 0 m), .int (stp 0 m)]
theorem rm_loop {m : Int} {S : Store} (tc : RT) (hb : RS)
    (ht : tc = rTest (rBin gtD (rUn negD (rBin shrD (rUn negD (rVar 0)) (rVar 1))) (rCon (.int 16))))
    (hbd : hb = sAug 1 (i2 (fun _ _ => true) fun i j => .int (i + j)) (rCon (.int 1))) :
    ∀ (n s k : Nat), cnt 0 m (s + n) ≤ 16 → n < k → whileN tc hb k [some (.int m), some (.int s)] S = .nx [some (.int m), some (.int (fstep 0 m n s))] S
  | 0, s, 0, hc, hm => by omega
  | n + 1, s, 0, hc, hm => by omega
  | 0, s, k + 1, hc, hm => by
    have hs : ¬ 16 < cnt 0 m s := by have : cnt 0 m s ≤ 16 := hc; omega
    unfold cnt cdv at hs
    rw [Int.zero_ediv, Int.sub_zero] at hs
    simp [whileN, ht, fstep, hs]
  | n + 1, s, k + 1, hc, hm => by
    by_cases hs : 16 < cnt 0 m s
    · have ih := rm_loop (S := S) tc hb ht hbd n (s + 1) k (by rw [show s + 1 + n = s + (n + 1) by omega]; exact hc) (by omega)
      have e : fstep 0 m (n + 1) s = fstep 0 m n (s + 1) := by simp [fstep, hs]
      rw [e, ← ih]
      have hs' := hs
      unfold cnt cdv at hs'
      simp at hs'
      simp [whileN]
      subst ht hbd
      simp [hs']
    · have e : fstep 0 m (n + 1) s = s := by simp [fstep, hs]
      have hs' := hs
      unfold cnt cdv at hs'
      rw [Int.zero_ediv, Int.sub_zero] at hs'
      simp [whileN, ht, e, hs']
def isR : D → Option Int
  | .int m => if 1 ≤ m ∧ m ≤ 4096 then some m else none
  | _ => none
theorem room_eq {S : Store} {a : D} (h1 : Typed S a) : g_room_of [a] S = match isR a with | some m => .ok (rm m) S | none => .err noB S := by
  unfold g_room_of runDef m_room_of
  have e1 := is_whole_eq h1
  cases ha : isW a with
  | false =>
    have hb : isR a = none := by cases a <;> first | rfl | simp [isW] at ha
    rw [ha] at e1
    simp [e1, hb, noB]
  | true =>
    rw [ha] at e1
    obtain ⟨m, rfl⟩ : ∃ l, a = .int l := by cases a <;> first | exact ⟨_, rfl⟩ | simp [isW] at ha
    by_cases c1 : 1 ≤ m
    · by_cases c2 : m ≤ 4096
      · have lp := rm_loop (m := m) (S := S) _ lb1_room_of rfl rfl 8 0 20 (cnt8 (by omega) c2) (by omega)
        simp only [Int.ofNat_zero] at lp
        have b := cdv_bnd (stp 0 m) (by omega : 0 < m) c2
        obtain ⟨s1, s2, _⟩ := stp_spec (l := 0) (by omega) c2
        have p1 : powOk (cdv m (stp 0 m)) (stp 0 m) = true := by unfold powOk; simp; omega
        unfold cdv at p1
        simp [stp] at p1
        simp [e1, c1, c2, isR, lp, rm, stp, cdv, p1]
      · simp [e1, c1, c2, isR, noB]
    · simp [e1, c1, isR, noB]
end Lw
namespace Lw
open PySem PySem.Spec L2 Ev
/-! ### loops that search -/
def fnd (c : Nat → Bool) : Nat → Nat → Nat
  | 0, s => s
  | n + 1, s => if c s = true then fnd c n (s + 1) else s
theorem while_fnd {tc : RT} {body : RS} {E : Nat → Ev.Env} {S : Store} {c : Nat → Bool} (N : Nat) (ht : ∀ s, s ≤ N → tc (E s) S = .ok (c s) S) (hb : ∀ s, s < N → body (E s) S = .nx (E (s + 1)) S) :
    ∀ (n s m : Nat), s + n ≤ N → c (s + n) = false → n < m → whileN tc body m (E s) S = .nx (E (fnd c n s)) S
  | 0, s, 0, _, hc, hm => by omega
  | n + 1, s, 0, _, hc, hm => by omega
  | 0, s, m + 1, hN, hc, hm => by
    have h0 : c s = false := hc
    simp [whileN, ht s (by omega), h0, fnd]
  | n + 1, s, m + 1, hN, hc, hm => by
    simp only [whileN, ht s (by omega), fl_ok]
    cases h0 : c s with
    | false => simp [fnd, h0]
    | true =>
      have ih := while_fnd N ht hb n (s + 1) m (by omega) (by rw [show s + 1 + n = s + (n + 1) by omega]; exact hc) (by omega)
      simp [hb s (by omega), fnd, h0, ih]
theorem fnd_all (c : Nat → Bool) : ∀ (n s : Nat), (∀ t, s ≤ t → t < s + n → c t = true) → fnd c n s = s + n
  | 0, s, _ => rfl
  | n + 1, s, h => by
    rw [fnd, if_pos (h s (Nat.le_refl _) (by omega)), fnd_all c n (s + 1) fun t h1 h2 => h t (by omega) (by omega)]
    omega
theorem fnd_congr {c c' : Nat → Bool} : ∀ (n s : Nat), (∀ t, s ≤ t → t < s + n → c t = c' t) → fnd c n s = fnd c' n s
  | 0, s, _ => rfl
  | n + 1, s, h => by
    rw [fnd, fnd, h s (Nat.le_refl _) (by omega), fnd_congr n (s + 1) fun t h1 h2 => h t (by omega) (by omega)]
theorem fstep_fnd (l h : Int) : ∀ (n s : Nat), fstep l h n s = fnd (fun s => decide (16 < cnt l h s)) n s
  | 0, s => rfl
  | n + 1, s => by simp only [fstep, fnd, decide_eq_true_eq, fstep_fnd l h n (s + 1)]
/-! ### the theory of bounds -/
theorem uniqW {a b p h : Int} (hp : 0 < p) (h1 : h ≤ a * p) (h2 : a * p < h + p) (h3 : h ≤ b * p) (h4 : b * p < h + p) : a = b := by
  have e1 : a * p < (b + 1) * p := by rw [Int.add_mul, Int.one_mul]; omega
  have e2 : b * p < (a + 1) * p := by rw [Int.add_mul, Int.one_mul]; omega
  have f1 := Int.lt_of_mul_lt_mul_right e1 (by omega)
  have f2 := Int.lt_of_mul_lt_mul_right e2 (by omega)
  omega
theorem cdv_pred {h : Int} (s : Nat) : (h - 1) / 2 ^ s + 1 = cdv h s := by
  have p := pow_pos s
  have a := cdv_le (h := h) s
  have b := cdv_lt (h := h) s
  have c := Int.ediv_mul_le (h - 1) (Int.ne_of_gt p)
  have d := Int.lt_ediv_add_one_mul_self (h - 1) p
  have e : ((h - 1) / 2 ^ s + 1) * 2 ^ s = (h - 1) / 2 ^ s * 2 ^ s + 2 ^ s := by rw [Int.add_mul, Int.one_mul]
  exact uniqW (h := h) p (by omega) (by omega) a b
theorem cdv_gt {m : Int} (s : Nat) (k : Int) : k < cdv m s ↔ k * 2 ^ s < m := by
  have p := pow_pos s
  have a := cdv_le (h := m) s
  have b := cdv_lt (h := m) s
  constructor
  · intro h
    have : (k + 1) * 2 ^ s ≤ cdv m s * 2 ^ s := Int.mul_le_mul_of_nonneg_right (by omega) (by omega)
    rw [Int.add_mul, Int.one_mul] at this
    omega
  · intro h
    exact Int.lt_of_mul_lt_mul_right (Int.lt_of_lt_of_le h a) (by omega)
theorem cdv_le_iff {m : Int} (s : Nat) (k : Int) : cdv m s ≤ k ↔ m ≤ k * 2 ^ s := by
  have := cdv_gt (m := m) s k
  omega
theorem le_div_iff {l : Int} (s : Nat) (k : Int) : k ≤ l / 2 ^ s ↔ k * 2 ^ s ≤ l := Int.le_ediv_iff_mul_le (pow_pos s)
theorem cdv_mul (k : Int) (s : Nat) : cdv (k * 2 ^ s) s = k := by
  have p := pow_pos s
  exact uniqW (h := k * 2 ^ s) p (cdv_le s) (cdv_lt s) (Int.le_refl _) (by omega)
theorem div_mul' (k : Int) (s : Nat) : k * 2 ^ s / 2 ^ s = k := Int.mul_ediv_cancel _ (Int.ne_of_gt (pow_pos s))
theorem stp_le {l h : Int} {s : Nat} (h0 : 0 ≤ l) (h2 : h ≤ 4096) (hc : cnt l h s ≤ 16) : stp l h ≤ s := by
  obtain ⟨_, _, c⟩ := stp_spec h0 h2
  by_cases z : stp l h ≤ s
  · exact z
  · have := c s (by omega)
    omega
theorem cnt_le {l h a b : Int} {s : Nat} (h1 : a * 2 ^ s ≤ l) (h2 : h ≤ b * 2 ^ s) : cnt l h s ≤ b - a := by
  unfold cnt
  have e1 := (le_div_iff (l := l) s a).mpr h1
  have e2 := (cdv_le_iff (m := h) s b).mpr h2
  omega
theorem pow_split {t s : Nat} (h : t ≤ s) : (2 : Int) ^ s = 2 ^ (s - t) * 2 ^ t := by rw [← Int.pow_add]; congr 1; omega
/-- the least told ones lie within all told ones that hold -/
theorem held_within {l h a b : Int} {s : Nat} (h0 : 0 ≤ l) (h2 : h ≤ 4096) (h3 : a * 2 ^ s ≤ l) (h4 : h ≤ b * 2 ^ s) (h5 : b - a ≤ 16) : a * 2 ^ s ≤ lhl l h ∧ lhh l h ≤ b * 2 ^ s := by
  have hs := stp_le (s := s) h0 h2 (Int.le_trans (cnt_le h3 h4) h5)
  unfold lhl lhh
  generalize stp l h = t at *
  have p := pow_pos t
  rw [pow_split hs] at *
  constructor
  · rw [← Int.mul_assoc] at h3 ⊢
    exact Int.mul_le_mul_of_nonneg_right ((le_div_iff t _).mpr h3) (by omega)
  · rw [← Int.mul_assoc] at h4 ⊢
    exact Int.mul_le_mul_of_nonneg_right ((cdv_le_iff t _).mpr h4) (by omega)
theorem held_holds (l h : Int) : lhl l h ≤ l ∧ h ≤ lhh l h := by
  unfold lhl lhh
  exact ⟨Int.ediv_mul_le _ (Int.ne_of_gt (pow_pos _)), cdv_le _⟩
theorem exact_of {a b : Int} {s : Nat} (h0 : 0 ≤ a * 2 ^ s) (h2 : b * 2 ^ s ≤ 4096) (h5 : b - a ≤ 16) : lhl (a * 2 ^ s) (b * 2 ^ s) = a * 2 ^ s ∧ lhh (a * 2 ^ s) (b * 2 ^ s) = b * 2 ^ s := by
  obtain ⟨e1, e2⟩ := held_within (l := a * 2 ^ s) (h := b * 2 ^ s) h0 h2 (Int.le_refl _) (Int.le_refl _) h5
  obtain ⟨e3, e4⟩ := held_holds (a * 2 ^ s) (b * 2 ^ s)
  omega
theorem exb_of {a b : Int} {s : Nat} (h0 : 0 ≤ a * 2 ^ s) (h2 : b * 2 ^ s ≤ 4096) (h5 : b - a ≤ 16) : exb (a * 2 ^ s) (b * 2 ^ s) = true := by
  obtain ⟨e1, e2⟩ := exact_of h0 h2 h5
  unfold exb
  simp [e1, e2]
theorem top_mul {s : Nat} (h : s ≤ 8) : ∃ k : Int, 4096 = k * 2 ^ s := by
  refine ⟨2 ^ (12 - s), ?_⟩
  rw [← Int.pow_add, show 12 - s + s = 12 by omega]
  decide
theorem lhh_le {l h : Int} (h0 : 0 ≤ l) (h2 : h ≤ 4096) : lhh l h ≤ 4096 := by
  obtain ⟨_, s2, _⟩ := stp_spec h0 h2
  obtain ⟨k, hk⟩ := top_mul s2
  unfold lhh
  have := (cdv_le_iff (m := h) (stp l h) k).mpr (by rw [← hk]; exact h2)
  rw [hk]
  exact Int.mul_le_mul_of_nonneg_right this (Int.le_of_lt (pow_pos _))
theorem lhl_nn {l h : Int} (h0 : 0 ≤ l) : 0 ≤ lhl l h := Int.mul_nonneg (Int.ediv_nonneg h0 (Int.le_of_lt (pow_pos _))) (Int.le_of_lt (pow_pos _))
/-- what is told is told exactly -/
theorem held_exact {l h : Int} (h0 : 0 ≤ l) (h2 : h ≤ 4096) : exb (lhl l h) (lhh l h) = true := by
  obtain ⟨s1, s2, _⟩ := stp_spec h0 h2
  exact exb_of (lhl_nn h0) (lhh_le h0 h2) s1
theorem exb_iff {l h : Int} : exb l h = true ↔ lhl l h = l ∧ lhh l h = h := by unfold exb; simp
/-- of one of the plain kinds -/
def plainK : D → Bool
  | .loc _ => false
  | .exn _ _ _ => false
  | _ => true
theorem typed_of {d : D} (h : plainK d = true) (S : Store) : Typed S d := by
  cases d <;> first | exact ⟨_, rfl⟩ | simp [plainK] at h
/-! of numbers -/
theorem bnd_int {l h : Int} (h0 : 0 ≤ l) (h1 : l < h) (h2 : h ≤ 4096) : bnd (.int l) (.int h) = some (l, h) := by simp [bnd, h0, h1, h2]
theorem is_exact_int {l h : Int} {S : Store} (h0 : 0 ≤ l) (h1 : l < h) (h2 : h ≤ 4096) : g_is_exact [.int l, .int h] S = .ok (.bl (exb l h)) S := by
  have e := is_exact_eq (S := S) (a := .int l) (b := .int h) ⟨_, rfl⟩ ⟨_, rfl⟩
  rw [bnd_int h0 h1 h2] at e
  exact e
theorem greatest_int {l h : Int} {S : Store} (h0 : 0 ≤ l) (h1 : l < h) (h2 : h ≤ 4096) : g_greatest_high [.int l, .int h] S = .ok (.int (gh l (h - l - 1).toNat h)) S := by
  have e := greatest_eq (S := S) (a := .int l) (b := .int h) ⟨_, rfl⟩ ⟨_, rfl⟩
  rw [bnd_int h0 h1 h2] at e
  exact e
theorem room_int {m : Int} {S : Store} (h1 : 1 ≤ m) (h2 : m ≤ 4096) : g_room_of [.int m] S = .ok (rm m) S := by
  have e := room_eq (S := S) (a := .int m) ⟨_, rfl⟩
  have e' : isR (.int m) = some m := by simp [isR, h1, h2]
  rw [e'] at e
  exact e
end Lw
namespace Lw
open PySem PySem.Spec L2 Ev
theorem law_least_eq {l h : Int} {S : Store} (h0 : 0 ≤ l) (h1 : l < h) (h2 : h ≤ 4096) : g_law_least [.int l, .int h] S = .ok (.tup [.int (lhl l h), .int (lhh l h), .int (stp l h)]) S := by
  have lp := while_fnd (tc := rTest (rBin gtD (rBin subD (rBin shrD (rBin subD (rVar 1) (rCon (.int 1))) (rVar 2)) (rBin shrD (rVar 0) (rVar 2))) (rCon (.int 15)))) (body := lb1_law_least)
    (E := fun s => [some (.int l), some (.int h), some (.int (s : Nat))]) (S := S) (c := fun s => decide (16 < cnt l h s)) 8
    (fun s _ => by
      have e : (15 < (h - 1) / 2 ^ s - l / 2 ^ s) ↔ 16 < cnt l h s := by
        unfold cnt; rw [← cdv_pred (h := h) s]; omega
      simp [e]) (fun s _ => by simp [lb1_law_least]) 8 0 20 (by omega) (by have := cnt8 h0 h2; simp; exact this) (by omega)
  rw [← fstep_fnd] at lp
  obtain ⟨s1, s2, _⟩ := stp_spec h0 h2
  have b := cdv_bnd (stp l h) (by omega : 0 < h) h2
  have a := div_bnd (stp l h) h0 (by omega : l ≤ 4096)
  have p1 : powOk (l / 2 ^ stp l h) (stp l h) = true := by unfold powOk; simp; omega
  have p2 : powOk (cdv h (stp l h)) (stp l h) = true := by unfold powOk; simp; omega
  unfold g_law_least runDef m_law_least
  simp only [Int.ofNat_zero] at lp
  rw [show fstep l h 8 0 = stp l h from rfl] at lp
  simp [lp, cdv_pred, p1, p2, lhl, lhh]
theorem law_room_eq {m : Int} {S : Store} (h1 : 1 ≤ m) (h2 : m ≤ 4096) : g_law_room [.int m] S = .ok (rm m) S := by
  have lp := fun x => while_fnd (tc := rTest (rBin ltD (rBin shlD (rCon (.int 16)) (rVar 1)) (rVar 0))) (body := lb1_law_room)
    (E := fun s => [some (.int m), some (.int (s : Nat)), x]) (S := S) (c := fun s => decide (16 < cnt 0 m s)) 8
    (fun s hs => by
      have e : (16 * 2 ^ s < m) ↔ 16 < cnt 0 m s := by
        unfold cnt; rw [Int.zero_ediv, Int.sub_zero]; exact (cdv_gt s 16).symm
      have p : powOk 16 s = true := by unfold powOk; simp; omega
      simp [e, p]) (fun s _ => by simp [lb1_law_room]) 8 0 300 (by omega) (by have := cnt8 (l := 0) (by omega) h2; simp; exact this) (by omega)
  simp only [← fstep_fnd] at lp
  simp only [Int.ofNat_zero, show fstep 0 m 8 0 = stp 0 m from rfl] at lp
  obtain ⟨s1, s2, _⟩ := stp_spec (l := 0) (h := m) (by omega) h2
  have b := cdv_bnd (stp 0 m) (by omega : 0 < m) h2
  generalize hs : stp 0 m = s at *
  have p := pow_pos s
  have c1 := cdv_le (h := m) s
  have c2 := cdv_lt (h := m) s
  have p256 : (2 : Int) ^ s ≤ 256 := by
    have : (2 : Int) ^ s ≤ 2 ^ 8 := by
      have := Nat.pow_le_pow_right (n := 2) (by omega) s2
      exact_mod_cast this
    simpa using this
  have lp2 := while_fnd (tc := rTest (rBin neD (rBin shlD (rBin shrD (rVar 2) (rVar 1)) (rVar 1)) (rVar 2))) (body := lb2_law_room)
    (E := fun i => [some (.int m), some (.int s), some (.int (m + (i : Nat)))]) (S := S) (c := fun i => !((m + (i : Nat)) / 2 ^ s * 2 ^ s == m + (i : Nat))) 257
    (fun i hi => by
      have d : 0 ≤ (m + (i : Nat)) / 2 ^ s := Int.ediv_nonneg (by omega) (Int.le_of_lt (pow_pos s))
      have d2 : (m + (i : Nat)) / 2 ^ s ≤ m + (i : Nat) := Int.ediv_le_self _ (by omega)
      have p : powOk ((m + (i : Nat)) / 2 ^ s) s = true := by unfold powOk; simp; omega
      simp [p]) (fun i _ => by simp [lb2_law_room]; omega) (cdv m s * 2 ^ s - m).toNat 0 300 (by omega)
      (by
        have e : m + ((0 + (cdv m s * 2 ^ s - m).toNat : Nat) : Int) = cdv m s * 2 ^ s := by omega
        simp only [e, div_mul', beq_self_eq_true, Bool.not_true]) (by omega)
  rw [fnd_all _ _ _ (fun t _ ht => by
    simp only [Bool.not_eq_true', beq_eq_false_iff_ne, ne_eq]
    intro e
    have e1 : m + (t : Int) < cdv m s * 2 ^ s := by omega
    rw [← e] at e1
    have e2 := Int.lt_of_mul_lt_mul_right e1 (by omega)
    have e3 : ((m + (t : Int)) / 2 ^ s + 1) * 2 ^ s ≤ cdv m s * 2 ^ s := Int.mul_le_mul_of_nonneg_right (by omega) (by omega)
    rw [Int.add_mul, Int.one_mul, e] at e3
    omega)] at lp2
  have e : m + ((0 + (cdv m s * 2 ^ s - m).toNat : Nat) : Int) = cdv m s * 2 ^ s := by omega
  rw [e] at lp2
  simp only [Int.ofNat_zero, Int.add_zero] at lp2
  unfold g_law_room runDef m_law_room
  simp [lp, lp2, rm, hs]
end Lw
namespace Lw
open PySem PySem.Spec L2 Ev
theorem gh_fnd (l h : Int) : ∀ (n s : Nat), gh l n (h - s) = h - (fnd (fun i => !exb l (h - (i : Nat))) n s : Nat)
  | 0, s => by simp only [gh, fnd]
  | n + 1, s => by
    have ih := gh_fnd l h n (s + 1)
    rw [show h - ((s + 1 : Nat) : Int) = h - (s : Int) - 1 by omega] at ih
    simp only [gh, fnd]
    by_cases e : exb l (h - (s : Int)) = true
    · simp [e]
    · simp only [e, if_false, Bool.not_eq_true] at *
      simp [e, ih]
theorem law_high_eq {l h : Int} {S : Store} (h0 : 0 ≤ l) (h1 : l < h) (h2 : h ≤ 4096) : g_law_high [.int l, .int h] S = .ok (.int (gh l (h - l - 1).toNat h)) S := by
  have lp := while_fnd (tc := rTest (rBin neD (rSl (rCall g_law_least (rCons (rVar 0) (rCons (rVar 1) rNil))) rNoP (rPart (rCon (.int 2)))) (rTup (rCons (rVar 0) (rCons (rVar 1) rNil))))) (body := lb1_law_high)
    (E := fun s => [some (.int l), some (.int (h - (s : Nat)))]) (S := S) (c := fun s => !exb l (h - (s : Nat))) (h - l - 1).toNat
    (fun s hs => by
      have le := law_least_eq (l := l) (h := h - (s : Nat)) (S := S) h0 (by omega) (by omega)
      simp [le, slD, cutD, HT.sIx, PyData.eqvAll, PyData.eqv, exb]
      )
    (fun s hs => by simp [lb1_law_high]; omega) (h - l - 1).toNat 0 5000 (by omega) (by
      have e : h - ((0 + (h - l - 1).toNat : Nat) : Int) = l + 1 := by omega
      simp only [e, ex_one, Bool.not_true]) (by omega)
  have e := gh_fnd l h (h - l - 1).toNat 0
  simp only [Int.ofNat_zero, Int.sub_zero] at e lp
  rw [← e] at lp
  unfold g_law_high runDef m_law_high
  simp [lp]
theorem room_so_ok {S : Store} {n : Nat} {m : Int} (hp : PoolAt S n) (h1 : 1 ≤ m) (h2 : m ≤ 4096) : ∃ S', g_law_room_so [.loc n, .int m] S = .ok (.bl true) S' ∧ PoolAt S' n := by
  have e1 := room_int (S := S) h1 h2
  have e2 := law_room_eq (S := S) h1 h2
  obtain ⟨s1, s2, _⟩ := stp_spec (l := 0) (h := m) (by omega) h2
  have b := cdv_bnd (stp 0 m) (by omega : 0 < m) h2
  unfold rm at e1 e2
  unfold cnt at s1
  rw [Int.zero_ediv, Int.sub_zero] at s1
  obtain ⟨k, hk⟩ := top_mul s2
  generalize hs : stp 0 m = s at *
  have p := pow_pos s
  have hc : cdv m s ≤ k := (cdv_le_iff s k).mpr (by rw [← hk]; exact h2)
  have hsz : cdv m s * 2 ^ s ≤ 4096 := by rw [hk]; exact Int.mul_le_mul_of_nonneg_right hc (by omega)
  have e3 : (4096 - cdv m s * 2 ^ s) / 2 ^ s = k - cdv m s := by
    rw [hk, ← Int.sub_mul, div_mul']
  have hk2 : k ≤ 4096 := by
    have : k * 1 ≤ k * 2 ^ s := Int.mul_le_mul_of_nonneg_left (by omega) (by omega)
    omega
  obtain ⟨r, S1, t1, r0, r1, p1, _⟩ := take_ok (k - cdv m s + 1) hp (by omega) (by omega)
  have pk : powOk r s = true := by unfold powOk; simp; omega
  have hr : (r + cdv m s) * 2 ^ s ≤ k * 2 ^ s := Int.mul_le_mul_of_nonneg_right (by omega) (by omega)
  have hr0 : 0 ≤ r * 2 ^ s := Int.mul_nonneg r0 (by omega)
  have hb0 : 0 < cdv m s * 2 ^ s := Int.mul_pos b.1 p
  have ex := exb_of (a := r) (b := r + cdv m s) (s := s) hr0 (by omega) (by omega)
  rw [Int.add_mul] at ex hr
  have e4 := is_exact_int (S := S1) (l := r * 2 ^ s) (h := r * 2 ^ s + cdv m s * 2 ^ s) hr0 (by omega) (by omega)
  refine ⟨S1, ?_, p1⟩
  unfold g_law_room_so runDef m_law_room_so
  simp [e1, e2, PyData.eqvAll, PyData.eqv, e3, t1, pk, e4, ex, isN]
theorem greats : gh 0 4095 4096 = 4096 ∧ gh 256 3839 4096 = 4096 ∧ gh 1 4094 4096 = 17 := by decide +kernel
end Lw
namespace Lw
open PySem PySem.Spec L2 Ev
theorem turn_ok {x0 x1 x2 x3 x4 x6 x7 x8 : Option D} {n : Nat} {S : Store} (hp : PoolAt S n) :
    ∃ S' y7 y8, lb3_law [x0, x1, x2, x3, x4, some (.loc n), x6, x7, x8] S = .nx [x0, x1, x2, x3, x4, some (.loc n), x6, y7, y8] S' ∧ PoolAt S' n := by
  obtain ⟨r0, S0, t0, a0, b0, p0, _⟩ := take_ok 4096 hp (by omega) (by omega)
  obtain ⟨S1, t1, p1⟩ := room_so_ok (m := 1 + r0) p0 (by omega) (by omega)
  obtain ⟨r2, S2, t2, a2, b2, p2, _⟩ := take_ok 4096 p1 (by omega) (by omega)
  obtain ⟨r3, S3, t3, a3, b3, p3, _⟩ := take_ok 256 p2 (by omega) (by omega)
  obtain ⟨r4, S4, t4, a4, b4, p4, _⟩ := take_ok 4 p3 (by omega) (by omega)
  obtain ⟨r5, S5, t5, a5, b5, p5, _⟩ := take_ok 300 p4 (by omega) (by omega)
  obtain ⟨r6, S6, t6, a6, b6, p6, _⟩ := take_ok 4096 p5 (by omega) (by omega)
  obtain ⟨r7, S7, t7, a7, b7, p7, _⟩ := take_ok 2 p6 (by omega) (by omega)
  obtain ⟨d, hd, hm⟩ := atI_mem (xs := [D.int 0, .int 32, .int r2, .int (16 * r3)]) a4 (by simpa using b4)
  obtain ⟨d2, hd2, hm2⟩ := atI_mem (xs := [D.int r5, .int r6]) a7 (by simpa using b7)
  obtain ⟨l, rfl, l0, l1⟩ : ∃ l, d = .int l ∧ 0 ≤ l ∧ l ≤ 4095 := by
    simp only [List.mem_cons, List.not_mem_nil, or_false] at hm
    rcases hm with rfl | rfl | rfl | rfl <;> exact ⟨_, rfl, by omega, by omega⟩
  obtain ⟨q, rfl, q0⟩ : ∃ l, d2 = .int l ∧ 0 ≤ l := by
    simp only [List.mem_cons, List.not_mem_nil, or_false] at hm2
    rcases hm2 with rfl | rfl <;> exact ⟨_, rfl, by omega⟩
  have m16 : mulOk 16 r3 = true := mulOk_of (by omega) (by omega)
  generalize hh : (if l + 1 + q < 4096 then l + 1 + q else 4096) = h
  have hh2 : l < h ∧ h ≤ 4096 := by rw [← hh]; split <;> omega
  have e1 := greatest_int (S := S7) l0 hh2.1 hh2.2
  have e2 := law_high_eq (S := S7) l0 hh2.1 hh2.2
  generalize gh l (h - l - 1).toNat h = z at e1 e2
  refine ⟨S7, some (.int l), some (.int h), ?_, p7⟩
  unfold lb3_law
  simp [t0, t1, t2, t3, t4, t5, t6, t7, m16, ixD, hd, hd2, hh, e1, e2]
theorem cell_ok {ns : List Int} {k : Nat} {x1 x2 x3 x5 x6 x7 x8 : Option D} {S : Store} (hk : k < 1000) :
    ∃ S' y5 y6 y7 y8, lb4_law [some (.lst (ns.map D.int)), x1, x2, x3, some (.int k), x5, x6, x7, x8] S = .nx [some (.lst (ns.map D.int)), x1, x2, x3, some (.int k), y5, y6, y7, y8] S' := by
  obtain ⟨a, b, ha, hb, hb2, hp⟩ := pool_ok ns k S (by omega) (by omega)
  have p0 : PoolAt (S ++ [.lst [.int a, .int b]]) S.length := ⟨a, b, by simp, ha, hb, hb2⟩
  obtain ⟨e', S', h1, pS, y6, y7, y8, rfl⟩ := forL_inv (t := .nm 6) (body := lb3_law) (fun e S' => PoolAt S' S.length ∧ ∃ y6 y7 y8, e = [some (.lst (ns.map D.int)), x1, x2, x3, some (.int k), some (.loc S.length), y6, y7, y8]) (rangeD 0 3) (e := [some (.lst (ns.map D.int)), x1, x2, x3, some (.int k), some (.loc S.length), x6, x7, x8]) (S := S ++ [.lst [.int a, .int b]])
    (fun d hd e S' ⟨hS, y6, y7, y8, he⟩ => by
      subst he
      obtain ⟨S2, z7, z8, h2, p2⟩ := turn_ok (x0 := some (.lst (ns.map D.int))) (x1 := x1) (x2 := x2) (x3 := x3) (x4 := some (.int k)) (x6 := some d) (x7 := y7) (x8 := y8) hS
      exact ⟨_, rfl, _, S2, h2, p2, _, _, _, rfl⟩) ⟨p0, _, _, _, rfl⟩
  refine ⟨S', some (.loc S.length), y6, y7, y8, ?_⟩
  unfold lb4_law
  simp [hp, h1]
@[irreducible] def somes : List Int := (List.range 80).map (fun (i : Nat) => 1 + (i : Int)) ++ ((List.range 9).map fun (s : Nat) => [(16 : Int) * 2 ^ s - 1, 16 * 2 ^ s, 16 * 2 ^ s + 1]).flatten
theorem somes_eq : somes.map D.int = rangeD 1 80 ++ [.int (16 * 2 ^ 0 - 1), .int (16 * 2 ^ 0), .int (16 * 2 ^ 0 + 1), .int (16 * 2 ^ 1 - 1), .int (16 * 2 ^ 1), .int (16 * 2 ^ 1 + 1), .int (16 * 2 ^ 2 - 1), .int (16 * 2 ^ 2), .int (16 * 2 ^ 2 + 1), .int (16 * 2 ^ 3 - 1), .int (16 * 2 ^ 3), .int (16 * 2 ^ 3 + 1), .int (16 * 2 ^ 4 - 1), .int (16 * 2 ^ 4), .int (16 * 2 ^ 4 + 1), .int (16 * 2 ^ 5 - 1), .int (16 * 2 ^ 5), .int (16 * 2 ^ 5 + 1), .int (16 * 2 ^ 6 - 1), .int (16 * 2 ^ 6), .int (16 * 2 ^ 6 + 1), .int (16 * 2 ^ 7 - 1), .int (16 * 2 ^ 7), .int (16 * 2 ^ 7 + 1), .int (16 * 2 ^ 8 - 1), .int (16 * 2 ^ 8), .int (16 * 2 ^ 8 + 1)] := by
  unfold somes rangeD
  rw [List.map_append, List.map_map]
  rfl
theorem first_loop (S : Store) (x0 x2 x3 x4 x5 x6 x7 x8 : Option D) : ∃ y2, forL (.nm 2) lb1_law (rangeD 0 9) [x0, some (.lst (rangeD 1 80)), x2, x3, x4, x5, x6, x7, x8] S = .nx [x0, some (.lst (somes.map D.int)), y2, x3, x4, x5, x6, x7, x8] S := by
  have p : ∀ s : Nat, s ≤ 8 → powOk 16 s = true := fun s h => by unfold powOk; simp; omega
  have st : ∀ (xs : List D) (s : Nat) (y2 : Option D), s ≤ 8 → xs.length ≤ 1000 → lb1_law [x0, some (.lst xs), some (.int s), x3, x4, x5, x6, x7, x8] S = .nx [x0, some (.lst (xs ++ [.int (16 * 2 ^ s - 1), .int (16 * 2 ^ s), .int (16 * 2 ^ s + 1)])), some (.int s), x3, x4, x5, x6, x7, x8] S := fun xs s y2 h hl => by
    have hz : xs.length + 3 ≤ sizeLine := by have : 2000 ≤ sizeLine := by decide
                                             omega
    unfold lb1_law
    simp [p s h, addD, hz]
  refine ⟨some (.int ((8 : Nat) : Int)), ?_⟩
  have e : rangeD 0 9 = [.int (0 : Nat), .int (1 : Nat), .int (2 : Nat), .int (3 : Nat), .int (4 : Nat), .int (5 : Nat), .int (6 : Nat), .int (7 : Nat), .int (8 : Nat)] := by rfl
  rw [e]
  simp only [forL, bindT_nm, List.set]
  rw [st _ 0 none (by omega) (by simp [rangeD]), then_nx]
  simp only [forL, bindT_nm, List.set]
  rw [st _ 1 none (by omega) (by simp [rangeD]), then_nx]
  simp only [forL, bindT_nm, List.set]
  rw [st _ 2 none (by omega) (by simp [rangeD]), then_nx]
  simp only [forL, bindT_nm, List.set]
  rw [st _ 3 none (by omega) (by simp [rangeD]), then_nx]
  simp only [forL, bindT_nm, List.set]
  rw [st _ 4 none (by omega) (by simp [rangeD]), then_nx]
  simp only [forL, bindT_nm, List.set]
  rw [st _ 5 none (by omega) (by simp [rangeD]), then_nx]
  simp only [forL, bindT_nm, List.set]
  rw [st _ 6 none (by omega) (by simp [rangeD]), then_nx]
  simp only [forL, bindT_nm, List.set]
  rw [st _ 7 none (by omega) (by simp [rangeD]), then_nx]
  simp only [forL, bindT_nm, List.set]
  rw [st _ 8 none (by omega) (by simp [rangeD]), then_nx]
  simp only [forL, somes_eq, List.append_assoc, List.cons_append, List.nil_append]
theorem somes_pos : ∀ m ∈ somes, 1 ≤ m ∧ m < 2147483647 := by decide +kernel
theorem second_loop (S : Store) (x0 x1 x2 x3 x4 x5 x6 x7 x8 : Option D) : ∃ S' y3, forL (.nm 3) lb2_law (somes.map D.int) [x0, x1, x2, x3, x4, x5, x6, x7, x8] S = .nx [x0, x1, x2, y3, x4, x5, x6, x7, x8] S' := by
  obtain ⟨e', S', h1, y3, rfl⟩ := forL_inv (t := .nm 3) (body := lb2_law) (fun e _ => ∃ y3, e = [x0, x1, x2, y3, x4, x5, x6, x7, x8]) (somes.map D.int) (e := [x0, x1, x2, x3, x4, x5, x6, x7, x8]) (S := S)
    (fun d hd e S ⟨y3, he⟩ => by
      obtain ⟨m, hm, rfl⟩ := List.mem_map.mp hd
      obtain ⟨m1, m2⟩ := somes_pos m hm
      subst he
      by_cases h : m ≤ 4096
      · have hp : PoolAt (S ++ [.lst [.int 0, .int m]]) S.length := ⟨0, m, by simp, by omega, by omega, m2⟩
        obtain ⟨S1, e1, _⟩ := room_so_ok hp m1 h
        refine ⟨_, rfl, [x0, x1, x2, some (.int m), x4, x5, x6, x7, x8], S1, ?_, _, rfl⟩
        unfold lb2_law
        simp [h, e1]
      · refine ⟨_, rfl, [x0, x1, x2, some (.int m), x4, x5, x6, x7, x8], S, ?_, _, rfl⟩
        unfold lb2_law
        simp [h]) ⟨_, rfl⟩
  exact ⟨S', y3, h1⟩
theorem g0_eq {S : Store} : g_greatest_high [.int 0, .int 4096] S = .ok (.int 4096) S := by
  rw [greatest_int (by omega) (by omega) (by omega)]
  have e : ((4096 : Int) - 0 - 1).toNat = 4095 := by decide
  rw [e, greats.1]
theorem g256_eq {S : Store} : g_greatest_high [.int 256, .int 4096] S = .ok (.int 4096) S := by
  rw [greatest_int (by omega) (by omega) (by omega)]
  have e : ((4096 : Int) - 256 - 1).toNat = 3839 := by decide
  rw [e, greats.2.1]
theorem g1_eq {S : Store} : g_greatest_high [.int 1, .int 4096] S = .ok (.int 17) S := by
  rw [greatest_int (by omega) (by omega) (by omega)]
  have e : ((4096 : Int) - 1 - 1).toNat = 4094 := by decide
  rw [e, greats.2.2]
theorem r81_eq : rgD ran2 ([] : Store) [.int 1, .int 81] = some (.lst (rangeD 1 80)) := by
  have e : ((81 : Int) - 1).toNat = 80 := by decide
  unfold rgD
  rw [ran2_int, if_pos (by decide), Option.bind_some, e, if_pos (by unfold rangeD; rw [List.length_map, List.length_range]; decide)]
theorem law_true (ns : List Int) (hl : ns.length ≤ 63) : ∃ S, g_law [.lst (ns.map D.int)] [] = .ok (.bl true) S := by
  obtain ⟨m, hm, hr⟩ := ran_cells ns.length 8 (by omega) (by omega)
  obtain ⟨y2, f1⟩ := first_loop [] (some (.lst (ns.map D.int))) none none none none none none none
  obtain ⟨S2, y3, f2⟩ := second_loop [] (some (.lst (ns.map D.int))) (some (.lst (somes.map D.int))) y2 none none none none none none
  obtain ⟨e', S', h1, y4, y5, y6, y7, y8, rfl⟩ := forL_inv (t := .nm 4) (body := lb4_law) (fun e S' => ∃ y4 y5 y6 y7 y8, e = [some (.lst (ns.map D.int)), some (.lst (somes.map D.int)), y2, y3, y4, y5, y6, y7, y8]) (rangeD 0 m) (e := [some (.lst (ns.map D.int)), some (.lst (somes.map D.int)), y2, y3, none, none, none, none, none]) (S := S2)
    (fun d hd e S' ⟨y4, y5, y6, y7, y8, he⟩ => by
      obtain ⟨i, hi, rfl⟩ := mem_rangeD hd
      subst he
      rw [Int.zero_add]
      obtain ⟨S3, z5, z6, z7, z8, h2⟩ := cell_ok (ns := ns) (k := i) (x1 := some (.lst (somes.map D.int))) (x2 := y2) (x3 := y3) (x5 := y5) (x6 := y6) (x7 := y7) (x8 := y8) (S := S') (by omega)
      exact ⟨_, rfl, _, S3, h2, _, _, _, _, _, rfl⟩) ⟨_, _, _, _, _, rfl⟩
  refine ⟨S', ?_⟩
  have g1 := g0_eq (S := S2)
  have g2 := g256_eq (S := S2)
  have g3 := g1_eq (S := S2)
  have r1 := r81_eq
  unfold g_law runDef m_law
  simp at hr
  simp [r1, f1, f2, g1, g2, g3, PyData.eqvAll, PyData.eqv, hr, h1]
end Lw
open PySem PySem.W PyProof.Rows
set_option maxHeartbeats 0 in
theorem PySem.Challenge.cw_sealedreach_k08_rooms_and_greatest_highs_holds : PySem.Challenge.rw_sealedreach_k08_rooms_and_greatest_highs.Holds := by
  w_on; o_law; k_head; (case hw => w_witness2)
  k_fill
  refine Ev.walk_ev (l := PySem.Challenge.rw_sealedreach_k08_rooms_and_greatest_highs) (n := 63) (k := 5) (x := "_law_script") (g := Lw.g_law) rfl (by decide) rfl ⟨rfl, by decide, by decide⟩ (fun w h Y => PySem.W.kIn_of Y) ?F Lw.law_true
  case F =>
    intro w mg fa h KX G hmg
    refine' Lw.all_mk KX G hmg ?a0 ?l0 ?o0 ?p0 ?a1 ?l1 ?o1 ?p1 ?a2 ?l2 ?o2 ?p2 ?a3 ?l3 ?o3 ?p3 ?a4 ?l4 ?o4 ?p4 ?a5 ?l5 ?o5 ?p5 ?a6 ?l6 ?o6 ?p6 ?a7 ?l7 ?o7 ?p7 ?a8 ?l8 ?o8 ?p8 ?a9 ?l9 ?o9 ?p9 ?a10 ?l10 ?o10 ?p10 ?a11 ?l11 ?o11 ?p11 ?a12 ?l12 ?o12 ?p12 ?a13 ?l13 ?o13 ?p13 ?a14 ?l14 ?o14 ?p14 ?k_CELLS ?k_MOST_COUNT ?z_abs ?z_bool ?z_int ?z_isinstance ?z_len ?z_list ?z_max ?z_min ?z_range ?z_sum ?z_tuple ?g_ReachError ?g_NoBounds ?x_NoBounds ?p_NoBounds ?u_NoBounds ?y_NoBounds
    (case a0 => first | k_is | rfl); (case l0 => first | k_is | rfl); (case o0 => first | k_is | rfl); (case p0 => first | k_is | rfl); (case a1 => first | k_is | rfl); (case l1 => first | k_is | rfl)
    (case o1 => first | k_is | rfl); (case p1 => first | k_is | rfl); (case a2 => first | k_is | rfl); (case l2 => first | k_is | rfl); (case o2 => first | k_is | rfl); (case p2 => first | k_is | rfl)
    (case a3 => first | k_is | rfl); (case l3 => first | k_is | rfl); (case o3 => first | k_is | rfl); (case p3 => first | k_is | rfl); (case a4 => first | k_is | rfl); (case l4 => first | k_is | rfl)
    (case o4 => first | k_is | rfl); (case p4 => first | k_is | rfl); (case a5 => first | k_is | rfl); (case l5 => first | k_is | rfl); (case o5 => first | k_is | rfl); (case p5 => first | k_is | rfl)
    (case a6 => first | k_is | rfl); (case l6 => first | k_is | rfl); (case o6 => first | k_is | rfl); (case p6 => first | k_is | rfl); (case a7 => first | k_is | rfl); (case l7 => first | k_is | rfl)
    (case o7 => first | k_is | rfl); (case p7 => first | k_is | rfl); (case a8 => first | k_is | rfl); (case l8 => first | k_is | rfl); (case o8 => first | k_is | rfl); (case p8 => first | k_is | rfl)
    (case a9 => first | k_is | rfl); (case l9 => first | k_is | rfl); (case o9 => first | k_is | rfl); (case p9 => first | k_is | rfl); (case a10 => first | k_is | rfl); (case l10 => first | k_is | rfl)
    (case o10 => first | k_is | rfl); (case p10 => first | k_is | rfl); (case a11 => first | k_is | rfl); (case l11 => first | k_is | rfl); (case o11 => first | k_is | rfl); (case p11 => first | k_is | rfl)
    (case a12 => first | k_is | rfl); (case l12 => first | k_is | rfl); (case o12 => first | k_is | rfl); (case p12 => first | k_is | rfl); (case a13 => first | k_is | rfl); (case l13 => first | k_is | rfl)
    (case o13 => first | k_is | rfl); (case p13 => first | k_is | rfl); (case a14 => first | k_is | rfl); (case l14 => first | k_is | rfl); (case o14 => first | k_is | rfl); (case p14 => first | k_is | rfl)
    (case k_CELLS => first | k_is | rfl); (case k_MOST_COUNT => first | k_is | rfl); (case z_abs => first | k_is | rfl); (case z_bool => first | k_is | rfl); (case z_int => first | k_is | rfl); (case z_isinstance => first | k_is | rfl)
    (case z_len => first | k_is | rfl); (case z_list => first | k_is | rfl); (case z_max => first | k_is | rfl); (case z_min => first | k_is | rfl); (case z_range => first | k_is | rfl); (case z_sum => first | k_is | rfl)
    (case z_tuple => first | k_is | rfl); (case g_ReachError => first | k_is | rfl); (case g_NoBounds => first | k_is | rfl); (case x_NoBounds => k_exc); (case p_NoBounds => first | k_is | rfl); (case u_NoBounds => first | k_is | rfl)
    (case y_NoBounds => first | k_is | rfl)
