import PyProof.Rows.All
import Wide.All
import OpenK.AllK
import Wide.FinOn
import HandS.ForMost
import HandS.ForExc
import HandS.IsInst
import HandS.Flow
import HandS.TupLe
import HandS.TupAny
import HandS.WideBits
import HandS.Wide
import HandS.Style
import KE.DataEq
import HandS.ExcIs
import HandS.EndBits
import KE.KExcIs
import PyProof.Draws
import PyProof.EnumMake
import HandS.Zip
import HandS.Text
import HandS.Conv
import HandS.Replace
import KE.DatumIndex
import PyProof.ReprRoads
import HandS.Defaults
import HandS.TryOnly
import PyProof.ListStr
import KE.KBits
import PyProof.StrLawsRepr
import PyProof.FitsInt
import PySem.Challenge.RW_sealedreach_k14_whole_whatever_is_made_l
set_option Elab.async false
set_option linter.all false
set_option maxRecDepth 100000
set_option maxHeartbeats 4000000
namespace Ev
open PySem PySem.Spec PyProof.Rows L2

/-! ### values, stores, results -/
inductive D where
  | non
  | bl (b : Bool)
  | int (i : Int)
  | str (x : Str)
  | tup (xs : List D)
  | lst (xs : List D)
  | dct (ks : List Key) (xs : List D)
  | loc (n : Nat)
  | exn (c : Nat) (ns : List Str) (xs : List D)
  deriving Inhabited
inductive MO where
  | lst (xs : List D)
  | dK (ks : List Key) (xs : List D)
  | ins (c : Nat) (ns : List Str) (xs : List D)
abbrev Store := List MO
abbrev Env := List (Option D)
structure Exn where
  c : Nat
  ns : List Str
  xs : List D
inductive Res (A : Type) where
  | ok (a : A) (S : Store)
  | err (x : Exn) (S : Store)
  | bad
def Res.bind {A B : Type} : Res A → (A → Store → Res B) → Res B
  | .ok a S, f => f a S
  | .err x S, _ => .err x S
  | .bad, _ => .bad
def ofO {A : Type} : Option A → Store → Res A
  | some a, S => .ok a S
  | none, _ => .bad

/-! ### what a value stands for -/
/-- where the store objects stand; what else is kept aside (a list that a comprehension fills) -/
structure Io where
  l : List Addr
  h : List (Addr × HO)
def Io.all (io : Io) : List Addr := io.l ++ io.h.map (·.1)
/-- the part of the heap that no store object stands in -/
def Fz (io : Io) (H : Hp) : Hp := fun a => if a ∈ io.all then none else H a
theorem Fz_out {io : Io} {H : Hp} {a : Addr} (h : a ∉ io.all) : Fz io H a = H a := by unfold Fz; rw [if_neg h]
theorem Fz_in {io : Io} {H : Hp} {a : Addr} (h : a ∈ io.all) : Fz io H a = none := by unfold Fz; rw [if_pos h]
theorem Fz_same (io : Io) (H : Hp) : Same (Fz io H) H := fun b o e => by
  unfold Fz at e
  split at e
  · cases e
  · exact e
theorem sqT_same {K : PySem.W.Frag} {H H' : Hp} {a : Addr} {xs : List V} (e : Same H H') (h : SqT K H a xs) : SqT K H' a xs := by
  rcases h with (h | ⟨o, h⟩) | h
  · exact .inl (.inl (e _ _ h))
  · exact .inl (.inr ⟨o, e _ _ h⟩)
  · exact .inr h

/-- an exception that was caught: its class, its own dict -/
def exH (a : Addr) (cls : Value) (d : Option Addr) : HO := .ext fun h => ∃ oe vs, h.get? a = some oe ∧ oe.cls = cls ∧ oe.dict = d ∧ oe.data = .fields vs
variable (K : PySem.W.Frag) (C : Nat → Addr)
mutual
inductive Rep (io : Io) (F : Hp) : D → V → Prop
  | non : Rep io F .non .non
  | bl (b : Bool) : Rep io F (.bl b) (.bl b)
  | int (i : Int) : Rep io F (.int i) (.int i)
  | str (x : Str) : Rep io F (.str x) (.str x)
  | tup {a : Addr} {vs : List V} {ds : List D} : SqT K F a vs → Reps io F ds vs → Rep io F (.tup ds) (.ref a)
  | lst {a : Addr} {vs : List V} {ds : List D} : SqL K F a vs → Reps io F ds vs → Rep io F (.lst ds) (.ref a)
  | dct {a : Addr} {kvs : List (Key × V)} {ks : List Key} {vs : List V} {ds : List D} : F a = some (.dK kvs) → kvs.map (·.1) = ks → kvs.map (·.2) = vs → Reps io F ds vs → Rep io F (.dct ks ds) (.ref a)
  | loc {n : Nat} {a : Addr} : io.l[n]? = some a → Rep io F (.loc n) (.ref a)
  | exn0 {c : Nat} {a : Addr} : F a = some (exH a (.ref (C c)) none) → Rep io F (.exn c [] []) (.ref a)
  | exnF {c : Nat} {a d : Addr} {fs : List (Str × V)} {ns : List Str} {vs : List V} {ds : List D} : F a = some (exH a (.ref (C c)) (some d)) → F d = some (.xd fs) → fs.map (·.1) = ns → fs.map (·.2) = vs → Reps io F ds vs → Rep io F (.exn c ns ds) (.ref a)
inductive Reps (io : Io) (F : Hp) : List D → List V → Prop
  | nil : Reps io F [] []
  | cons {d : D} {ds : List D} {v : V} {vs : List V} : Rep io F d v → Reps io F ds vs → Reps io F (d :: ds) (v :: vs)
end
variable {K C}
/-- the world goes on: more store objects, more that stands still -/
structure Ext (io : Io) (H : Hp) (io' : Io) (H' : Hp) : Prop where
  pre : ∀ (n : Nat) (a : Addr), io.l[n]? = some a → io'.l[n]? = some a
  hid : io'.h = io.h
  same : Same (Fz io H) (Fz io' H')
theorem Ext.refl (io : Io) (H : Hp) : Ext io H io H := ⟨fun _ _ h => h, rfl, fun _ _ h => h⟩
theorem Ext.trans {io io1 io2 : Io} {H H1 H2 : Hp} (a : Ext io H io1 H1) (b : Ext io1 H1 io2 H2) : Ext io H io2 H2 :=
  ⟨fun n x h => b.pre n x (a.pre n x h), b.hid.trans a.hid, a.same.trans b.same⟩
mutual
theorem Rep.mono {io io' : Io} {F F' : Hp} (hp : ∀ (n : Nat) (a : Addr), io.l[n]? = some a → io'.l[n]? = some a) (hs : Same F F') : ∀ {d : D} {v : V}, Rep K C io F d v → Rep K C io' F' d v
  | _, _, .non => .non
  | _, _, .bl b => .bl b
  | _, _, .int i => .int i
  | _, _, .str x => .str x
  | _, _, .tup h r => .tup (sqT_same hs h) (Reps.mono hp hs r)
  | _, _, .lst h r => .lst (hs.seq h) (Reps.mono hp hs r)
  | _, _, .dct h e1 e2 r => .dct (hs _ _ h) e1 e2 (Reps.mono hp hs r)
  | _, _, .loc h => .loc (hp _ _ h)
  | _, _, .exn0 h => .exn0 (hs _ _ h)
  | _, _, .exnF h h2 e1 e2 r => .exnF (hs _ _ h) (hs _ _ h2) e1 e2 (Reps.mono hp hs r)
theorem Reps.mono {io io' : Io} {F F' : Hp} (hp : ∀ (n : Nat) (a : Addr), io.l[n]? = some a → io'.l[n]? = some a) (hs : Same F F') : ∀ {ds : List D} {vs : List V}, Reps K C io F ds vs → Reps K C io' F' ds vs
  | _, _, .nil => .nil
  | _, _, .cons h r => .cons (Rep.mono hp hs h) (Reps.mono hp hs r)
end
theorem Rep.ext {io io' : Io} {H H' : Hp} (e : Ext io H io' H') {d : D} {v : V} (r : Rep K C io (Fz io H) d v) : Rep K C io' (Fz io' H') d v := r.mono e.pre e.same
theorem Reps.ext {io io' : Io} {H H' : Hp} (e : Ext io H io' H') {d : List D} {v : List V} (r : Reps K C io (Fz io H) d v) : Reps K C io' (Fz io' H') d v := r.mono e.pre e.same
theorem Reps.length {io : Io} {F : Hp} : ∀ {ds : List D} {vs : List V}, Reps K C io F ds vs → ds.length = vs.length
  | _, _, .nil => rfl
  | _, _, .cons _ r => by simp [Reps.length r]
theorem Reps.get {io : Io} {F : Hp} : ∀ {ds : List D} {vs : List V} {i : Nat} {d : D}, Reps K C io F ds vs → ds[i]? = some d → ∃ v, vs[i]? = some v ∧ Rep K C io F d v
  | _, _, 0, _, .cons h _, e => by simp at e; subst e; exact ⟨_, rfl, h⟩
  | _, _, i + 1, d, .cons _ r, e => by
    obtain ⟨v, h1, h2⟩ := Reps.get (i := i) (d := d) r (by simpa using e)
    exact ⟨v, by simpa using h1, h2⟩
theorem Reps.getV {io : Io} {F : Hp} : ∀ {ds : List D} {vs : List V} {i : Nat} {v : V}, Reps K C io F ds vs → vs[i]? = some v → ∃ d, ds[i]? = some d ∧ Rep K C io F d v
  | _, _, 0, _, .cons h _, e => by simp at e; subst e; exact ⟨_, rfl, h⟩
  | _, _, i + 1, d, .cons _ r, e => by
    obtain ⟨v, h1, h2⟩ := Reps.getV (i := i) (v := d) r (by simpa using e)
    exact ⟨v, by simpa using h1, h2⟩
theorem Reps.append {io : Io} {F : Hp} : ∀ {ds es : List D} {vs us : List V}, Reps K C io F ds vs → Reps K C io F es us → Reps K C io F (ds ++ es) (vs ++ us)
  | _, _, _, _, .nil, s => s
  | _, _, _, _, .cons h r, s => .cons h (Reps.append r s)
theorem Reps.set {io : Io} {F : Hp} {d : D} {v : V} (h : Rep K C io F d v) : ∀ {ds : List D} {vs : List V} (i : Nat), Reps K C io F ds vs → Reps K C io F (ds.set i d) (vs.set i v)
  | _, _, _, .nil => .nil
  | _, _, 0, .cons _ r => .cons h r
  | _, _, i + 1, .cons q r => .cons q (Reps.set h i r)
theorem Reps.take {io : Io} {F : Hp} : ∀ {ds : List D} {vs : List V} (n : Nat), Reps K C io F ds vs → Reps K C io F (ds.take n) (vs.take n)
  | _, _, 0, _ => .nil
  | _, _, _ + 1, .nil => .nil
  | _, _, n + 1, .cons h r => .cons h (Reps.take n r)
theorem Reps.drop {io : Io} {F : Hp} : ∀ {ds : List D} {vs : List V} (n : Nat), Reps K C io F ds vs → Reps K C io F (ds.drop n) (vs.drop n)
  | _, _, 0, r => r
  | _, _, _ + 1, .nil => .nil
  | _, _, n + 1, .cons _ r => Reps.drop n r

/-! ### the store -/
variable (K C) in
def ORep (io : Io) (H : Hp) (a : Addr) : MO → Prop
  | .lst ds => ∃ vs, H a = some (.lst vs) ∧ Reps K C io (Fz io H) ds vs
  | .dK ks ds => ∃ kvs, H a = some (.dK kvs) ∧ kvs.map (·.1) = ks ∧ Reps K C io (Fz io H) ds (kvs.map (·.2))
  | .ins c ns ds => ∃ dx fs, H a = some (.ins (C c) dx fs) ∧ H dx = some (.own a) ∧ fs.map (·.1) = ns ∧ Reps K C io (Fz io H) ds (fs.map (·.2))
/-- what a store object's thing is -/
def isMut : HO → Bool
  | .lst _ => true
  | .dK _ => true
  | .ins _ _ _ => true
  | _ => false
variable (K C) in
structure Den (io : Io) (S : Store) (H : Hp) : Prop where
  len : io.l.length = S.length
  nd : io.all.Nodup
  obj : ∀ (n : Nat) (o : MO) (a : Addr), S[n]? = some o → io.l[n]? = some a → ORep K C io H a o
  hid : ∀ p ∈ io.h, H p.1 = some p.2 ∧ isMut p.2 = true
theorem ORep.at {io : Io} {H : Hp} {a : Addr} {o : MO} (h : ORep K C io H a o) : ∃ u, H a = some u ∧ isMut u = true := by
  cases o with
  | lst ds => obtain ⟨vs, e, _⟩ := h; exact ⟨_, e, rfl⟩
  | dK ks ds => obtain ⟨vs, e, _⟩ := h; exact ⟨_, e, rfl⟩
  | ins c ns ds => obtain ⟨_, _, e, _⟩ := h; exact ⟨_, e, rfl⟩
theorem Den.at {io : Io} {S : Store} {H : Hp} (d : Den K C io S H) {a : Addr} (h : a ∈ io.all) : ∃ u, H a = some u ∧ isMut u = true := by
  rcases List.mem_append.mp h with h | h
  · obtain ⟨n, hn, e⟩ := List.getElem_of_mem h
    have hS : n < S.length := by rw [← d.len]; exact hn
    exact (d.obj n S[n] a (by simp [hS]) (by simp [hn, e])).at
  · obtain ⟨p, hp, rfl⟩ := List.mem_map.mp h
    exact ⟨p.2, d.hid p hp⟩
theorem Den.fresh {io : Io} {S : Store} {H : Hp} (d : Den K C io S H) {p : Addr} (h : H p = none) : p ∉ io.all := fun z => by
  obtain ⟨u, e, _⟩ := d.at z
  rw [h] at e; cases e
theorem Den.notOwn {io : Io} {S : Store} {H : Hp} (d : Den K C io S H) {p x : Addr} (h : H p = some (.own x)) : p ∉ io.all := fun z => by
  obtain ⟨u, e, m⟩ := d.at z
  rw [h] at e; cases e; cases m
theorem mem_all {io : Io} {n : Nat} {a : Addr} (h : io.l[n]? = some a) : a ∈ io.all := List.mem_append_left _ (List.mem_of_getElem? h)
/-- a new thing that stands still -/
theorem Fz_upd_new {io : Io} {H : Hp} {p : Addr} {o : HO} (hp : p ∉ io.all) : Fz io (upd H p o) = upd (Fz io H) p o := by
  funext b
  unfold Fz upd
  by_cases e : b = p
  · subst e; simp [hp]
  · simp [e]
theorem Fz_upd_old {io : Io} {H : Hp} {p : Addr} {o : HO} (hp : p ∈ io.all) : Fz io (upd H p o) = Fz io H := by
  funext b
  unfold Fz upd
  by_cases e : b = p
  · subst e; simp [hp]
  · simp [e]
/-- a further place -/
def Io.add (io : Io) (p : Addr) : Io := ⟨io.l ++ [p], io.h⟩
theorem mem_add {io : Io} {p b : Addr} : b ∈ (io.add p).all ↔ b = p ∨ b ∈ io.all := by
  unfold Io.add Io.all
  simp only [List.mem_append, List.mem_singleton]
  constructor
  · rintro ((h | h) | h)
    · exact .inr (.inl h)
    · exact .inl h
    · exact .inr (.inr h)
  · rintro (h | h | h)
    · exact .inl (.inr h)
    · exact .inl (.inl h)
    · exact .inr h
theorem Fz_upd_loc {io : Io} {H : Hp} {p : Addr} {o : HO} (hp : H p = none) : Fz (io.add p) (upd H p o) = Fz io H := by
  funext b
  unfold Fz upd
  simp only [mem_add]
  by_cases e : b = p
  · subst e; simp [hp]
  · simp [e]
theorem same_new {H : Hp} {p : Addr} {o : HO} (h : H p = none) : Same H (upd H p o) := fun b x e => by
  rw [upd_ne (ne_of_none e h)]; exact e
theorem Ext.new {io : Io} {S : Store} {H : Hp} {p : Addr} {o : HO} (d : Den K C io S H) (h : H p = none) : Ext io H io (upd H p o) :=
  ⟨fun _ _ e => e, rfl, by rw [Fz_upd_new (d.fresh h)]; exact same_new (by rw [Fz_out (d.fresh h)]; exact h)⟩
/-- an object that is left as it is -/
theorem ORep.mono {io io' : Io} {S : Store} {H H' : Hp} {a : Addr} {o : MO} (d : Den K C io S H) (e : Ext io H io' H') (ha : H' a = H a) (h : ORep K C io H a o) : ORep K C io' H' a o := by
  cases o with
  | lst ds => obtain ⟨vs, q, r⟩ := h; exact ⟨vs, by rw [ha]; exact q, r.ext e⟩
  | dK ks ds => obtain ⟨vs, q, q2, r⟩ := h; exact ⟨vs, by rw [ha]; exact q, q2, r.ext e⟩
  | ins c ns ds =>
    obtain ⟨dx, fs, q, q1, q2, r⟩ := h
    refine ⟨dx, fs, by rw [ha]; exact q, ?_, q2, r.ext e⟩
    exact Fz_same _ _ _ _ (e.same dx _ (by rw [Fz_out (d.notOwn q1)]; exact q1))
theorem hid_mem {io : Io} {p : Addr × HO} (h : p ∈ io.h) : p.1 ∈ io.all := List.mem_append_right _ (List.mem_map.mpr ⟨p, h, rfl⟩)
/-- a new frozen thing: the store is as it was -/
theorem Den.new {io : Io} {S : Store} {H : Hp} {p : Addr} {o : HO} (d : Den K C io S H) (h : H p = none) : Den K C io S (upd H p o) :=
  ⟨d.len, d.nd, fun n x a e1 e2 => by
    have e : a ≠ p := fun z => d.fresh h (z ▸ mem_all e2)
    exact (d.obj n x a e1 e2).mono d (Ext.new d h) (upd_ne e), fun q hq => by
    have e : q.1 ≠ p := fun z => d.fresh h (z ▸ hid_mem hq)
    rw [upd_ne e]; exact d.hid q hq⟩
/-- a new store object -/
theorem Ext.loc {io : Io} {H : Hp} {p : Addr} {o : HO} (h : H p = none) : Ext io H (io.add p) (upd H p o) :=
  ⟨fun n a e => by
    have := (List.getElem?_eq_some_iff.mp e).1
    show (io.l ++ [p])[n]? = some a
    rw [List.getElem?_append_left this]; exact e, rfl, by rw [Fz_upd_loc h]; exact fun _ _ e => e⟩
theorem nodup_add {io : Io} {p : Addr} (nd : io.all.Nodup) (h : p ∉ io.all) : (io.add p).all.Nodup := by
  unfold Io.add Io.all at *
  simp only [List.mem_append, not_or] at h
  rw [List.append_assoc]
  rw [List.nodup_append] at nd ⊢
  refine ⟨nd.1, ?_, fun a ha b hb => ?_⟩
  · rw [List.singleton_append, List.nodup_cons]
    exact ⟨h.2, nd.2.1⟩
  · rw [List.singleton_append, List.mem_cons] at hb
    rcases hb with rfl | hb
    · exact fun z => h.1 (z ▸ ha)
    · exact nd.2.2 a ha b hb
theorem Den.loc {io : Io} {S : Store} {H : Hp} {p : Addr} {o : HO} {m : MO} (d : Den K C io S H) (h : H p = none) (hm : ORep K C (io.add p) (upd H p o) p m) : Den K C (io.add p) (S ++ [m]) (upd H p o) := by
  refine ⟨by simp [Io.add, d.len], nodup_add d.nd (d.fresh h), fun n x a e1 e2 => ?_, fun q hq => ?_⟩
  · have e2' : (io.l ++ [p])[n]? = some a := e2
    by_cases hn : n < io.l.length
    · rw [List.getElem?_append_left hn] at e2'
      rw [List.getElem?_append_left (by rw [← d.len]; exact hn)] at e1
      have e : a ≠ p := fun z => d.fresh h (z ▸ mem_all e2')
      exact (d.obj n x a e1 e2').mono d (Ext.loc h) (upd_ne e)
    · have h1 : n = io.l.length := by
        have := (List.getElem?_eq_some_iff.mp e2').1
        simp at this; omega
      subst h1
      rw [List.getElem?_append_right (Nat.le_refl _)] at e2'
      rw [d.len, List.getElem?_append_right (Nat.le_refl _)] at e1
      simp at e1 e2'
      subst e1; subst e2'
      exact hm
  · have hq' : q ∈ io.h := hq
    have e : q.1 ≠ p := fun z => d.fresh h (z ▸ hid_mem hq')
    rw [upd_ne e]; exact d.hid q hq'
/-- a store object is changed -/
theorem Ext.put {io : Io} {H : Hp} {p : Addr} {o : HO} (h : p ∈ io.all) : Ext io H io (upd H p o) :=
  ⟨fun _ _ e => e, rfl, by rw [Fz_upd_old h]; exact fun _ _ e => e⟩
theorem nodup_at {io : List Addr} (nd : io.Nodup) {n m : Nat} {a : Addr} (h1 : io[n]? = some a) (h2 : io[m]? = some a) : n = m := by
  obtain ⟨p1, e1⟩ := List.getElem?_eq_some_iff.mp h1
  obtain ⟨p2, e2⟩ := List.getElem?_eq_some_iff.mp h2
  exact (List.getElem_inj nd).mp (e1.trans e2.symm)
theorem Den.put {io : Io} {S : Store} {H : Hp} {n : Nat} {p : Addr} {o : HO} {m : MO} (d : Den K C io S H) (h : io.l[n]? = some p) (hm : ORep K C io (upd H p o) p m) : Den K C io (S.set n m) (upd H p o) := by
  have nd := List.nodup_append.mp d.nd
  refine ⟨by simp [d.len], d.nd, fun k x a e1 e2 => ?_, fun q hq => ?_⟩
  · by_cases hk : k = n
    · subst hk
      rw [h] at e2
      cases e2
      rw [List.getElem?_set_self (by have := (List.getElem?_eq_some_iff.mp h).1; rw [← d.len]; exact this)] at e1
      cases e1
      exact hm
    · rw [List.getElem?_set_ne (Ne.symm hk)] at e1
      have e : a ≠ p := fun z => hk (nodup_at nd.1 e2 (z ▸ h))
      exact (d.obj k x a e1 e2).mono d (Ext.put (mem_all h)) (upd_ne e)
  · have e : q.1 ≠ p := fun z => nd.2.2 p (List.mem_of_getElem? h) q.1 (List.mem_map.mpr ⟨q, hq, rfl⟩) z.symm
    rw [upd_ne e]; exact d.hid q hq
/-! ### a list that is filled apart -/
def Io.hide (io : Io) (p : Addr) (o : HO) : Io := ⟨io.l, (p, o) :: io.h⟩
theorem mem_hide {io : Io} {p b : Addr} {o : HO} : b ∈ (io.hide p o).all ↔ b = p ∨ b ∈ io.all := by
  unfold Io.hide Io.all
  simp only [List.mem_append, List.map_cons, List.mem_cons]
  constructor
  · rintro (h | h | h)
    · exact .inr (.inl h)
    · exact .inl h
    · exact .inr (.inr h)
  · rintro (h | h | h)
    · exact .inr (.inl h)
    · exact .inl h
    · exact .inr (.inr h)
theorem Fz_hide {io : Io} {H : Hp} {p : Addr} {o u : HO} (hp : H p = none) : Fz (io.hide p o) (upd H p u) = Fz io H := by
  funext b
  unfold Fz upd
  simp only [mem_hide]
  by_cases e : b = p
  · subst e; simp [hp]
  · simp [e]
theorem Fz_hide_put {io : Io} {H : Hp} {p : Addr} {o o' u : HO} : Fz (io.hide p o') (upd H p u) = Fz (io.hide p o) H := by
  funext b
  unfold Fz upd
  simp only [mem_hide]
  by_cases e : b = p
  · subst e; simp
  · simp [e]
theorem nodup_hide {io : Io} {p : Addr} {o : HO} (nd : io.all.Nodup) (h : p ∉ io.all) : (io.hide p o).all.Nodup := by
  unfold Io.hide Io.all at *
  simp only [List.mem_append, not_or] at h
  rw [List.nodup_append] at nd ⊢
  refine ⟨nd.1, ?_, fun a ha b hb => ?_⟩
  · rw [List.map_cons, List.nodup_cons]
    exact ⟨h.2, nd.2.1⟩
  · rw [List.map_cons, List.mem_cons] at hb
    rcases hb with rfl | hb
    · exact fun z => h.1 (z ▸ ha)
    · exact nd.2.2 a ha b hb
/-- the same things, by the same frozen part -/
theorem ORep.same {io io' : Io} {S : Store} {H H' : Hp} {a : Addr} {o : MO} (d : Den K C io S H) (hl : io'.l = io.l) (hs : Same (Fz io H) (Fz io' H')) (ha : H' a = H a) (h : ORep K C io H a o) : ORep K C io' H' a o := by
  have hp : ∀ (n : Nat) (a : Addr), io.l[n]? = some a → io'.l[n]? = some a := fun n a e => by rw [hl]; exact e
  cases o with
  | lst ds => obtain ⟨vs, q, r⟩ := h; exact ⟨vs, by rw [ha]; exact q, r.mono hp hs⟩
  | dK ks ds => obtain ⟨vs, q, q2, r⟩ := h; exact ⟨vs, by rw [ha]; exact q, q2, r.mono hp hs⟩
  | ins c ns ds =>
    obtain ⟨dx, fs, q, q1, q2, r⟩ := h
    refine ⟨dx, fs, by rw [ha]; exact q, ?_, q2, r.mono hp hs⟩
    exact Fz_same _ _ _ _ (hs dx _ (by rw [Fz_out (d.notOwn q1)]; exact q1))
theorem Den.hide {io : Io} {S : Store} {H : Hp} {p : Addr} {o : HO} (d : Den K C io S H) (h : H p = none) (m : isMut o = true) : Den K C (io.hide p o) S (upd H p o) := by
  have hs : Same (Fz io H) (Fz (io.hide p o) (upd H p o)) := by rw [Fz_hide h]; exact fun _ _ e => e
  refine ⟨d.len, nodup_hide d.nd (d.fresh h), fun n x a e1 e2 => ?_, fun q hq => ?_⟩
  · have e : a ≠ p := fun z => d.fresh h (z ▸ mem_all (show io.l[n]? = some a from e2))
    exact (d.obj n x a e1 e2).same d rfl hs (upd_ne e)
  · have hq' : q = (p, o) ∨ q ∈ io.h := List.mem_cons.mp hq
    rcases hq' with rfl | hq'
    · exact ⟨upd_same, m⟩
    · have e : q.1 ≠ p := fun z => d.fresh h (z ▸ hid_mem hq')
      rw [upd_ne e]; exact d.hid q hq'
theorem Den.rehide {io : Io} {S : Store} {H : Hp} {p : Addr} {o o' : HO} (d : Den K C (io.hide p o) S H) (m : isMut o' = true) : Den K C (io.hide p o') S (upd H p o') := by
  have hs : Same (Fz (io.hide p o) H) (Fz (io.hide p o') (upd H p o')) := by rw [Fz_hide_put (o := o)]; exact fun _ _ e => e
  have nd := List.nodup_append.mp d.nd
  have nd2 : p ∉ io.h.map (·.1) ∧ _ := List.nodup_cons.mp (show (p :: io.h.map (·.1)).Nodup from nd.2.1)
  refine ⟨d.len, d.nd, fun n x a e1 e2 => ?_, fun q hq => ?_⟩
  · have e : a ≠ p := fun z => nd.2.2 a (List.mem_of_getElem? e2) p (by simp [Io.hide]) z
    exact (d.obj n x a e1 e2).same d rfl hs (upd_ne e)
  · have hq' : q = (p, o') ∨ q ∈ io.h := List.mem_cons.mp hq
    rcases hq' with rfl | hq'
    · exact ⟨upd_same, m⟩
    · have e : q.1 ≠ p := fun z => nd2.1 (z ▸ List.mem_map.mpr ⟨q, hq', rfl⟩)
      rw [upd_ne e]; exact d.hid q (List.mem_cons_of_mem _ hq')
/-- it is filled: it stands still from now on -/
theorem Fz_unhide {io : Io} {H : Hp} {p : Addr} {o : HO} (hp : p ∉ io.all) (e : H p = some o) : Same (Fz (io.hide p o) H) (Fz io H) ∧ Fz io H p = some o := by
  refine ⟨fun b u q => ?_, by rw [Fz_out hp]; exact e⟩
  unfold Fz at q ⊢
  simp only [mem_hide] at q
  by_cases hb : b ∈ io.all
  · simp [hb] at q
  · simp only [hb, or_false, if_false] at q ⊢
    split at q
    · cases q
    · exact q
theorem Den.unhide {io : Io} {S : Store} {H : Hp} {p : Addr} {o : HO} (d : Den K C (io.hide p o) S H) : Den K C io S H ∧ p ∉ io.all ∧ H p = some o := by
  have nd := List.nodup_append.mp d.nd
  have nd2 : p ∉ io.h.map (·.1) ∧ (io.h.map (·.1)).Nodup := List.nodup_cons.mp (show (p :: io.h.map (·.1)).Nodup from nd.2.1)
  have hp : p ∉ io.all := fun z => by
    rcases List.mem_append.mp z with z | z
    · exact nd.2.2 p z p (by simp [Io.hide]) rfl
    · exact nd2.1 z
  have e : H p = some o := (d.hid (p, o) List.mem_cons_self).1
  refine ⟨⟨d.len, ?_, fun n x a e1 e2 => ?_, fun q hq => d.hid q (List.mem_cons_of_mem _ hq)⟩, hp, e⟩
  · unfold Io.all
    rw [List.nodup_append]
    exact ⟨nd.1, nd2.2, fun a ha b hb => nd.2.2 a ha b (List.mem_cons_of_mem _ hb)⟩
  · exact (d.obj n x a e1 e2).same d rfl (Fz_unhide hp e).1 rfl
end Ev
namespace Ev
open PySem PySem.Spec L2

/-! ### states -/
structure Slots (K : PySem.W.Frag) (C : Nat → Addr) (io : Io) (F : Hp) (e : Env) (sg : St) : Prop where
  len : e.length = sg.length
  get : ∀ (i : Nat) (d : D), e[i]? = some (some d) → ∃ v, sg[i]? = some (some v) ∧ Rep K C io F d v
theorem Slots.ext {K : PySem.W.Frag} {C : Nat → Addr} {io io' : Io} {H H' : Hp} {e : Env} {sg : St} (x : Ext io H io' H') (s : Slots K C io (Fz io H) e sg) : Slots K C io' (Fz io' H') e sg :=
  ⟨s.len, fun i d h => let ⟨v, h1, h2⟩ := s.get i d h; ⟨v, h1, h2.ext x⟩⟩
theorem Slots.set {K : PySem.W.Frag} {C : Nat → Addr} {io : Io} {F : Hp} {e : Env} {sg : St} {d : D} {v : V} (s : Slots K C io F e sg) (i : Nat) (r : Rep K C io F d v) : Slots K C io F (e.set i (some d)) (sg.set i (some v)) := by
  refine ⟨by simp [s.len], fun j x h => ?_⟩
  by_cases hj : j = i
  · subst hj
    by_cases hl : j < e.length
    · rw [List.getElem?_set_self hl] at h
      cases h
      exact ⟨v, by rw [List.getElem?_set_self (by rw [← s.len]; exact hl)], r⟩
    · rw [List.getElem?_eq_none (by simp; omega)] at h; cases h
  · rw [List.getElem?_set_ne (Ne.symm hj)] at h
    obtain ⟨u, h1, h2⟩ := s.get j x h
    exact ⟨u, by rw [List.getElem?_set_ne (Ne.symm hj)]; exact h1, h2⟩
theorem Slots.none {K : PySem.W.Frag} {C : Nat → Addr} {io : Io} {F : Hp} {e : Env} {sg : St} (s : Slots K C io F e sg) (i : Nat) : Slots K C io F (e.set i none) (sg.set i none) := by
  refine ⟨by simp [s.len], fun j x h => ?_⟩
  by_cases hj : j = i
  · subst hj
    by_cases hl : j < e.length
    · rw [List.getElem?_set_self hl] at h; cases h
    · rw [List.getElem?_eq_none (by simp; omega)] at h; cases h
  · rw [List.getElem?_set_ne (Ne.symm hj)] at h
    obtain ⟨u, h1, h2⟩ := s.get j x h
    exact ⟨u, by rw [List.getElem?_set_ne (Ne.symm hj)]; exact h1, h2⟩
/-- an exception: its class, its own dict -/
def XR (K : PySem.W.Frag) (C : Nat → Addr) (io : Io) (H : Hp) (x : Exn) (cls : Value) (dd : Option Addr) : Prop :=
  cls = .ref (C x.c) ∧ ((x.ns = [] ∧ x.xs = [] ∧ dd = none) ∨ ∃ d fs, dd = some d ∧ H d = some (.xd fs) ∧ fs.map (·.1) = x.ns ∧ Reps K C io (Fz io H) x.xs (fs.map (·.2)))

/-! ### what is wanted behind a result -/
def Post {A B : Type} (K : PySem.W.Frag) (C : Nat → Addr) (R : Io → Hp → A → B → Prop) (W : WX) (sg : St) (io : Io) (H : Hp) (r : Res A) (Q : B → Hp → Prop) : Prop :=
  match r with
  | .ok a S => ∀ b H' io', Ext io H io' H' → Den K C io' S H' → R io' (Fz io' H') a b → Q b H'
  | .err x S => ∀ cls dd H' io', Ext io H io' H' → Den K C io' S H' → XR K C io' H' x cls dd → W cls dd sg H'
  | .bad => False
abbrev RepR (K : PySem.W.Frag) (C : Nat → Addr) : Io → Hp → D → V → Prop := fun io F d v => Rep K C io F d v
abbrev RepsR (K : PySem.W.Frag) (C : Nat → Addr) : Io → Hp → List D → List V → Prop := fun io F d v => Reps K C io F d v
abbrev EqR {A : Type} : Io → Hp → A → A → Prop := fun _ _ a b => a = b
section
variable {K : PySem.W.Frag} {C : Nat → Addr} {A B A' B' : Type} {R : Io → Hp → A → B → Prop} {R' : Io → Hp → A' → B' → Prop} {W : WX} {sg : St} {io io' : Io} {H H' : Hp} {r : Res A} {Q Q' : B → Hp → Prop}
theorem Post.ext (e : Ext io H io' H') (h : Post K C R W sg io H r Q) : Post K C R W sg io' H' r Q := by
  cases r with
  | ok a S => exact fun b H2 io2 x d q => h b H2 io2 (e.trans x) d q
  | err x S => exact fun c dd H2 io2 x' d q => h c dd H2 io2 (e.trans x') d q
  | bad => exact h
theorem Post.mono (h : Post K C R W sg io H r Q) (m : ∀ b H', Q b H' → Q' b H') : Post K C R W sg io H r Q' := by
  cases r with
  | ok a S => exact fun b H2 io2 x d q => m _ _ (h b H2 io2 x d q)
  | err x S => exact h
  | bad => exact h
theorem Post.bind {k : A → Store → Res A'} {Q : B' → Hp → Prop} (h : Post K C R' W sg io H (r.bind k) Q) :
    Post K C R W sg io H r (fun b H1 => ∃ io1 S1 a, Ext io H io1 H1 ∧ Den K C io1 S1 H1 ∧ R io1 (Fz io1 H1) a b ∧ Post K C R' W sg io1 H1 (k a S1) Q) := by
  cases r with
  | ok a S => exact fun b H2 io2 x d q => ⟨io2, S, a, x, d, q, Post.ext x h⟩
  | err x S => exact h
  | bad => exact h
theorem Post.ofO {o : Option A} {S : Store} (h : Post K C R W sg io H (ofO o S) Q) : ∃ a, o = some a ∧ ∀ b H' io', Ext io H io' H' → Den K C io' S H' → R io' (Fz io' H') a b → Q b H' := by
  cases o with
  | some a => exact ⟨a, rfl, h⟩
  | none => exact h.elim
/-- nothing of the heap has changed -/
theorem Post.here {a : A} {S : Store} {b : B} (h : Post K C R W sg io H (.ok a S) Q) (d : Den K C io S H) (q : R io (Fz io H) a b) : Q b H := h b H io (Ext.refl io H) d q
end
/-- an expression, a test, arguments, by what they come to -/
abbrev RE := Env → Store → Res D
abbrev RT := Env → Store → Res Bool
abbrev RA := Env → Store → Res (List D)
def tR {A B : Type} (K : PySem.W.Frag) (C : Nat → Addr) (R : Io → Hp → A → B → Prop) (W : WX) (r : Env → Store → Res A) : St → Hp → (B → Hp → Prop) → Prop := fun sg H Q =>
  ∃ (e : Env) (S : Store) (io : Io), Den K C io S H ∧ Slots K C io (Fz io H) e sg ∧ Post K C R W sg io H (r e S) Q
abbrev tE (K : PySem.W.Frag) (C : Nat → Addr) (W : WX) (r : RE) : TE := tR K C (RepR K C) W r
abbrev tT (K : PySem.W.Frag) (C : Nat → Addr) (W : WX) (r : RT) : TT := tR K C EqR W r
abbrev tA (K : PySem.W.Frag) (C : Nat → Addr) (W : WX) (r : RA) : TA := tR K C (RepsR K C) W r
section
variable {K : PySem.W.Frag} {C : Nat → Addr} {A B A' B' A2 B2 : Type} {R : Io → Hp → A → B → Prop} {R' : Io → Hp → A' → B' → Prop} {R2 : Io → Hp → A2 → B2 → Prop} {W : WX} {sg : St} {H : Hp}
theorem tR.mono {r : Env → Store → Res A} {Q Q' : B → Hp → Prop} (h : tR K C R W r sg H Q) (m : ∀ b H', Q b H' → Q' b H') : tR K C R W r sg H Q' := by
  obtain ⟨e, S, io, d, s, p⟩ := h
  exact ⟨e, S, io, d, s, p.mono m⟩
/-- one thing, then the rest -/
theorem tR.seq1 {r : Env → Store → Res A} {r' : Env → Store → Res A'} {Q : B' → Hp → Prop} (k : Env → A → Store → Res A') (h : tR K C R' W r' sg H Q) (e' : ∀ e S, r' e S = (r e S).bind (k e)) :
    tR K C R W r sg H fun b H1 => ∃ e S io a, Den K C io S H1 ∧ Slots K C io (Fz io H1) e sg ∧ R io (Fz io H1) a b ∧ Post K C R' W sg io H1 (k e a S) Q := by
  obtain ⟨e, S, io, d, s, p⟩ := h
  rw [e'] at p
  exact ⟨e, S, io, d, s, p.bind.mono fun b H1 ⟨io1, S1, a, x, d1, q, p1⟩ => ⟨e, S1, io1, a, d1, s.ext x, q, p1⟩⟩
/-- two things, then the rest -/
theorem tR.seq2 {r : Env → Store → Res A} {r2 : Env → Store → Res A2} {r' : Env → Store → Res A'} (hm : ∀ {io io' H H' a b}, Ext io H io' H' → R io (Fz io H) a b → R io' (Fz io' H') a b) {Q : B' → Hp → Prop} (k : Env → A → A2 → Store → Res A')
    (h : tR K C R' W r' sg H Q) (e' : ∀ e S, r' e S = (r e S).bind fun a S1 => (r2 e S1).bind (k e a)) :
    tR K C R W r sg H fun b H1 => tR K C R2 W r2 sg H1 fun b2 H2 => ∃ e S io a a2, Den K C io S H2 ∧ Slots K C io (Fz io H2) e sg ∧ R io (Fz io H2) a b ∧ R2 io (Fz io H2) a2 b2 ∧ Post K C R' W sg io H2 (k e a a2 S) Q := by
  obtain ⟨e, S, io, d, s, p⟩ := h
  rw [e'] at p
  refine ⟨e, S, io, d, s, p.bind.mono fun b H1 ⟨io1, S1, a, x, d1, q, p1⟩ => ?_⟩
  exact ⟨e, S1, io1, d1, s.ext x, p1.bind.mono fun b2 H2 ⟨io2, S2, a2, x2, d2, q2, p2⟩ => ⟨e, S2, io2, a, a2, d2, (s.ext x).ext x2, hm x2 q, q2, p2⟩⟩
theorem bind_assoc {A B E : Type} (r : Res A) (f : A → Store → Res B) (g : B → Store → Res E) : (r.bind f).bind g = r.bind fun a S => (f a S).bind g := by cases r <;> rfl
end
theorem repM {K : PySem.W.Frag} {C : Nat → Addr} {io io' : Io} {H H' : Hp} {a : D} {b : V} (x : Ext io H io' H') (h : RepR K C io (Fz io H) a b) : RepR K C io' (Fz io' H') a b := Rep.ext x h
theorem repsM {K : PySem.W.Frag} {C : Nat → Addr} {io io' : Io} {H H' : Hp} {a : List D} {b : List V} (x : Ext io H io' H') (h : RepsR K C io (Fz io H) a b) : RepsR K C io' (Fz io' H') a b := Reps.ext x h
theorem eqM {A : Type} {io io' : Io} {H H' : Hp} {a b : A} (x : Ext io H io' H') (h : EqR io (Fz io H) a b) : EqR io' (Fz io' H') a b := h

theorem _root_.L2.PE.imp {X : Cx} {e : Expr} {t t' : TE} (h : PE X e t) (hi : ∀ sg H Q, t' sg H Q → t sg H Q) : PE X e t' := ⟨fun pins s sg H Q I hw => h.run pins s sg H Q I (hi _ _ _ hw)⟩
theorem _root_.L2.PT.imp {X : Cx} {e : Expr} {t t' : TT} (h : PT X e t) (hi : ∀ sg H Q, t' sg H Q → t sg H Q) : PT X e t' := ⟨fun pins s sg H Q I hw => h.run pins s sg H Q I (hi _ _ _ hw)⟩
theorem _root_.L2.PW.imp {X : Cx} {e : Expr} {t t' : TT} (h : PW X e t) (hi : ∀ sg H Q, t' sg H Q → t sg H Q) : PW X e t' := ⟨fun wh pins s sg H Q I hw => h.run wh pins s sg H Q I (hi _ _ _ hw)⟩
theorem _root_.L2.PA.imp {X : Cx} {e : List Expr} {t t' : TA} (h : PA X e t) (hi : ∀ sg H Q, t' sg H Q → t sg H Q) : PA X e t' := ⟨fun p pins s sg H Q I hw => h.run p pins s sg H Q I (hi _ _ _ hw)⟩
theorem _root_.L2.PS.imp {X : Cx} {e : Stmt} {t t' : TS} (h : PS X e t) (hi : ∀ D sg H, t' D sg H → t D sg H) : PS X e t' := ⟨fun pins s sg H D I hw => h.run pins s sg H D I (hi _ _ _ hw)⟩
theorem _root_.L2.PSs.imp {X : Cx} {e : List Stmt} {t t' : TS} (h : PSs X e t) (hi : ∀ D sg H, t' D sg H → t D sg H) : PSs X e t' := ⟨fun pins s sg H D I hw => h.run pins s sg H D I (hi _ _ _ hw)⟩
theorem _root_.L2.PE.or {X : Cx} {e : Expr} {t t' : TE} (h : PE X e t) (h' : PE X e t') : PE X e (fun sg H Q => t sg H Q ∨ t' sg H Q) := ⟨fun pins s sg H Q I hw => hw.elim (h.run pins s sg H Q I) (h'.run pins s sg H Q I)⟩

/-! ### operations by values -/
/-- an operation of two values over the store -/
def OpD (X : Cx) (C : Nat → Addr) (g : Value → Value → Sem Value) (f : Store → D → D → Option D) : Prop :=
  OpR X g (fun x y H Q => ∃ io S a b d, Den X.K C io S H ∧ Rep X.K C io (Fz io H) a x ∧ Rep X.K C io (Fz io H) b y ∧ f S a b = some d ∧ ∀ v H' io', Ext io H io' H' → Den X.K C io' S H' → Rep X.K C io' (Fz io' H') d v → Q v H')
def UnD (X : Cx) (C : Nat → Addr) (g : Value → Sem Value) (f : Store → D → Option D) : Prop :=
  UnR X g (fun x H Q => ∃ io S a d, Den X.K C io S H ∧ Rep X.K C io (Fz io H) a x ∧ f S a = some d ∧ ∀ v H' io', Ext io H io' H' → Den X.K C io' S H' → Rep X.K C io' (Fz io' H') d v → Q v H')
def CallD (X : Cx) (C : Nat → Addr) (g : Value) (f : Store → List D → Option D) : Prop :=
  CallR X g (fun xs H Q => ∃ io S as d, Den X.K C io S H ∧ Reps X.K C io (Fz io H) as xs ∧ f S as = some d ∧ ∀ v H' io', Ext io H io' H' → Den X.K C io' S H' → Rep X.K C io' (Fz io' H') d v → Q v H')
def rBin (f : Store → D → D → Option D) (a b : RE) : RE := fun e S => (a e S).bind fun x S1 => (b e S1).bind fun y S2 => ofO (f S2 x y) S2
def rUn (f : Store → D → Option D) (a : RE) : RE := fun e S => (a e S).bind fun x S1 => ofO (f S1 x) S1
def rCal (f : Store → List D → Option D) (a : RA) : RE := fun e S => (a e S).bind fun xs S1 => ofO (f S1 xs) S1
section
variable {X : Cx} {C : Nat → Addr} {W : WX} {a b : Expr} {ra rb : RE} {pos : Pos}
theorem ee_op {op : Operator} {f : Store → D → D → Option D} (ho : OpD X C (binaryOp op) f) (ha : PE X a (tE X.K C W ra)) (hb : PE X b (tE X.K C W rb)) : PE X (.BinOp a op b pos) (tE X.K C W (rBin f ra rb)) :=
  (pe_op ho ha hb).imp fun sg H Q h => (tR.seq2 repM (fun _ x y S => ofO (f S x y) S) h fun _ _ => rfl).mono fun x H1 h1 => h1.mono fun y H2 ⟨e, S, io, x1, y1, d, s, r1, r2, p⟩ => by
    obtain ⟨z, ez, p⟩ := p.ofO
    exact ⟨io, S, x1, y1, z, d, r1, r2, ez, p⟩
theorem ee_un {op : UnaryOp} {f : Store → D → Option D} (ho : UnD X C (unaryOp op) f) (ha : PE X a (tE X.K C W ra)) : PE X (.UnaryOp op a pos) (tE X.K C W (rUn f ra)) :=
  (pe_un ho ha).imp fun sg H Q h => (tR.seq1 (fun _ x S => ofO (f S x) S) h fun _ _ => rfl).mono fun x H1 ⟨e, S, io, x1, d, s, r1, p⟩ => by
    obtain ⟨z, ez, p⟩ := p.ofO
    exact ⟨io, S, x1, z, d, r1, ez, p⟩
theorem ee_cmp {op : CmpOp} {f : Store → D → D → Option D} (ho : OpD X C (compareOp op) f) (ha : PE X a (tE X.K C W ra)) (hb : PE X b (tE X.K C W rb)) (hm : behindInMarks op b = false) : PE X (.Compare a [op] [b] pos) (tE X.K C W (rBin f ra rb)) :=
  (pe_cmpR ho ha hb hm).imp fun sg H Q h => (tR.seq2 repM (fun _ x y S => ofO (f S x y) S) h fun _ _ => rfl).mono fun x H1 h1 => h1.mono fun y H2 ⟨e, S, io, x1, y1, d, s, r1, r2, p⟩ => by
    obtain ⟨z, ez, p⟩ := p.ofO
    exact ⟨io, S, x1, y1, z, d, r1, r2, ez, p⟩
/-- a truth of an answer -/
def asB : D → Option Bool
  | .bl b => some b
  | _ => none
def rTest (a : RE) : RT := fun e S => (a e S).bind fun x S1 => ofO (asB x) S1
theorem asB_rep {K : PySem.W.Frag} {C : Nat → Addr} {io : Io} {F : Hp} {d : D} {v : V} {k : Bool} (h : asB d = some k) (r : Rep K C io F d v) : v = .bl k := by
  cases d <;> cases h
  cases r
  rfl
/-- what a test wants behind the value -/
theorem tTest_of {t : TE} {r : RE} (h1 : ∀ sg H Q, tE X.K C W r sg H Q → t sg H Q) (sg : L2.St) (H : Hp) (Q : Bool → Hp → Prop) (h : tT X.K C W (rTest r) sg H Q) : tTest t sg H Q :=
  h1 sg H _ ((tR.seq1 (R := RepR X.K C) (r := r) (fun _ x S => ofO (asB x) S) h fun _ _ => rfl).mono fun x H1 ⟨e, S, io, x1, d, s, r1, p⟩ => by
    obtain ⟨k, ek, p⟩ := p.ofO
    exact ⟨k, asB_rep ek r1, p k H1 io (Ext.refl _ _) d rfl⟩)
theorem et_cmp {op : CmpOp} {f : Store → D → D → Option D} (ho : OpD X C (compareOp op) f) (ha : PE X a (tE X.K C W ra)) (hb : PE X b (tE X.K C W rb)) (hm : behindInMarks op b = false) : PT X (.Compare a [op] [b] pos) (tT X.K C W (rTest (rBin f ra rb))) :=
  (pt_cmpR ho ha hb hm).imp (tTest_of fun sg H Q h => (tR.seq2 repM (fun _ x y S => ofO (f S x y) S) h fun _ _ => rfl).mono fun x H1 h1 => h1.mono fun y H2 ⟨e, S, io, x1, y1, d, s, r1, r2, p⟩ => by
    obtain ⟨z, ez, p⟩ := p.ofO
    exact ⟨io, S, x1, y1, z, d, r1, r2, ez, p⟩)
end
end Ev
namespace Ev
open PySem PySem.Spec L2

/-! ### names and constants -/
def rVar (i : Nat) : RE := fun e S => match e[i]? with
  | some (some d) => .ok d S
  | _ => .bad
def rCon (d : D) : RE := fun _ S => .ok d S
section
variable {X : Cx} {C : Nat → Addr} {W : WX}
theorem ee_var (i : Nat) {x : Str} {pos : Pos} (hN : X.N[i]? = some x := by rfl) (hv : Vis X.env.scope x := by first | exact Or.inl rfl | exact Or.inr (Or.inl rfl) | exact Or.inr (Or.inr rfl)) (hd : (x == ("__debug__" : Str)) = false := by decide)
    (hcd : (x == ("__classdict__" : Str)) = false := by decide) : PE X (.Name x pos) (tE X.K C W (rVar i)) :=
  (pv i hN hv hd hcd).imp fun sg H Q h => by
    obtain ⟨e, S, io, d, s, p⟩ := h
    unfold rVar at p
    split at p
    · rename_i y ey
      obtain ⟨v, h1, h2⟩ := s.get i y ey
      exact ⟨v, h1, p.here d h2⟩
    · exact p.elim
theorem ee_con {v : V} {d : D} {e : Expr} (h : PE X e (tC v)) (r : ∀ io F, Rep X.K C io F d v) : PE X e (tE X.K C W (rCon d)) :=
  h.imp fun sg H Q h => by
    obtain ⟨e, S, io, d, s, p⟩ := h
    exact p.here d (r _ _)
theorem ee_int {i j pos} : PE X (.Constant (.int i) j pos) (tE X.K C W (rCon (.int i))) := ee_con pe_int fun _ _ => .int i
theorem ee_bl {i j pos} : PE X (.Constant (.bool i) j pos) (tE X.K C W (rCon (.bl i))) := ee_con pe_bl fun _ _ => .bl i
theorem ee_str {i j pos} : PE X (.Constant (.str i) j pos) (tE X.K C W (rCon (.str i))) := ee_con pe_str fun _ _ => .str i
theorem ee_non {j pos} : PE X (.Constant .none j pos) (tE X.K C W (rCon .non)) := ee_con pe_non fun _ _ => .non
theorem ee_glob {x : Str} {v : V} {u : Value} {d : D} {pos : Pos} (hg : Gl X x) (hm : X.mg x = some u) (r : RelV v u) (rd : ∀ io F, Rep X.K C io F d v) (hd : (x == ("__debug__" : Str)) = false := by decide) : PE X (.Name x pos) (tE X.K C W (rCon d)) :=
  ee_con (pe_glob hg hm r hd) rd
end

/-! ### truth -/
def asL (S : Store) : D → Option (List D)
  | .lst xs => some xs
  | .loc n => match S[n]? with
    | some (.lst xs) => some xs
    | _ => none
  | _ => none
theorem asL_rep {K : PySem.W.Frag} {C : Nat → Addr} {io : Io} {S : Store} {H : Hp} {d : D} {v : V} {xs : List D} (h : asL S d = some xs) (dn : Den K C io S H) (r : Rep K C io (Fz io H) d v) :
    ∃ a vs, v = .ref a ∧ SqL K H a vs ∧ Reps K C io (Fz io H) xs vs := by
  cases r with
  | lst q rs => cases h; exact ⟨_, _, rfl, (Fz_same _ _).seq q, rs⟩
  | @loc n a q =>
    simp only [asL] at h
    split at h
    · rename_i ys e
      cases h
      obtain ⟨vs, h1, h2⟩ := dn.obj n _ a e q
      exact ⟨a, vs, rfl, .of h1, h2⟩
    · cases h
  | _ => cases h
theorem SqL.len {X : Cx} {pins : List (Addr × Obj)} {sg : L2.St} {H : Hp} {s : Shared} {a : Addr} {vs : List V} (I : Inv X pins sg H s) (h : SqL X.K H a vs) : vs.length ≤ sizeLine := let ⟨_, _, _, z⟩ := I.list h; z
def truthD (S : Store) : D → Option Bool
  | .non => some false
  | .bl b => some b
  | .int i => some (i != 0)
  | .str x => if x.length ≤ sizeLine then some ((x.length : Int) != 0) else none
  | .tup xs => some (!xs.isEmpty)
  | .lst xs => some (!xs.isEmpty)
  | .dct ks _ => some (!ks.isEmpty)
  | .loc n => match S[n]? with
    | some (.lst xs) => some (!xs.isEmpty)
    | some (.dK ks _) => some (!ks.isEmpty)
    | _ => none
  | .exn _ _ _ => none
theorem isEmpty_len {A B : Type} {xs : List A} {ys : List B} (h : xs.length = ys.length) : xs.isEmpty = ys.isEmpty := by
  cases xs <;> cases ys <;> first | rfl | cases h
theorem truth_rep {K : PySem.W.Frag} {C : Nat → Addr} {io : Io} {S : Store} {H : Hp} {d : D} {v : V} {k : Bool} (h : truthD S d = some k) (dn : Den K C io S H) (r : Rep K C io (Fz io H) d v) : TruV K v H k := by
  cases r with
  | non => cases h; rfl
  | bl => cases h; rfl
  | int => cases h; rfl
  | str x =>
    simp only [truthD] at h
    split at h
    · cases h; exact ⟨by assumption, rfl⟩
    · cases h
  | tup q rs => cases h; exact .inr (.inl ⟨_, sqT_same (Fz_same _ _) q, by rw [isEmpty_len rs.length]⟩)
  | lst q rs => cases h; exact .inl ⟨_, (Fz_same _ _).seq q, by rw [isEmpty_len rs.length]⟩
  | dct q e1 e2 rs => cases h; subst e1; exact .inr (.inr ⟨_, Fz_same _ _ _ _ q, by rw [isEmpty_len (List.length_map ..)]⟩)
  | @loc n a q =>
    simp only [truthD] at h
    split at h
    · rename_i ys e
      cases h
      obtain ⟨vs, h1, h2⟩ := dn.obj n _ a e q
      exact .inl ⟨vs, .of h1, by rw [isEmpty_len h2.length]⟩
    · rename_i ks ys e
      cases h
      obtain ⟨kvs, h1, h2, h3⟩ := dn.obj n _ a e q
      subst h2
      exact .inr (.inr ⟨kvs, h1, by rw [isEmpty_len (List.length_map ..)]⟩)
    · cases h
  | exn0 => cases h
  | exnF => cases h
def rTruth (a : RE) : RT := fun e S => (a e S).bind fun x S1 => ofO (truthD S1 x) S1
def rAndT (a b : RT) : RT := fun e S => (a e S).bind fun k S1 => if k = true then b e S1 else .ok false S1
def rOrT (a b : RT) : RT := fun e S => (a e S).bind fun k S1 => if k = true then .ok true S1 else b e S1
def rNotT (a : RT) : RT := fun e S => (a e S).bind fun k S1 => .ok (!k) S1
def rAnd (a b : RE) : RE := fun e S => (a e S).bind fun x S1 => (ofO (truthD S1 x) S1).bind fun k S2 => if k = true then b e S2 else .ok x S2
def rOr (a b : RE) : RE := fun e S => (a e S).bind fun x S1 => (ofO (truthD S1 x) S1).bind fun k S2 => if k = true then .ok x S2 else b e S2
def rNot (a : RE) : RE := fun e S => (a e S).bind fun x S1 => (ofO (truthD S1 x) S1).bind fun k S2 => .ok (.bl (!k)) S2
def rIf (t : RT) (a b : RE) : RE := fun e S => (t e S).bind fun k S1 => if k = true then a e S1 else b e S1
section
variable {X : Cx} {C : Nat → Addr} {W : WX} {a b c : Expr} {ra rb : RE} {ta tb tc : RT} {rest : List Expr} {pos : Pos}
theorem et_val (ha : PE X a (tE X.K C W ra)) (he : ∀ whole, isTrue a X.env whole = (do let v ← whole; standAt a.pos; holding [v] (truthy v)) := by intro _; rfl) : PT X a (tT X.K C W (rTruth ra)) :=
  (pt_truth ha he).imp fun sg H Q h => (tR.seq1 (fun _ x S => ofO (truthD S x) S) h fun _ _ => rfl).mono fun x H1 ⟨e, S, io, x1, d, s, r1, p⟩ => by
    obtain ⟨k, ek, p⟩ := p.ofO
    exact ⟨k, truth_rep ek d r1, p k H1 io (Ext.refl _ _) d rfl⟩
theorem et_and1 (ha : PT X a (tT X.K C W ta)) : PW X (.BoolOp .And [a] pos) (tT X.K C W ta) := pw_and1 ha
theorem et_or1 (ha : PT X a (tT X.K C W ta)) : PW X (.BoolOp .Or [a] pos) (tT X.K C W ta) := pw_or1 ha
theorem et_and (ha : PT X a (tT X.K C W ta)) (hb : PW X (.BoolOp .And (b :: rest) pos) (tT X.K C W tb)) : PW X (.BoolOp .And (a :: b :: rest) pos) (tT X.K C W (rAndT ta tb)) :=
  (pw_and ha hb).imp fun sg H Q h => (tR.seq1 (R := EqR) (fun e k S1 => if k = true then tb e S1 else .ok false S1) h fun _ _ => rfl).mono fun x H1 ⟨e, S, io, x1, d, s, r1, p⟩ => by
    cases r1
    cases x with
    | true => exact ⟨e, S, io, d, s, p⟩
    | false => exact p false H1 io (Ext.refl _ _) d rfl
theorem et_or (ha : PT X a (tT X.K C W ta)) (hb : PW X (.BoolOp .Or (b :: rest) pos) (tT X.K C W tb)) : PW X (.BoolOp .Or (a :: b :: rest) pos) (tT X.K C W (rOrT ta tb)) :=
  (pw_or ha hb).imp fun sg H Q h => (tR.seq1 (R := EqR) (fun e k S1 => if k = true then .ok true S1 else tb e S1) h fun _ _ => rfl).mono fun x H1 ⟨e, S, io, x1, d, s, r1, p⟩ => by
    cases r1
    cases x with
    | true => exact p true H1 io (Ext.refl _ _) d rfl
    | false => exact ⟨e, S, io, d, s, p⟩
theorem et_not (ha : PT X a (tT X.K C W ta)) : PT X (.UnaryOp .Not a pos) (tT X.K C W (rNotT ta)) :=
  (pt_not ha).imp fun sg H Q h => (tR.seq1 (R := EqR) (fun e k S1 => .ok (!k) S1) h fun _ _ => rfl).mono fun x H1 ⟨e, S, io, x1, d, s, r1, p⟩ => by
    cases r1
    exact p _ H1 io (Ext.refl _ _) d rfl
theorem ee_one {op} (h : PE X a (tE X.K C W ra)) : PE X (.BoolOp op [a] pos) (tE X.K C W ra) := pe_one h
theorem ee_and (ha : PE X a (tE X.K C W ra)) (hb : PE X (.BoolOp .And (b :: rest) pos) (tE X.K C W rb)) : PE X (.BoolOp .And (a :: b :: rest) pos) (tE X.K C W (rAnd ra rb)) :=
  (pe_andT ha hb).imp fun sg H Q h => (tR.seq1 (R := RepR X.K C) (fun e x S1 => (ofO (truthD S1 x) S1).bind fun k S2 => if k = true then rb e S2 else .ok x S2) h fun _ _ => rfl).mono fun x H1 ⟨e, S, io, x1, d, s, r1, p⟩ => by
    cases ek : truthD S x1 with
    | none => simp only [ek, ofO, Res.bind] at p; exact p.elim
    | some k =>
      simp only [ek, ofO, Res.bind] at p
      refine ⟨k, truth_rep ek d r1, ?_⟩
      cases k with
      | true => exact ⟨e, S, io, d, s, p⟩
      | false => exact p _ H1 io (Ext.refl _ _) d r1
theorem ee_or (ha : PE X a (tE X.K C W ra)) (hb : PE X (.BoolOp .Or (b :: rest) pos) (tE X.K C W rb)) : PE X (.BoolOp .Or (a :: b :: rest) pos) (tE X.K C W (rOr ra rb)) :=
  (pe_orT ha hb).imp fun sg H Q h => (tR.seq1 (R := RepR X.K C) (fun e x S1 => (ofO (truthD S1 x) S1).bind fun k S2 => if k = true then .ok x S2 else rb e S2) h fun _ _ => rfl).mono fun x H1 ⟨e, S, io, x1, d, s, r1, p⟩ => by
    cases ek : truthD S x1 with
    | none => simp only [ek, ofO, Res.bind] at p; exact p.elim
    | some k =>
      simp only [ek, ofO, Res.bind] at p
      refine ⟨k, truth_rep ek d r1, ?_⟩
      cases k with
      | true => exact p _ H1 io (Ext.refl _ _) d r1
      | false => exact ⟨e, S, io, d, s, p⟩
theorem ee_not (ha : PE X a (tE X.K C W ra)) : PE X (.UnaryOp .Not a pos) (tE X.K C W (rNot ra)) :=
  (pe_notT ha).imp fun sg H Q h => (tR.seq1 (R := RepR X.K C) (fun e x S1 => (ofO (truthD S1 x) S1).bind fun k S2 => .ok (.bl (!k)) S2) h fun _ _ => rfl).mono fun x H1 ⟨e, S, io, x1, d, s, r1, p⟩ => by
    cases ek : truthD S x1 with
    | none => simp only [ek, ofO, Res.bind] at p; exact p.elim
    | some k =>
      simp only [ek, ofO, Res.bind] at p
      exact ⟨k, truth_rep ek d r1, p _ H1 io (Ext.refl _ _) d (.bl _)⟩
theorem ee_if (hc : PT X c (tT X.K C W tc)) (ha : PE X a (tE X.K C W ra)) (hb : PE X b (tE X.K C W rb)) : PE X (.IfExp c a b pos) (tE X.K C W (rIf tc ra rb)) :=
  (pe_ifExp hc ha hb).imp fun sg H Q h => (tR.seq1 (R := EqR) (fun e k S1 => if k = true then ra e S1 else rb e S1) h fun _ _ => rfl).mono fun x H1 ⟨e, S, io, x1, d, s, r1, p⟩ => by
    cases r1
    cases x with
    | true => exact ⟨e, S, io, d, s, p⟩
    | false => exact ⟨e, S, io, d, s, p⟩
end

/-! ### argument lists, displays -/
def rNil : RA := fun _ S => .ok [] S
def rCons (a : RE) (r : RA) : RA := fun e S => (a e S).bind fun x S1 => (r e S1).bind fun xs S2 => .ok (x :: xs) S2
def AL (n : Nat) (r : RA) : Prop := ∀ e S xs S', r e S = .ok xs S' → xs.length = n
theorem al_nil : AL 0 rNil := fun e S xs S' h => by cases h; rfl
theorem al_cons {n : Nat} {a : RE} {r : RA} (h : AL n r) : AL (n + 1) (rCons a r) := fun e S xs S' q => by
  unfold rCons at q
  cases h1 : a e S with
  | ok x S1 =>
    rw [h1] at q
    simp only [Res.bind] at q
    cases h2 : r e S1 with
    | ok ys S2 =>
      rw [h2] at q
      cases q
      simp [h e S1 ys _ h2]
    | err x S2 => rw [h2] at q; cases q
    | bad => rw [h2] at q; cases q
  | err x S1 => rw [h1] at q; cases q
  | bad => rw [h1] at q; cases q
def rTup (r : RA) : RE := fun e S => (r e S).bind fun xs S1 => .ok (.tup xs) S1
def rLst (r : RA) : RE := fun e S => (r e S).bind fun xs S1 => .ok (.lst xs) S1
def rLstM (r : RA) : RE := fun e S => (r e S).bind fun xs S1 => .ok (.loc S1.length) (S1 ++ [.lst xs])
section
variable {X : Cx} {C : Nat → Addr} {W : WX} {a : Expr} {es : List Expr} {ra : RE} {rs : RA} {pos : Pos}
theorem ea_nil : PA X [] (tA X.K C W rNil) := pa_nil.imp fun sg H Q h => by
  obtain ⟨e, S, io, d, s, p⟩ := h
  exact p.here d .nil
theorem ea_cons (ha : PE X a (tE X.K C W ra)) (hr : PA X es (tA X.K C W rs)) (hs : starEach (a :: es) X.env = (false, eval a X.env) :: starEach es X.env := by rfl) : PA X (a :: es) (tA X.K C W (rCons ra rs)) :=
  (pa_cons ha hr hs).imp fun sg H Q h => (tR.seq2 repM (fun _ x xs S => .ok (x :: xs) S) h fun _ _ => rfl).mono fun x H1 h1 => h1.mono fun y H2 ⟨e, S, io, x1, y1, d, s, r1, r2, p⟩ =>
    p _ H2 io (Ext.refl _ _) d (.cons r1 r2)
/-- what a thing laid anew wants -/
theorem new_tup {K : PySem.W.Frag} {C : Nat → Addr} {io : Io} {S : Store} {H : Hp} {xs : List D} {vs : List V} {p : Addr} (d : Den K C io S H) (r : Reps K C io (Fz io H) xs vs) (hp : H p = none) :
    Ext io H io (upd H p (.tup vs)) ∧ Den K C io S (upd H p (.tup vs)) ∧ Rep K C io (Fz io (upd H p (.tup vs))) (.tup xs) (.ref p) :=
  ⟨Ext.new d hp, d.new hp, .tup (.inl (.inl (by rw [Fz_out (d.fresh hp)]; exact upd_same))) (r.ext (Ext.new d hp))⟩
theorem new_lst {K : PySem.W.Frag} {C : Nat → Addr} {io : Io} {S : Store} {H : Hp} {xs : List D} {vs : List V} {p : Addr} (d : Den K C io S H) (r : Reps K C io (Fz io H) xs vs) (hp : H p = none) :
    Ext io H io (upd H p (.lst vs)) ∧ Den K C io S (upd H p (.lst vs)) ∧ Rep K C io (Fz io (upd H p (.lst vs))) (.lst xs) (.ref p) :=
  ⟨Ext.new d hp, d.new hp, .lst (.inl (.inl (by rw [Fz_out (d.fresh hp)]; exact upd_same))) (r.ext (Ext.new d hp))⟩
theorem new_lstM {K : PySem.W.Frag} {C : Nat → Addr} {io : Io} {S : Store} {H : Hp} {xs : List D} {vs : List V} {p : Addr} (d : Den K C io S H) (r : Reps K C io (Fz io H) xs vs) (hp : H p = none) :
    Ext io H (io.add p) (upd H p (.lst vs)) ∧ Den K C (io.add p) (S ++ [.lst xs]) (upd H p (.lst vs)) ∧ Rep K C (io.add p) (Fz (io.add p) (upd H p (.lst vs))) (.loc S.length) (.ref p) :=
  ⟨Ext.loc hp, d.loc hp ⟨vs, upd_same, r.ext (Ext.loc hp)⟩, .loc (by rw [← d.len]; show (io.l ++ [p])[io.l.length]? = some p; rw [List.getElem?_append_right (Nat.le_refl _)]; simp)⟩
theorem al_le {n : Nat} {r : RA} {e : Env} {S S' : Store} {xs : List D} (h : AL n r) (hn : n ≤ sizeLine) (q : r e S = .ok xs S') : xs.length ≤ sizeLine := by rw [h e S xs S' q]; exact hn
/-- arguments, with their number -/
theorem tA.alen {n : Nat} {K : PySem.W.Frag} {C : Nat → Addr} {sg : L2.St} {H : Hp} {Q : List V → Hp → Prop} (hn : AL n rs) (h : tA K C W rs sg H Q) : tA K C W rs sg H (fun vs H1 => vs.length = n ∧ Q vs H1) := by
  obtain ⟨e, S, io, d, s, p⟩ := h
  refine ⟨e, S, io, d, s, ?_⟩
  cases q : rs e S with
  | ok xs S1 =>
    rw [q] at p
    exact fun b H' io' x d' r => ⟨r.length.symm.trans (hn e S xs S1 q), p b H' io' x d' r⟩
  | err x S1 => rw [q] at p; exact p
  | bad => rw [q] at p; exact p
theorem ee_tup {n : Nat} {k} (h : PA X es (tA X.K C W rs)) (hn : AL n rs) (hz : n ≤ sizeLine := by decide) : PE X (.Tuple es k pos) (tE X.K C W (rTup rs)) :=
  (pe_tup h).imp fun sg H Q h => tR.mono (tA.alen hn (tR.seq1 (fun _ xs S => .ok (.tup xs) S) h fun _ _ => rfl)) fun vs H1 ⟨hl, e, S, io, xs, d, s, r1, p⟩ =>
    ⟨by rw [hl]; exact hz, fun q hq => let ⟨x, d', r'⟩ := new_tup d r1 hq; p _ _ _ x d' r'⟩
theorem ee_lst {n : Nat} (h : PA X es (tA X.K C W rs)) (hn : AL n rs) (hz : n ≤ sizeLine := by decide) : PE X (.List es pos) (tE X.K C W (rLst rs)) :=
  (pe_lst h).imp fun sg H Q h => tR.mono (tA.alen hn (tR.seq1 (fun _ xs S => .ok (.lst xs) S) h fun _ _ => rfl)) fun vs H1 ⟨hl, e, S, io, xs, d, s, r1, p⟩ =>
    ⟨by rw [hl]; exact hz, fun q hq => let ⟨x, d', r'⟩ := new_lst d r1 hq; p _ _ _ x d' r'⟩
theorem ee_lstM {n : Nat} (h : PA X es (tA X.K C W rs)) (hn : AL n rs) (hz : n ≤ sizeLine := by decide) : PE X (.List es pos) (tE X.K C W (rLstM rs)) :=
  (pe_lst h).imp fun sg H Q h => tR.mono (tA.alen hn (tR.seq1 (fun _ xs S => .ok (.loc S.length) (S ++ [.lst xs])) h fun _ _ => rfl)) fun vs H1 ⟨hl, e, S, io, xs, d, s, r1, p⟩ =>
    ⟨by rw [hl]; exact hz, fun q hq => let ⟨x, d', r'⟩ := new_lstM d r1 hq; p _ _ _ x d' r'⟩
end
end Ev
namespace Ev
open PySem PySem.Spec L2

/-! ### numbers -/
section
variable {X : Cx} {C : Nat → Addr}
/-- an operation that lays nothing -/
theorem opD_flat {g : Value → Value → Sem Value} {f : Store → D → D → Option D} {r : R2} (h : OpR X g r)
    (hf : ∀ io S H a b d x y, Den X.K C io S H → Rep X.K C io (Fz io H) a x → Rep X.K C io (Fz io H) b y → f S a b = some d → ∃ z, (∀ F, Rep X.K C io F d z) ∧ ∀ Q : VK, Q z H → r x y H Q) : OpD X C g f := by
  intro pins s sg H x y v u Q I rx ry ⟨io, S, a, b, d, dn, ra, rb, e, q⟩
  obtain ⟨z, rz, hq⟩ := hf io S H a b d x y dn ra rb e
  exact h pins s sg H x y v u Q I rx ry (hq Q (q z H io (Ext.refl _ _) dn (rz _)))
theorem OpD.or {g : Value → Value → Sem Value} {f f1 f2 : Store → D → D → Option D} (h1 : OpD X C g f1) (h2 : OpD X C g f2) (h : ∀ S a b d, f S a b = some d → f1 S a b = some d ∨ f2 S a b = some d) : OpD X C g f := by
  intro pins s sg H x y v u Q I rx ry ⟨io, S, a, b, d, dn, ra, rb, e, q⟩
  rcases h S a b d e with e | e
  · exact h1 pins s sg H x y v u Q I rx ry ⟨io, S, a, b, d, dn, ra, rb, e, q⟩
  · exact h2 pins s sg H x y v u Q I rx ry ⟨io, S, a, b, d, dn, ra, rb, e, q⟩
/-- two ints -/
def i2 (c : Int → Int → Bool) (g : Int → Int → D) : Store → D → D → Option D
  | _, .int i, .int j => if c i j = true then some (g i j) else none
  | _, _, _ => none
theorem i2_some {c : Int → Int → Bool} {g : Int → Int → D} {S : Store} {a b d : D} (h : i2 c g S a b = some d) : ∃ i j, a = .int i ∧ b = .int j ∧ c i j = true ∧ d = g i j := by
  cases a <;> cases b <;> simp only [i2] at h <;> first | cases h | skip
  rename_i i j
  split at h
  · cases h; exact ⟨i, j, rfl, rfl, by assumption, rfl⟩
  · cases h
theorem opD_i2 {g : Value → Value → Sem Value} {c : Int → Int → Bool} {Cc : Int → Int → Prop} {k : Int → Int → V} {kd : Int → Int → D} (h : OpR X g (rI Cc k)) (hc : ∀ i j, c i j = true → Cc i j) (hk : ∀ io F i j, Rep X.K C io F (kd i j) (k i j)) : OpD X C g (i2 c kd) :=
  opD_flat h fun io S H a b d x y dn ra rb e => by
    obtain ⟨i, j, rfl, rfl, hb, rfl⟩ := i2_some e
    cases ra; cases rb
    exact ⟨k i j, fun F => hk io F i j, fun Q q => ⟨i, j, rfl, rfl, hc i j hb, q⟩⟩
theorem opD_i20 {g : Value → Value → Sem Value} {k : Int → Int → V} {kd : Int → Int → D} (h : OpR X g (rI0 k)) (hk : ∀ io F i j, Rep X.K C io F (kd i j) (k i j)) : OpD X C g (i2 (fun _ _ => true) kd) :=
  opD_flat h fun io S H a b d x y dn ra rb e => by
    obtain ⟨i, j, rfl, rfl, hb, rfl⟩ := i2_some e
    cases ra; cases rb
    exact ⟨k i j, fun F => hk io F i j, fun Q q => ⟨i, j, rfl, rfl, q⟩⟩

/-! ### + -/
def addD (S : Store) (a b : D) : Option D := match a, b with
  | .int i, .int j => some (.int (i + j))
  | .str x, .str y => if x.length + y.length ≤ sizeLine then some (.str (x ++ y)) else none
  | .tup xs, .tup ys => if xs.length + ys.length ≤ sizeLine then some (.tup (xs ++ ys)) else none
  | a, b => match asL S a, asL S b with
    | some xs, some ys => if xs.length + ys.length ≤ sizeLine then some (.lst (xs ++ ys)) else none
    | _, _ => none
/-- two lists that are read, glued -/
def rCatL (K : PySem.W.Frag) : R2 := fun x y H Q => ∃ l b xs zs, x = .ref l ∧ y = .ref b ∧ SqL K H l xs ∧ SqL K H b zs ∧ xs.length + zs.length ≤ sizeLine ∧ ∀ p, H p = none → Q (.ref p) (upd H p (.lst (xs ++ zs)))
open PyProof.Rows PySem.P in
theorem op_catL : OpR X (binaryOp .Add) (rCatL X.K) := by
  intro pins s sg H x y v u Q I rx ry h
  obtain ⟨l, b, xs, zs, rfl, rfl, hH, hB, hz, q⟩ := h
  cases rx
  cases ry
  obtain ⟨its, r, ⟨⟨c1, d1, t1, sl1⟩, n, e, hc, hd, hs⟩, z⟩ := I.list hH
  obtain ⟨its2, r2, ⟨⟨c2, d2, t2, sl2⟩, n2, e2, hc2, hd2, hs2⟩, z2⟩ := I.list hB
  simp only at hc hd hs hc2 hd2 hs2
  subst hc hd hs hc2 hd2 hs2
  have hl := r.length
  have hl2 := r2.length
  have ea : its.toArray ++ its2.toArray = (its ++ its2).toArray := by simp
  refine concat_meets ⟨_, e, rfl⟩ ⟨_, e2, rfl⟩ noFill_list_add seq_list_add PySem.F.slot_list_add PySem.F.entry_list_add (PySem.F.args_list_add_2 _ _) (list_addW l b its.toArray its2.toArray n n2 none none sl1 sl2 (by rw [List.size_toArray, List.size_toArray]; omega)) ⟨e, e2, ?_⟩
  rw [ea]
  exact ⟨.ref _, _, I.lnew (t' := s.toks) (r.append r2) (by rw [List.length_append]; omega), rfl, q _ I.fresh⟩

theorem addD_ok : OpD X C (binaryOp .Add) addD := by
  intro pins s sg H x y v u Q I rx ry ⟨io, S, a, b, d, dn, ra, rb, e, q⟩
  unfold addD at e
  split at e
  · cases e; cases ra; cases rb
    exact op_add pins s sg H _ _ v u Q I rx ry ⟨_, _, rfl, rfl, q _ H io (Ext.refl _ _) dn (.int _)⟩
  · split at e
    · cases e; cases ra; cases rb
      exact op_add_str pins s sg H _ _ v u Q I rx ry ⟨_, _, rfl, rfl, by assumption, q _ H io (Ext.refl _ _) dn (.str _)⟩
    · cases e
  · split at e
    · rename_i xs ys hz
      cases e
      cases ra with
      | @tup pa va _ qa ra =>
      cases rb with
      | @tup pb vb _ qb rb =>
      have l1 := ra.length
      have l2 := rb.length
      refine op_catA pins s sg H _ _ v u Q I rx ry ⟨_, _, _, _, rfl, rfl, sqT_same (Fz_same _ _) qa, sqT_same (Fz_same _ _) qb, by omega, fun ex => ?_, fun nx ey => ?_, fun nx ny p hp => ?_⟩
      · subst ex
        cases xs with
        | nil => exact q _ H io (Ext.refl _ _) dn (.tup qb rb)
        | cons _ _ => cases l1
      · subst ey
        cases ys with
        | nil => rw [List.append_nil] at q; exact q _ H io (Ext.refl _ _) dn (.tup qa ra)
        | cons _ _ => cases l2
      · obtain ⟨x1, d1, r1⟩ := new_tup dn (ra.append rb) hp
        exact q _ _ io x1 d1 r1
    · cases e
  · split at e
    · rename_i xs ys e1 e2
      split at e
      · cases e
        obtain ⟨p1, v1, rfl, h1, r1⟩ := asL_rep e1 dn ra
        obtain ⟨p2, v2, rfl, h2, r2⟩ := asL_rep e2 dn rb
        have l1 := r1.length
        have l2 := r2.length
        refine op_catL pins s sg H _ _ v u Q I rx ry ⟨_, _, _, _, rfl, rfl, h1, h2, by omega, fun p hp => ?_⟩
        obtain ⟨x1, d1, r1⟩ := new_lst dn (r1.append r2) hp
        exact q _ _ io x1 d1 r1
      · cases e
    · cases e
/-! ### the other operators of numbers -/
def mulOk (i j : Int) : Bool := (decide (-(2 ^ 64) < i) && decide (i < 2 ^ 64)) || (decide (-(2 ^ 64) < j) && decide (j < 2 ^ 64))
def subD : Store → D → D → Option D := i2 (fun _ _ => true) fun i j => .int (i - j)
def mulD : Store → D → D → Option D := i2 mulOk fun i j => .int (i * j)
def divD : Store → D → D → Option D := i2 (fun _ j => decide (0 < j) && decide (j < 18446744073709551616)) fun i j => .int (i / j)
def modD : Store → D → D → Option D := i2 (fun _ j => decide (0 < j)) fun i j => .int (i % j)
def powOk (i j : Int) : Bool := decide (0 ≤ j) && decide (j ≤ 1000000) && decide (i.natAbs < 2 ^ 64)
def powD : Store → D → D → Option D := i2 powOk fun i j => .int (i ^ j.toNat)
def shlD : Store → D → D → Option D := i2 powOk fun i j => .int (i * 2 ^ j.toNat)
def shrD : Store → D → D → Option D := i2 (fun _ j => decide (0 ≤ j)) fun i j => .int (i / 2 ^ j.toNat)
def andD : Store → D → D → Option D := i2 (fun _ _ => true) fun i j => .int (Builtin.bitAnd i j)
def orD : Store → D → D → Option D := i2 (fun _ _ => true) fun i j => .int (Builtin.bitOr i j)
def xorD : Store → D → D → Option D := i2 (fun _ _ => true) fun i j => .int (Builtin.bitXor i j)
def ltD : Store → D → D → Option D := i2 (fun _ _ => true) fun i j => .bl (decide (i < j))
def leD : Store → D → D → Option D := i2 (fun _ _ => true) fun i j => .bl (decide (i ≤ j))
def gtD : Store → D → D → Option D := i2 (fun _ _ => true) fun i j => .bl (decide (j < i))
def geD : Store → D → D → Option D := i2 (fun _ _ => true) fun i j => .bl (decide (j ≤ i))
theorem subD_ok : OpD X C (binaryOp .Sub) subD := opD_i20 op_sub fun _ _ _ _ => .int _
theorem mulD_ok : OpD X C (binaryOp .Mult) mulD := opD_i2 op_mul (fun i j h => by simpa [mulOk, CMul] using h) fun _ _ _ _ => .int _
theorem divD_ok : OpD X C (binaryOp .FloorDiv) divD := opD_i2 op_fdivW (fun i j h => by
  simp only [Bool.and_eq_true, decide_eq_true_eq] at h
  exact wide_div (b := 64) h.1 (by omega) (by decide) (by decide)) fun _ _ _ _ => .int _
theorem modD_ok : OpD X C (binaryOp .Mod) modD := opD_i2 op_mod (fun i j h => by simpa using h) fun _ _ _ _ => .int _
theorem powOk_of {i j : Int} (h : powOk i j = true) : CPow i j := by
  unfold powOk at h
  rw [Bool.and_eq_true, Bool.and_eq_true, decide_eq_true_iff, decide_eq_true_iff, decide_eq_true_iff] at h
  exact ⟨h.1.1, h.1.2, h.2⟩
theorem powD_ok : OpD X C (binaryOp .Pow) powD := opD_i2 op_pow (fun i j h => powOk_of h) fun _ _ _ _ => .int _
theorem shlD_ok : OpD X C (binaryOp .LShift) shlD := opD_i2 op_shl (fun i j h => powOk_of h) fun _ _ _ _ => .int _
theorem shrD_ok : OpD X C (binaryOp .RShift) shrD := opD_i2 op_shr (fun i j h => by simpa using h) fun _ _ _ _ => .int _
theorem andD_ok : OpD X C (binaryOp .BitAnd) andD := opD_i20 op_and fun _ _ _ _ => .int _
theorem orD_ok : OpD X C (binaryOp .BitOr) orD := opD_i20 op_or fun _ _ _ _ => .int _
theorem xorD_ok : OpD X C (binaryOp .BitXor) xorD := opD_i20 op_xor fun _ _ _ _ => .int _
theorem ltD_ok : OpD X C (compareOp .Lt) ltD := opD_i20 op_lt fun _ _ _ _ => .bl _
theorem leD_ok : OpD X C (compareOp .LtE) leD := opD_i20 op_le fun _ _ _ _ => .bl _
theorem gtD_ok : OpD X C (compareOp .Gt) gtD := opD_i20 op_gt fun _ _ _ _ => .bl _
theorem geD_ok : OpD X C (compareOp .GtE) geD := opD_i20 op_ge fun _ _ _ _ => .bl _
def negD : Store → D → Option D
  | _, .int i => some (.int (-i))
  | _, _ => none
theorem negD_ok : UnD X C (unaryOp .USub) negD := by
  intro pins s sg H x v Q I rx ⟨io, S, a, d, dn, ra, e, q⟩
  cases ra <;> cases e
  exact un_neg pins s sg H _ v Q I rx ⟨_, rfl, q _ H io (Ext.refl _ _) dn (.int _)⟩

/-! ### is None; data, == -/
def isN : Store → D → D → Option D
  | _, .non, .non => some (.bl true)
  | _, .loc _, .non => some (.bl false)
  | _, .exn _ _ _, .non => some (.bl false)
  | _, .bl _, .non => some (.bl false)
  | _, .int _, .non => some (.bl false)
  | _, .str _, .non => some (.bl false)
  | _, .tup _, .non => some (.bl false)
  | _, .lst _, .non => some (.bl false)
  | _, .dct _ _, .non => some (.bl false)
  | _, .bl a, .bl b => some (.bl (decide (a = b)))
  | _, _, _ => none
def isNot : Store → D → D → Option D
  | _, .non, .non => some (.bl false)
  | _, .loc _, .non => some (.bl true)
  | _, .exn _ _ _, .non => some (.bl true)
  | _, .bl _, .non => some (.bl true)
  | _, .int _, .non => some (.bl true)
  | _, .str _, .non => some (.bl true)
  | _, .tup _, .non => some (.bl true)
  | _, .lst _, .non => some (.bl true)
  | _, .dct _ _, .non => some (.bl true)
  | _, .bl a, .bl b => some (.bl (!decide (a = b)))
  | _, _, _ => none
theorem isN_ok : OpD X C (compareOp .Is) isN := opD_flat (op_isN.or op_is_bl) fun io S H a b d x y dn ra rb e => by
  cases rb <;> cases ra <;> cases e <;> first
    | exact ⟨.bl true, fun _ => .bl _, fun Q q => .inl ⟨rfl, q⟩⟩
    | exact ⟨.bl false, fun _ => .bl _, fun Q q => .inl ⟨rfl, q⟩⟩
    | exact ⟨_, fun _ => .bl _, fun Q q => .inr ⟨_, _, rfl, rfl, q⟩⟩
theorem isNot_ok : OpD X C (compareOp .IsNot) isNot := opD_flat (op_notN.or op_isnot_bl) fun io S H a b d x y dn ra rb e => by
  cases rb <;> cases ra <;> cases e <;> first
    | exact ⟨.bl true, fun _ => .bl _, fun Q q => .inl ⟨rfl, q⟩⟩
    | exact ⟨.bl false, fun _ => .bl _, fun Q q => .inl ⟨rfl, q⟩⟩
    | exact ⟨_, fun _ => .bl _, fun Q q => .inr ⟨_, _, rfl, rfl, q⟩⟩
end
def pyAll (f : D → Option PyData) : List D → Option (List PyData)
  | [] => some []
  | x :: xs => (f x).bind fun y => (pyAll f xs).bind fun ys => some (y :: ys)
/-- a value as plain data -/
def pyD (S : Store) : Nat → D → Option PyData
  | _, .non => some .none
  | _, .bl b => some (.bool b)
  | _, .int i => some (.int i)
  | _, .str x => some (.str x)
  | n + 1, .tup xs => (pyAll (pyD S n) xs).bind fun ys => some (.tuple ys)
  | n + 1, .lst xs => (pyAll (pyD S n) xs).bind fun ys => some (.list ys)
  | n + 1, .loc k => match S[k]? with
    | some (.lst xs) => (pyAll (pyD S n) xs).bind fun ys => some (.list ys)
    | _ => none
  | _, _ => none
theorem pyAll_cons {f : D → Option PyData} {x : D} {xs : List D} {ps : List PyData} (h : pyAll f (x :: xs) = some ps) : ∃ y ys, f x = some y ∧ pyAll f xs = some ys ∧ ps = y :: ys := by
  simp only [pyAll] at h
  cases h1 : f x with
  | none => rw [h1] at h; cases h
  | some y =>
    rw [h1] at h
    cases h2 : pyAll f xs with
    | none => rw [h2] at h; cases h
    | some ys => rw [h2] at h; cases h; exact ⟨y, ys, rfl, rfl, rfl⟩
theorem bind_some' {A B : Type} {o : Option A} {f : A → Option B} {b : B} (h : o.bind f = some b) : ∃ a, o = some a ∧ f a = some b := by
  cases o with
  | none => cases h
  | some a => exact ⟨a, rfl, h⟩
section
variable {X : Cx} {C : Nat → Addr} {io : Io} {S : Store} {H : Hp} {pins : List (Addr × Obj)} {sg : L2.St} {s : Shared}
theorem pyAll_reads {K : PySem.W.Frag} {C : Nat → Addr} {f : D → Option PyData} (hf : ∀ d v p, f d = some p → Rep K C io (Fz io H) d v → Dp K H v p ∧ p.plain = true) : ∀ {xs : List D} {vs : List V} {ps : List PyData}, pyAll f xs = some ps → Reps K C io (Fz io H) xs vs → DpAll K H vs ps ∧ PyData.plainAll ps = true
  | _, _, _, h, .nil => by cases h; exact ⟨.nil, rfl⟩
  | _, _, _, h, .cons r rs => by
    obtain ⟨y, ys, h1, h2, rfl⟩ := pyAll_cons h
    obtain ⟨a, b⟩ := hf _ _ _ h1 r
    obtain ⟨c, d⟩ := pyAll_reads hf h2 rs
    exact ⟨.cons a c, by simp only [PyData.plainAll, b, d, Bool.and_self]⟩
theorem pyD_reads {K : PySem.W.Frag} {C : Nat → Addr} (dn : Den K C io S H) : ∀ (n : Nat) (d : D) (v : V) (p : PyData), pyD S n d = some p → Rep K C io (Fz io H) d v → Dp K H v p ∧ p.plain = true := by
  intro n
  induction n with
  | zero =>
    intro d v p h r
    cases r <;> simp only [pyD] at h <;> cases h
    · exact ⟨.non, rfl⟩
    · exact ⟨.bl _, rfl⟩
    · exact ⟨.int _, rfl⟩
    · exact ⟨.str _, rfl⟩
  | succ n ih =>
    intro d v p h r
    cases r with
    | non => cases h; exact ⟨.non, rfl⟩
    | bl => cases h; exact ⟨.bl _, rfl⟩
    | int => cases h; exact ⟨.int _, rfl⟩
    | str => cases h; exact ⟨.str _, rfl⟩
    | tup q rs =>
      obtain ⟨ys, h1, h2⟩ := bind_some' h
      cases h2
      obtain ⟨a, b⟩ := pyAll_reads ih h1 rs
      exact ⟨.tup (sqT_same (Fz_same _ _) q) a, by simp only [PyData.plain]; exact b⟩
    | lst q rs =>
      obtain ⟨ys, h1, h2⟩ := bind_some' h
      cases h2
      obtain ⟨a, b⟩ := pyAll_reads ih h1 rs
      exact ⟨.lst ((Fz_same _ _).seq q) a, by simp only [PyData.plain]; exact b⟩
    | @loc k a q =>
      simp only [pyD] at h
      split at h
      · rename_i xs e
        obtain ⟨ys, h1, h2⟩ := bind_some' h
        cases h2
        obtain ⟨vs, e1, rs⟩ := dn.obj k _ a e q
        obtain ⟨a, b⟩ := pyAll_reads ih h1 rs
        exact ⟨.lst (.of e1) a, by simp only [PyData.plain]; exact b⟩
      · cases h
    | dct => cases h
    | exn0 => cases h
    | exnF => cases h
theorem pyAll_depth {f : D → Option PyData} {n : Nat} (hf : ∀ d p, f d = some p → p.depth ≤ n) : ∀ {xs : List D} {ps : List PyData}, pyAll f xs = some ps → PyData.depthAll ps ≤ n
  | [], _, h => by cases h; simp [PyData.depthAll]
  | x :: xs, _, h => by
    obtain ⟨y, ys, h1, h2, rfl⟩ := pyAll_cons h
    have a := hf _ _ h1
    have b := pyAll_depth hf h2
    simp only [PyData.depthAll]
    omega
theorem pyD_depth : ∀ (n : Nat) (d : D) (p : PyData), pyD S n d = some p → p.depth ≤ n := by
  intro n
  induction n with
  | zero => intro d p h; cases d <;> simp only [pyD] at h <;> cases h <;> simp [PyData.depth]
  | succ n ih =>
    intro d p h
    cases d with
    | non => cases h; simp [PyData.depth]
    | bl => cases h; simp [PyData.depth]
    | int => cases h; simp [PyData.depth]
    | str => cases h; simp [PyData.depth]
    | tup xs =>
      obtain ⟨ys, h1, h2⟩ := bind_some' h
      cases h2
      simp only [PyData.depth]
      exact Nat.succ_le_succ (pyAll_depth ih h1)
    | lst xs =>
      obtain ⟨ys, h1, h2⟩ := bind_some' h
      cases h2
      simp only [PyData.depth]
      exact Nat.succ_le_succ (pyAll_depth ih h1)
    | loc k =>
      simp only [pyD] at h
      split at h
      · obtain ⟨ys, h1, h2⟩ := bind_some' h
        cases h2
        simp only [PyData.depth]
        exact Nat.succ_le_succ (pyAll_depth ih h1)
      · cases h
    | dct => cases h
    | exn => cases h
/-- a value that reads as data -/
theorem reads_of (I : L2.Inv X pins sg H s) (dn : Den X.K C io S H) {n : Nat} {d : D} {v : V} {p : PyData} {u : Value} (h : pyD S n d = some p) (r : Rep X.K C io (Fz io H) d v) (ru : RelV v u) :
    (∃ as, Reads s.heap u p as) ∧ p.plain = true ∧ p.depth ≤ n := by
  obtain ⟨a, b⟩ := pyD_reads dn n d v p h r
  exact ⟨Dp.reads I p v u a ru, b, pyD_depth n d p h⟩
end
/-- how deep data may lie -/
def deepN : Nat := 60
def eqB (S : Store) (a b : D) : Option Bool := (pyD S deepN a).bind fun x => (pyD S deepN b).bind fun y => some (PyData.eqv x y)
def eqD (S : Store) (a b : D) : Option D := (eqB S a b).bind fun k => some (.bl k)
def neD (S : Store) (a b : D) : Option D := (eqB S a b).bind fun k => some (.bl (!k))
section
variable {X : Cx} {C : Nat → Addr}
theorem eqD_ok (hu : X.A.units + 64 < cLine) : OpD X C (compareOp .Eq) eqD := by
  intro pins s sg H x y v u Q I rx ry ⟨io, S, a, b, d, dn, ra, rb, e, q⟩
  obtain ⟨k, e1, e2⟩ := bind_some' e
  obtain ⟨p, h1, e1⟩ := bind_some' e1
  obtain ⟨p', h2, e1⟩ := bind_some' e1
  cases e1; cases e2
  obtain ⟨⟨as, r1⟩, b1, l1⟩ := reads_of I dn h1 ra rx
  obtain ⟨⟨bs, r2⟩, b2, l2⟩ := reads_of I dn h2 rb ry
  have hl : min p.depth p'.depth ≤ 60 := Nat.le_trans (Nat.min_le_left _ _) l1
  exact SeqAt.eq_plain r1 r2 b1 b2 (by omega) ⟨.bl _, H, I, rfl, q _ H io (Ext.refl _ _) dn (.bl _)⟩
theorem neD_ok (hu : X.A.units + 64 < cLine) : OpD X C (compareOp .NotEq) neD := by
  intro pins s sg H x y v u Q I rx ry ⟨io, S, a, b, d, dn, ra, rb, e, q⟩
  obtain ⟨k, e1, e2⟩ := bind_some' e
  obtain ⟨p, h1, e1⟩ := bind_some' e1
  obtain ⟨p', h2, e1⟩ := bind_some' e1
  cases e1; cases e2
  obtain ⟨⟨as, r1⟩, b1, l1⟩ := reads_of I dn h1 ra rx
  obtain ⟨⟨bs, r2⟩, b2, l2⟩ := reads_of I dn h2 rb ry
  have hl : min p.depth p'.depth ≤ 60 := Nat.le_trans (Nat.min_le_left _ _) l1
  exact SeqAt.ne_plain r1 r2 b1 b2 (by omega) ⟨.bl _, H, I, rfl, q _ H io (Ext.refl _ _) dn (.bl _)⟩
end
end Ev
namespace Ev
open PySem PySem.Spec L2

/-! ### chains of comparisons -/
abbrev RC := D → RE
def rLast (f : Store → D → D → Option D) (b : RE) : RC := fun x e S => (b e S).bind fun y S1 => ofO (f S1 x y) S1
def rLink (f : Store → D → D → Option D) (b : RE) (k : RC) : RC := fun x e S => (b e S).bind fun y S1 => (ofO ((f S1 x y).bind asB) S1).bind fun t S2 => if t = true then k y e S2 else .ok (.bl false) S2
def rChain (a : RE) (k : RC) : RE := fun e S => (a e S).bind fun x S1 => k x e S1
structure PCh (X : Cx) (C : Nat → Addr) (W : WX) (ops : List CmpOp) (es : List Expr) (r : RC) : Prop where
  run : ∀ (pos : Pos) (pins : List (Addr × Obj)) (s : Shared) (sg : L2.St) (H : Hp) (Q : VK) (x : V) (v : Value) (e : Env) (S : Store) (io : Io) (d : D), L2.Inv X pins sg H s → RelV x v → Den X.K C io S H → Slots X.K C io (Fz io H) e sg → Rep X.K C io (Fz io H) d x →
    Post X.K C (RepR X.K C) W sg io H (r d e S) Q → wpAny (model X.prog X.w) X.A (compareChain pos v ops (evalEach es X.env)) (EP X pins sg Q) X.xe s
  runT : ∀ (pos : Pos) (pins : List (Addr × Obj)) (s : Shared) (sg : L2.St) (H : Hp) (Q : Bool → Hp → Prop) (x : V) (v : Value) (e : Env) (S : Store) (io : Io) (d : D), L2.Inv X pins sg H s → RelV x v → Den X.K C io S H → Slots X.K C io (Fz io H) e sg → Rep X.K C io (Fz io H) d x →
    Post X.K C EqR W sg io H ((r d e S).bind fun z S1 => ofO (asB z) S1) Q → wpAny (model X.prog X.w) X.A (testChain pos v ops (evalEach es X.env)) (TP X pins sg Q) X.xe s
section
variable {X : Cx} {C : Nat → Addr} {W : WX} {a b b' c : Expr} {bs : List Expr} {ra rb : RE} {op op' : CmpOp} {ops : List CmpOp} {f : Store → D → D → Option D} {k : RC} {pos : Pos}
theorem Post.asB {K : PySem.W.Frag} {C : Nat → Addr} {sg : L2.St} {io : Io} {H : Hp} {z : D} {S : Store} {Q : Bool → Hp → Prop} (h : Post K C EqR W sg io H (Ev.ofO (Ev.asB z) S) Q) : ∃ t, Ev.asB z = some t ∧ ∀ H' io', Ext io H io' H' → Den K C io' S H' → Q t H' := by
  obtain ⟨t, e, p⟩ := h.ofO
  exact ⟨t, e, fun H' io' x d => p t H' io' x d rfl⟩
theorem ch_last (ho : OpD X C (compareOp op) f) (hb : PE X b (tE X.K C W rb)) : PCh X C W [op] [b] (rLast f rb) where
  run := fun pos pins s sg H Q x v e S io d I rx dn sl r p =>
    PyProof.Rows.chain_last (thn (hb.run pins s sg H _ I ⟨e, S, io, dn, sl, Post.bind (R := RepR X.K C) (k := fun y S1 => ofO (f S1 d y) S1) p⟩) fun u s1 ⟨y, H1, I1, r1, io1, S1, y1, x1, d1, q1, p1⟩ => by
      obtain ⟨z, ez, p1⟩ := p1.ofO
      exact ho pins s1 sg H1 x y v u Q I1 rx r1 ⟨io1, S1, d, y1, z, d1, r.ext x1, q1, ez, p1⟩)
  runT := fun pos pins s sg H Q x v e S io d I rx dn sl r p =>
    PyProof.Rows.test_last (thn (hb.run pins s sg H _ I ⟨e, S, io, dn, sl, Post.bind (R := RepR X.K C) (R' := EqR) (Q := Q) (k := fun y S1 => (ofO (f S1 d y) S1).bind fun z S2 => ofO (asB z) S2) (by rw [← bind_assoc]; exact p)⟩) fun u s1 ⟨y, H1, I1, r1, io1, S1, y1, x1, d1, q1, p1⟩ => by
      cases ez : f S1 d y1 with
      | none => rw [ez] at p1; exact p1.elim
      | some z =>
        rw [ez] at p1
        obtain ⟨t, et, p1⟩ := p1.asB
        refine thn (ho pins s1 sg H1 x y v u (fun w H' => w = .bl t ∧ Q t H') I1 rx r1 ⟨io1, S1, d, y1, z, d1, r.ext x1, q1, ez, fun w H' io' x' d' r' => ⟨asB_rep et r', p1 H' io' x' d'⟩⟩) fun w s2 ⟨w', H2, I2, r2, e2, q2⟩ => ?_
        subst e2
        cases r2
        exact wpAny_truthy_bool ⟨H2, I2, q2⟩)
theorem ch_link (ho : OpD X C (compareOp op) f) (hb : PE X b (tE X.K C W rb)) (hr : PCh X C W (op' :: ops) (b' :: bs) k) : PCh X C W (op :: op' :: ops) (b :: b' :: bs) (rLink f rb k) where
  run := fun pos pins s sg H Q x v e S io d I rx dn sl r p =>
    PyProof.Rows.chain_link (thn (hb.run pins s sg H _ I ⟨e, S, io, dn, sl, Post.bind (R := RepR X.K C) (k := fun y S1 => (ofO ((f S1 d y).bind asB) S1).bind fun t S2 => if t = true then k y e S2 else .ok (.bl false) S2) p⟩) fun u s1 ⟨y, H1, I1, r1, io1, S1, y1, x1, d1, q1, p1⟩ => by
      cases ez : f S1 d y1 with
      | none => rw [ez] at p1; exact p1.elim
      | some z =>
        rw [ez] at p1
        cases et : asB z with
        | none => simp only [Option.bind, et] at p1; exact p1.elim
        | some t =>
        simp only [Option.bind, et, Ev.ofO, Res.bind] at p1
        refine thn (ho pins s1 sg H1 x y v u (fun w H' => w = .bl t ∧ ∃ io', Ext io1 H1 io' H' ∧ Den X.K C io' S1 H') I1 rx r1 ⟨io1, S1, d, y1, z, d1, r.ext x1, q1, ez, fun w H' io' x' d' r' => ⟨asB_rep et r', io', x', d'⟩⟩) fun w s2 ⟨w', H2, I2, r2, e2, io2, x2, d2⟩ => ?_
        subst e2
        cases r2
        refine wpAny_truthy_bool ?_
        cases t with
        | true => exact hr.run pos pins s2 sg H2 Q y u e S1 io2 y1 I2 r1 d2 ((sl.ext x1).ext x2) (q1.ext x2) (p1.ext x2)
        | false => exact ⟨.bl false, H2, I2, rfl, p1 _ H2 io2 x2 d2 (.bl _)⟩)
  runT := fun pos pins s sg H Q x v e S io d I rx dn sl r p =>
    PyProof.Rows.test_link (thn (hb.run pins s sg H _ I ⟨e, S, io, dn, sl, Post.bind (R := RepR X.K C) (R' := EqR) (Q := Q) (k := fun y S1 => ((ofO ((f S1 d y).bind asB) S1).bind fun t S2 => if t = true then k y e S2 else .ok (.bl false) S2).bind fun z S2 => ofO (asB z) S2) (by rw [← bind_assoc]; exact p)⟩) fun u s1 ⟨y, H1, I1, r1, io1, S1, y1, x1, d1, q1, p1⟩ => by
      cases ez : f S1 d y1 with
      | none => rw [ez] at p1; exact p1.elim
      | some z =>
        rw [ez] at p1
        cases et : asB z with
        | none => simp only [Option.bind, et] at p1; exact p1.elim
        | some t =>
        simp only [Option.bind, et, Ev.ofO, Res.bind] at p1
        refine thn (ho pins s1 sg H1 x y v u (fun w H' => w = .bl t ∧ ∃ io', Ext io1 H1 io' H' ∧ Den X.K C io' S1 H') I1 rx r1 ⟨io1, S1, d, y1, z, d1, r.ext x1, q1, ez, fun w H' io' x' d' r' => ⟨asB_rep et r', io', x', d'⟩⟩) fun w s2 ⟨w', H2, I2, r2, e2, io2, x2, d2⟩ => ?_
        subst e2
        cases r2
        refine wpAny_truthy_bool ?_
        cases t with
        | true => exact hr.runT pos pins s2 sg H2 Q y u e S1 io2 y1 I2 r1 d2 ((sl.ext x1).ext x2) (q1.ext x2) (p1.ext x2)
        | false => exact ⟨H2, I2, p1 _ H2 io2 x2 d2 rfl⟩)
theorem ee_chain (ha : PE X a (tE X.K C W ra)) (hr : PCh X C W (op :: op' :: ops) (b :: b' :: bs) k) (hm : lastMarks (op :: op' :: ops) (b :: b' :: bs) = false := by with_unfolding_all rfl) : PE X (.Compare a (op :: op' :: ops) (b :: b' :: bs) pos) (tE X.K C W (rChain ra k)) :=
  ⟨fun pins s sg H Q I h => PyProof.Rows.Compare_chain (thn (ha.run pins s sg H _ I (tR.seq1 (R := RepR X.K C) (fun e x S => k x e S) h fun _ _ => rfl)) fun v s1 ⟨x, H1, I1, r1, e, S, io, x1, d, sl, q, p⟩ =>
    hr.run pos pins s1 sg H1 Q x v e S io x1 I1 r1 d sl q p) hm⟩
theorem et_chain (ha : PE X a (tE X.K C W ra)) (hr : PCh X C W (op :: op' :: ops) (b :: b' :: bs) k) (hm : lastMarks (op :: op' :: ops) (b :: b' :: bs) = false := by with_unfolding_all rfl) : PT X (.Compare a (op :: op' :: ops) (b :: b' :: bs) pos) (tT X.K C W (rTest (rChain ra k))) :=
  ⟨fun pins s sg H Q I h => PyProof.Rows.isTrue_chain (thn (ha.run pins s sg H _ I (tR.seq1 (R := RepR X.K C) (fun e x S => (k x e S).bind fun z S1 => ofO (asB z) S1) h fun e S => by
      show (rChain ra k e S).bind _ = _
      unfold rChain
      rw [bind_assoc])) fun v s1 ⟨x, H1, I1, r1, e, S, io, x1, d, sl, q, p⟩ =>
    hr.runT pos pins s1 sg H1 Q x v e S io x1 I1 r1 d sl q p) hm⟩
end

/-! ### calls of built-ins by values -/
section
variable {X : Cx} {C : Nat → Addr} {W : WX} {e : Expr} {es : List Expr} {rs : RA} {x : Str} {p pos : Pos} {bid T : String} {f : Store → List D → Option D}
theorem ee_callB (hc : CallD X C (.builtin bid) f) (hg : Gl X x) (hm : X.mg x = none) (hv : bootBuiltins x = some (.builtin bid)) (ha : PA X (e :: es) (tA X.K C W rs)) (hn : x ≠ "__name__" := by decide) (hdb : (x == ("__debug__" : Str)) = false := by decide)
    (he : starEach (e :: es) X.env = (false, eval e X.env) :: starEach es X.env := by rfl) (hpl : (backTo pos (starEach es X.env)).any (·.1) = false := by rfl) : PE X (.Call (.Name x p) (e :: es) [] pos) (tE X.K C W (rCal f rs)) :=
  (pe_callB hc hg hm hv ha hn hdb he hpl).imp fun sg H Q h => (tR.seq1 (R := RepsR X.K C) (fun _ xs S => ofO (f S xs) S) h fun _ _ => rfl).mono fun vs H1 ⟨e, S, io, x1, d, s, r1, p⟩ => by
    obtain ⟨z, ez, p⟩ := p.ofO
    exact ⟨io, S, x1, z, d, r1, ez, p⟩
theorem ee_callTy (hc : CallD X C (.type T) f) (hg : Gl X x) (hm : X.mg x = none) (hv : bootBuiltins x = some (.type T)) (ha : PA X (e :: es) (tA X.K C W rs)) (hn : x ≠ "__name__" := by decide) (hdb : (x == ("__debug__" : Str)) = false := by decide)
    (he : starEach (e :: es) X.env = (false, eval e X.env) :: starEach es X.env := by rfl) (hpl : (backTo pos (starEach es X.env)).any (·.1) = false := by rfl) : PE X (.Call (.Name x p) (e :: es) [] pos) (tE X.K C W (rCal f rs)) :=
  (pe_callTy hc hg hm hv ha hn hdb he hpl).imp fun sg H Q h => (tR.seq1 (R := RepsR X.K C) (fun _ xs S => ofO (f S xs) S) h fun _ _ => rfl).mono fun vs H1 ⟨e, S, io, x1, d, s, r1, p⟩ => by
    obtain ⟨z, ez, p⟩ := p.ofO
    exact ⟨io, S, x1, z, d, r1, ez, p⟩
/-- a call that lays nothing -/
theorem callD_flat {g : Value} {r : List V → Hp → VK → Prop} (h : CallR X g r)
    (hf : ∀ io S H as d xs, Den X.K C io S H → Reps X.K C io (Fz io H) as xs → f S as = some d → ∃ z, (∀ F, Rep X.K C io F d z) ∧ ∀ Q : VK, Q z H → r xs H Q) : CallD X C g f := by
  intro pins s sg H xs us Q I rx ⟨io, S, as, d, dn, ra, e, q⟩
  obtain ⟨z, rz, hq⟩ := hf io S H as d xs dn ra e
  exact h pins s sg H xs us Q I rx (hq Q (q z H io (Ext.refl _ _) dn (rz _)))
def absD : Store → List D → Option D
  | _, [.int i] => some (.int (if i < 0 then -i else i))
  | _, _ => none
theorem reps1 {K : PySem.W.Frag} {C : Nat → Addr} {io : Io} {F : Hp} {a : D} {xs : List V} (r : Reps K C io F [a] xs) : ∃ v, xs = [v] ∧ Rep K C io F a v := by
  cases r with
  | cons h t => cases t; exact ⟨_, rfl, h⟩
theorem reps2 {K : PySem.W.Frag} {C : Nat → Addr} {io : Io} {F : Hp} {a b : D} {xs : List V} (r : Reps K C io F [a, b] xs) : ∃ v u, xs = [v, u] ∧ Rep K C io F a v ∧ Rep K C io F b u := by
  cases r with
  | cons h t => obtain ⟨u, rfl, h2⟩ := reps1 t; exact ⟨_, u, rfl, h, h2⟩
theorem absD_ok : CallD X C (.builtin "abs") absD := callD_flat call_abs fun io S H as d xs dn ra e => by
  unfold absD at e
  split at e <;> cases e
  obtain ⟨v, rfl, h⟩ := reps1 ra
  cases h
  exact ⟨.int _, fun _ => .int _, fun Q q => ⟨_, rfl, q⟩⟩
def maxD2 : Store → List D → Option D
  | _, [.int i, .int j] => some (.int (if j > i then j else i))
  | _, _ => none
def minD2 : Store → List D → Option D
  | _, [.int i, .int j] => some (.int (if j < i then j else i))
  | _, _ => none
theorem maxD2_ok (hc : X.calm = true) : CallD X C (.builtin "max") maxD2 := callD_flat (call_max2 hc) fun io S H as d xs dn ra e => by
  unfold maxD2 at e
  split at e <;> cases e
  obtain ⟨v, u, rfl, h, h2⟩ := reps2 ra
  cases h; cases h2
  exact ⟨.int _, fun _ => .int _, fun Q q => ⟨_, _, rfl, q⟩⟩
theorem minD2_ok (hc : X.calm = true) : CallD X C (.builtin "min") minD2 := callD_flat (call_min2 hc) fun io S H as d xs dn ra e => by
  unfold minD2 at e
  split at e <;> cases e
  obtain ⟨v, u, rfl, h, h2⟩ := reps2 ra
  cases h; cases h2
  exact ⟨.int _, fun _ => .int _, fun Q q => ⟨_, _, rfl, q⟩⟩
def intD : Store → List D → Option D
  | _, [.int i] => some (.int i)
  | _, [.bl b] => some (.int (if b then 1 else 0))
  | _, _ => none
theorem intD_ok : CallD X C (.type "int") intD := callD_flat call_int1 fun io S H as d xs dn ra e => by
  unfold intD at e
  split at e <;> cases e
  · obtain ⟨v, rfl, h⟩ := reps1 ra
    cases h
    exact ⟨.int _, fun _ => .int _, fun Q q => .inl ⟨_, rfl, q⟩⟩
  · obtain ⟨v, rfl, h⟩ := reps1 ra
    cases h
    exact ⟨.int _, fun _ => .int _, fun Q q => .inr ⟨_, rfl, q⟩⟩
def lenD : Store → List D → Option D
  | _, [.str x] => if x.length ≤ sizeLine then some (.int x.length) else none
  | _, [.tup xs] => some (.int xs.length)
  | S, [a] => (asL S a).bind fun xs => some (.int xs.length)
  | _, _ => none
theorem lenD_ok : CallD X C (.builtin "len") lenD := callD_flat call_len fun io S H as d xs dn ra e => by
  unfold lenD at e
  split at e
  · split at e <;> cases e
    obtain ⟨v, rfl, h⟩ := reps1 ra
    cases h
    exact ⟨.int _, fun _ => .int _, fun Q q => ⟨_, _, rfl, ⟨by assumption, rfl⟩, q⟩⟩
  · cases e
    obtain ⟨v, rfl, h⟩ := reps1 ra
    cases h with
    | tup q rs => exact ⟨.int _, fun _ => .int _, fun Q q' => ⟨_, _, rfl, .inr ⟨_, sqT_same (Fz_same _ _) q, rs.length⟩, q'⟩⟩
  · obtain ⟨ys, e1, e2⟩ := bind_some' e
    cases e2
    obtain ⟨v, rfl, h⟩ := reps1 ra
    obtain ⟨a, vs, rfl, hq, rs⟩ := asL_rep e1 dn h
    exact ⟨.int _, fun _ => .int _, fun Q q' => ⟨_, _, rfl, .inl ⟨_, hq, rs.length⟩, q'⟩⟩
  · cases e
def asI : D → Option Int
  | .int i => some i
  | _ => none
def allI : List D → Option (List Int)
  | [] => some []
  | .int i :: r => (allI r).bind fun l => some (i :: l)
  | _ => none
theorem allI_rep {K : PySem.W.Frag} {C : Nat → Addr} {io : Io} {F : Hp} : ∀ {xs : List D} {vs : List V} {ns : List Int}, allI xs = some ns → Reps K C io F xs vs → vs = ns.map V.int ∧ xs = ns.map D.int
  | _, _, _, h, .nil => by cases h; exact ⟨rfl, rfl⟩
  | _, _, _, h, .cons r rs => by
    cases r <;> simp only [allI] at h <;> first | cases h | skip
    obtain ⟨l, h1, h2⟩ := bind_some' h
    cases h2
    obtain ⟨a, b⟩ := allI_rep h1 rs
    exact ⟨by rw [a]; rfl, by rw [b]; rfl⟩
theorem allI_map (ns : List Int) : allI (ns.map D.int) = some ns := by
  induction ns with
  | nil => rfl
  | cons i r ih => simp [allI, ih]
def sumD : Store → List D → Option D
  | S, [a] => (asL S a).bind fun xs => (allI xs).bind fun ns => some (.int ns.sum)
  | _, _ => none
theorem sumD_ok (hc : X.calm = true) : CallD X C (.builtin "sum") sumD := callD_flat (cr_sum hc) fun io S H as d xs dn ra e => by
  unfold sumD at e
  split at e
  · obtain ⟨ys, e1, e2⟩ := bind_some' e
    obtain ⟨ns, e4, e3⟩ := bind_some' e2
    cases e3
    obtain ⟨v, rfl, h⟩ := reps1 ra
    obtain ⟨a, vs, rfl, hq, rs⟩ := asL_rep e1 dn h
    obtain ⟨rfl, _⟩ := allI_rep e4 rs
    exact ⟨.int _, fun _ => .int _, fun Q q' => ⟨_, _, rfl, hq, q'⟩⟩
  · cases e
def allB : List D → Option (List Bool)
  | [] => some []
  | .bl i :: r => (allB r).bind fun l => some (i :: l)
  | _ => none
theorem allB_rep {K : PySem.W.Frag} {C : Nat → Addr} {io : Io} {F : Hp} : ∀ {xs : List D} {vs : List V} {ns : List Bool}, allB xs = some ns → Reps K C io F xs vs → vs = ns.map V.bl ∧ xs = ns.map D.bl
  | _, _, _, h, .nil => by cases h; exact ⟨rfl, rfl⟩
  | _, _, _, h, .cons r rs => by
    cases r <;> simp only [allB] at h <;> first | cases h | skip
    obtain ⟨l, h1, h2⟩ := bind_some' h
    cases h2
    obtain ⟨a, b⟩ := allB_rep h1 rs
    exact ⟨by rw [a]; rfl, by rw [b]; rfl⟩
theorem allB_map (ns : List Bool) : allB (ns.map D.bl) = some ns := by
  induction ns with
  | nil => rfl
  | cons i r ih => simp [allB, ih]
def anyD : Store → List D → Option D
  | S, [a] => (asL S a).bind fun xs => (allB xs).bind fun ns => some (.bl (ns.any id))
  | _, _ => none
def allD : Store → List D → Option D
  | S, [a] => (asL S a).bind fun xs => (allB xs).bind fun ns => some (.bl (ns.all id))
  | _, _ => none
theorem anyD_ok (hc : X.calm = true) : CallD X C (.builtin "any") anyD := callD_flat (cr_any hc) fun io S H as d xs dn ra e => by
  unfold anyD at e
  split at e
  · obtain ⟨ys, e1, e2⟩ := bind_some' e
    obtain ⟨ns, e4, e3⟩ := bind_some' e2
    cases e3
    obtain ⟨v, rfl, h⟩ := reps1 ra
    obtain ⟨a, vs, rfl, hq, rs⟩ := asL_rep e1 dn h
    obtain ⟨rfl, _⟩ := allB_rep e4 rs
    exact ⟨.bl _, fun _ => .bl _, fun Q q' => ⟨_, _, rfl, hq, q'⟩⟩
  · cases e
theorem allD_ok (hc : X.calm = true) : CallD X C (.builtin "all") allD := callD_flat (cr_all hc) fun io S H as d xs dn ra e => by
  unfold allD at e
  split at e
  · obtain ⟨ys, e1, e2⟩ := bind_some' e
    obtain ⟨ns, e4, e3⟩ := bind_some' e2
    cases e3
    obtain ⟨v, rfl, h⟩ := reps1 ra
    obtain ⟨a, vs, rfl, hq, rs⟩ := asL_rep e1 dn h
    obtain ⟨rfl, _⟩ := allB_rep e4 rs
    exact ⟨.bl _, fun _ => .bl _, fun Q q' => ⟨_, _, rfl, hq, q'⟩⟩
  · cases e
end

/-! ### subscripts, slices -/
def ixD (S : Store) (a b : D) : Option D := match a, b with
  | .tup xs, .int i => atI xs i
  | .str z, .int i => if z.length ≤ sizeLine then (atI z.cps.toList i).bind fun c => some (.str ⟨#[c]⟩) else none
  | a, .int i => (asL S a).bind fun xs => atI xs i
  | _, _ => none
theorem atI_reps {K : PySem.W.Frag} {C : Nat → Addr} {io : Io} {F : Hp} {xs : List D} {vs : List V} {i : Int} {d : D} (h : atI xs i = some d) (r : Reps K C io F xs vs) : ∃ v, atI vs i = some v ∧ Rep K C io F d v := by
  unfold atI at h ⊢
  obtain ⟨j, h1, h2⟩ := bind_some' h
  obtain ⟨v, h3, h4⟩ := r.get h2
  exact ⟨v, by rw [← r.length, h1]; exact h3, h4⟩
def cutD (xs : List D) (lo hi : Option Int) : List D := (xs.drop (HT.sIx xs.length 0 lo)).take (HT.sIx xs.length xs.length hi - HT.sIx xs.length 0 lo)
theorem cut_reps {K : PySem.W.Frag} {C : Nat → Addr} {io : Io} {F : Hp} {xs : List D} {vs : List V} (r : Reps K C io F xs vs) (lo hi : Option Int) : Reps K C io F (cutD xs lo hi) (cutV vs lo hi) := by
  unfold cutD cutV
  rw [r.length]
  exact (r.drop _).take _
/-- a part of a slice -/
abbrev RO := Env → Store → Res (Option Int)
def rNoP : RO := fun _ S => .ok none S
def rPart (a : RE) : RO := fun e S => (a e S).bind fun x S1 => (ofO (asI x) S1).bind fun i S2 => .ok (some i) S2
abbrev tO (K : PySem.W.Frag) (C : Nat → Addr) (W : WX) (r : RO) : TO := tR K C EqR W r
def slD (S : Store) (a : D) (lo hi : Option Int) : Option D := match a with
  | .tup xs => some (.tup (cutD xs lo hi))
  | .str z => if z.length ≤ sizeLine then some (.str (cutS z lo hi)) else none
  | a => (asL S a).bind fun xs => some (.lst (cutD xs lo hi))
def rSl (a : RE) (lo hi : RO) : RE := fun e S => (a e S).bind fun x S1 => (lo e S1).bind fun l S2 => (hi e S2).bind fun h S3 => ofO (slD S3 x l h) S3
section
variable {X : Cx} {C : Nat → Addr} {W : WX} {a b : Expr} {ra rb : RE} {lo hi : Option Expr} {rl rh : RO} {pos p2 : Pos}
theorem ixD_ok : IxR X (fun x y H Q => ∃ io S a b d, Den X.K C io S H ∧ Rep X.K C io (Fz io H) a x ∧ Rep X.K C io (Fz io H) b y ∧ ixD S a b = some d ∧ ∀ v H' io', Ext io H io' H' → Den X.K C io' S H' → Rep X.K C io' (Fz io' H') d v → Q v H') := by
  intro value slice pins s sg H x y v u Q I rx ry ⟨io, S, a, b, d, dn, ra, rb, e, q⟩ hs
  refine ix_seq value slice pins s sg H x y v u Q I rx ry ?_ hs
  unfold ixD at e
  split at e
  · cases rb
    cases ra with
    | tup q1 rs =>
      obtain ⟨w, h1, h2⟩ := atI_reps e rs
      exact .inr (.inl ⟨_, _, _, w, rfl, rfl, sqT_same (Fz_same _ _) q1, h1, q _ H io (Ext.refl _ _) dn h2⟩)
  · split at e
    · obtain ⟨c, h1, h2⟩ := bind_some' e
      cases h2
      cases ra; cases rb
      exact .inr (.inr ⟨_, _, c, rfl, rfl, by assumption, h1, q _ H io (Ext.refl _ _) dn (.str _)⟩)
    · cases e
  · obtain ⟨xs, h1, h2⟩ := bind_some' e
    cases rb
    obtain ⟨p, vs, rfl, hq, rs⟩ := asL_rep h1 dn ra
    obtain ⟨w, h3, h4⟩ := atI_reps h2 rs
    exact .inl ⟨_, _, _, w, rfl, rfl, hq, h3, q _ H io (Ext.refl _ _) dn h4⟩
  · cases e
theorem ee_ix (ha : PE X a (tE X.K C W ra)) (hb : PE X b (tE X.K C W rb)) (hs : PlainIx b := by exact fun _ _ => rfl) : PE X (.Subscript a b pos) (tE X.K C W (rBin ixD ra rb)) :=
  (pe_ix ixD_ok ha hb hs).imp fun sg H Q h => (tR.seq2 repM (fun _ x y S => ofO (ixD S x y) S) h fun _ _ => rfl).mono fun x H1 h1 => h1.mono fun y H2 ⟨e, S, io, x1, y1, d, s, r1, r2, p⟩ => by
    obtain ⟨z, ez, p⟩ := p.ofO
    exact ⟨io, S, x1, y1, z, d, r1, r2, ez, p⟩
theorem eo_none : PO X none (tO X.K C W rNoP) := ⟨fun pins s sg H Q I h => po_none.run pins s sg H Q I (by
  obtain ⟨e, S, io, d, sl, p⟩ := h
  exact p none H io (Ext.refl _ _) d rfl)⟩
theorem eo_some (ha : PE X a (tE X.K C W ra)) : PO X (some a) (tO X.K C W (rPart ra)) := ⟨fun pins s sg H Q I h => (po_some ha).run pins s sg H Q I (by
  refine (tR.seq1 (R := RepR X.K C) (fun _ x S => (ofO (asI x) S).bind fun i S2 => .ok (some i) S2) h fun _ _ => rfl).mono fun x H1 ⟨e, S, io, x1, d, sl, r1, p⟩ => ?_
  cases x1 <;> simp only [asI, ofO, Res.bind] at p <;> first | exact p.elim | skip
  cases r1
  exact ⟨_, rfl, p _ H1 io (Ext.refl _ _) d rfl⟩)⟩
theorem slD_ok : SlR X (fun x l h H Q => ∃ io S a d, Den X.K C io S H ∧ Rep X.K C io (Fz io H) a x ∧ slD S a l h = some d ∧ ∀ v H' io', Ext io H io' H' → Den X.K C io' S H' → Rep X.K C io' (Fz io' H') d v → Q v H') := by
  have hr := (SlR.or (SlR.or (sl_list (X := X)) sl_tupA) sl_str)
  intro pins s sg H x v vl vu l h sl Q I rx h1 h2 h3 ⟨io, S, a, d, dn, ra, e, q⟩
  refine hr pins s sg H x v vl vu l h sl Q I rx h1 h2 h3 ?_
  unfold slD at e
  split at e
  · cases e
    cases ra with
    | tup q1 rs =>
      refine .inl (.inr ⟨_, _, rfl, sqT_same (Fz_same _ _) q1, fun hw => ?_, fun hw p hp => ?_⟩)
      · refine q _ H io (Ext.refl _ _) dn ?_
        rename_i xs va vs
        have e2 : cutD xs l h = xs := by
          unfold cutD
          rw [rs.length, hw.1, hw.2, List.drop_zero, Nat.sub_zero, ← rs.length, List.take_length]
        rw [e2]
        exact .tup q1 rs
      · obtain ⟨x1, d1, r1⟩ := new_tup dn (cut_reps rs l h) hp
        exact q _ _ io x1 d1 r1
  · split at e
    · cases e
      cases ra
      exact .inr ⟨_, rfl, by assumption, q _ H io (Ext.refl _ _) dn (.str _)⟩
    · cases e
  · obtain ⟨xs, e1, e2⟩ := bind_some' e
    cases e2
    obtain ⟨p, vs, rfl, hq, rs⟩ := asL_rep e1 dn ra
    refine .inl (.inl ⟨_, _, rfl, hq, fun p hp => ?_⟩)
    obtain ⟨x1, d1, r1⟩ := new_lst dn (cut_reps rs l h) hp
    exact q _ _ io x1 d1 r1
theorem ee_sl (ha : PE X a (tE X.K C W ra)) (hl : PO X lo (tO X.K C W rl)) (hh : PO X hi (tO X.K C W rh)) : PE X (.Subscript a (.Slice lo hi none p2) pos) (tE X.K C W (rSl ra rl rh)) :=
  (pe_slice slD_ok ha hl hh).imp fun sg H Q h => (tR.seq2 (R2 := EqR) repM (fun e x l S2 => (rh e S2).bind fun h S3 => ofO (slD S3 x l h) S3) h fun _ _ => rfl).mono fun x H1 h1 => h1.mono fun l H2 ⟨e, S, io, x1, l1, d, sl, r1, r2, p⟩ => by
    cases r2
    exact ⟨e, S, io, d, sl, p.bind.mono fun h H3 ⟨io3, S3, h3, x3, d3, r3, p3⟩ => by
      cases r3
      obtain ⟨z, ez, p3⟩ := p3.ofO
      exact ⟨io3, S3, x1, z, d3, r1.ext x3, ez, p3⟩⟩
end
end Ev
namespace Ev
open PySem PySem.Spec L2

/-! ### statements -/
inductive Fl where
  | nx (e : Env) (S : Store)
  | rt (d : D) (S : Store)
  | er (x : Exn) (e : Env) (S : Store)
  | bad
abbrev RS := Env → Store → Fl
def Res.fl {A : Type} (e : Env) : Res A → (A → Store → Fl) → Fl
  | .ok a S, k => k a S
  | .err x S, _ => .er x e S
  | .bad, _ => .bad
def Fl.andThen : Fl → RS → Fl
  | .nx e S, k => k e S
  | .rt d S, _ => .rt d S
  | .er x e S, _ => .er x e S
  | .bad, _ => .bad
def PostS (K : PySem.W.Frag) (C : Nat → Addr) (W : WX) (io : Io) (H : Hp) (f : Fl) (Dn : Ends) : Prop :=
  match f with
  | .nx e S => ∀ sg H' io', Ext io H io' H' → Den K C io' S H' → Slots K C io' (Fz io' H') e sg → Dn.nx sg H'
  | .rt d S => ∀ v H' io', Ext io H io' H' → Den K C io' S H' → Rep K C io' (Fz io' H') d v → Dn.rt v H'
  | .er x e S => ∀ cls dd sg H' io', Ext io H io' H' → Den K C io' S H' → Slots K C io' (Fz io' H') e sg → XR K C io' H' x cls dd → W cls dd sg H'
  | .bad => False
def tS (K : PySem.W.Frag) (C : Nat → Addr) (W : WX) (r : RS) : TS := fun Dn sg H =>
  ∃ (e : Env) (S : Store) (io : Io), Den K C io S H ∧ Slots K C io (Fz io H) e sg ∧ PostS K C W io H (r e S) Dn
section
variable {K : PySem.W.Frag} {C : Nat → Addr} {A B : Type} {R : Io → Hp → A → B → Prop} {W : WX} {sg : L2.St} {io io' : Io} {H H' : Hp} {Dn : Ends}
theorem PostS.ext {f : Fl} (e : Ext io H io' H') (h : PostS K C W io H f Dn) : PostS K C W io' H' f Dn := by
  cases f with
  | nx a S => exact fun sg H2 io2 x d q => h sg H2 io2 (e.trans x) d q
  | rt a S => exact fun sg H2 io2 x d q => h sg H2 io2 (e.trans x) d q
  | er x a S => exact fun c dd sg H2 io2 x' d q => h c dd sg H2 io2 (e.trans x') d q
  | bad => exact h
theorem PostS.of_res {r : Res A} {e : Env} {k : A → Store → Fl} (h : PostS K C W io H (r.fl e k) Dn) (s : Slots K C io (Fz io H) e sg) :
    Post K C R W sg io H r (fun b H1 => ∃ io1 S1 a, Ext io H io1 H1 ∧ Den K C io1 S1 H1 ∧ R io1 (Fz io1 H1) a b ∧ PostS K C W io1 H1 (k a S1) Dn) := by
  cases r with
  | ok a S => exact fun b H2 io2 x d q => ⟨io2, S, a, x, d, q, PostS.ext x h⟩
  | err x S => exact fun cls dd H2 io2 x' d q => h cls dd sg H2 io2 x' d (s.ext x') q
  | bad => exact h
/-- an expression, then the rest -/
theorem tS.seq {r : Env → Store → Res A} {m : RS} (k : Env → A → Store → Fl) (h : tS K C W m Dn sg H) (e' : ∀ e S, m e S = (r e S).fl e (k e)) :
    tR K C R W r sg H fun b H1 => ∃ e S io a, Den K C io S H1 ∧ Slots K C io (Fz io H1) e sg ∧ R io (Fz io H1) a b ∧ PostS K C W io H1 (k e a S) Dn := by
  obtain ⟨e, S, io, d, s, p⟩ := h
  rw [e'] at p
  exact ⟨e, S, io, d, s, (p.of_res s).mono fun b H1 ⟨io1, S1, a, x, d1, q, p1⟩ => ⟨e, S1, io1, a, d1, s.ext x, q, p1⟩⟩
end
def sNil : RS := fun e S => .nx e S
def sSeq (a b : RS) : RS := fun e S => (a e S).andThen b
def sIf (t : RT) (a b : RS) : RS := fun e S => (t e S).fl e fun k S1 => if k = true then a e S1 else b e S1
def sRet (a : RE) : RS := fun e S => (a e S).fl e fun d S1 => .rt d S1
def sRetN : RS := fun _ S => .rt .non S
def sExp (a : RE) : RS := fun e S => (a e S).fl e fun _ S1 => .nx e S1
def sSet (i : Nat) (a : RE) : RS := fun e S => (a e S).fl e fun d S1 => .nx (e.set i (some d)) S1
section
variable {X : Cx} {C : Nat → Addr} {W : WX} {st : Stmt} {rest sa sb : List Stmt} {ma mb : RS} {a c : Expr} {ra : RE} {tc : RT} {pos : Pos}
theorem es_nil : PSs X [] (tS X.K C W sNil) := pss_nil.imp fun Dn sg H ⟨e, S, io, d, s, p⟩ => p sg H io (Ext.refl _ _) d s
theorem es_cons (h1 : PS X st (tS X.K C W ma)) (h2 : PSs X rest (tS X.K C W mb)) : PSs X (st :: rest) (tS X.K C W (sSeq ma mb)) :=
  (pss_cons h1 h2).imp fun Dn sg H ⟨e, S, io, d, s, p⟩ => ⟨e, S, io, d, s, by
    unfold sSeq at p
    cases q : ma e S with
    | nx e1 S1 =>
      rw [q] at p
      exact fun sg' H' io' x d' s' => ⟨e1, S1, io', d', s', PostS.ext x p⟩
    | rt d1 S1 => rw [q] at p; exact p
    | er x e1 S1 => rw [q] at p; exact p
    | bad => rw [q] at p; exact p⟩
theorem es_one (h1 : PS X st (tS X.K C W ma)) : PSs X [st] (tS X.K C W ma) := pss_one h1
theorem s_pass : PS X (.Pass pos) (tS X.K C W sNil) := ps_pass.imp fun Dn sg H ⟨e, S, io, d, s, p⟩ => p sg H io (Ext.refl _ _) d s
theorem s_if (hc : PT X c (tT X.K C W tc)) (ha : PSs X sa (tS X.K C W ma)) (hb : PSs X sb (tS X.K C W mb)) : PS X (.If c sa sb pos) (tS X.K C W (sIf tc ma mb)) :=
  (ps_if hc ha hb).imp fun Dn sg H h => (tS.seq (R := EqR) (fun e k S1 => if k = true then ma e S1 else mb e S1) h fun _ _ => rfl).mono fun k H1 ⟨e, S, io, k1, d, s, q, p⟩ => by
    cases q
    cases k with
    | true => exact ⟨e, S, io, d, s, p⟩
    | false => exact ⟨e, S, io, d, s, p⟩
theorem s_ret (ha : PE X a (tE X.K C W ra)) : PS X (.Return (some a) pos) (tS X.K C W (sRet ra)) :=
  (ps_ret ha).imp fun Dn sg H h => (tS.seq (R := RepR X.K C) (fun e d S1 => .rt d S1) h fun _ _ => rfl).mono fun v H1 ⟨e, S, io, k1, d, s, q, p⟩ => p v H1 io (Ext.refl _ _) d q
theorem s_retN : PS X (.Return none pos) (tS X.K C W sRetN) := ps_retN.imp fun Dn sg H ⟨e, S, io, d, s, p⟩ => p .non H io (Ext.refl _ _) d .non
theorem s_exp (ha : PE X a (tE X.K C W ra)) (hs : swapsWith a none pos.line X.env = pure false := by rfl) : PS X (.Expr a pos) (tS X.K C W (sExp ra)) :=
  (ps_expr ha hs).imp fun Dn sg H h => (tS.seq (R := RepR X.K C) (fun e d S1 => .nx e S1) h fun _ _ => rfl).mono fun v H1 ⟨e, S, io, k1, d, s, q, p⟩ => p sg H1 io (Ext.refl _ _) d s
theorem s_set (i : Nat) {x : Str} {pos' : Pos} (hN : X.N.Nodup) (ha : PE X a (tE X.K C W ra)) (hi : X.N[i]? = some x := by rfl) (hx : Loc X.env.scope x := by first | exact Or.inl rfl | exact Or.inr rfl) (hs : swapsWith a (some (.Name x pos')) pos.line X.env = pure false := by rfl)
    (hf : X.fn x = true ∨ X.env.scope.names.lookup x = some .local := by first | exact .inl rfl | exact .inr rfl | assumption) : PS X (.Assign [.Name x pos'] a pos) (tS X.K C W (sSet i ra)) :=
  (ps_set hN hi hx ha hs hf).imp fun Dn sg H h => (tS.seq (R := RepR X.K C) (fun e d S1 => .nx (e.set i (some d)) S1) h fun _ _ => rfl).mono fun v H1 ⟨e, S, io, k1, d, s, q, p⟩ => p _ H1 io (Ext.refl _ _) d (s.set i q)
end

/-! ### targets -/
def setAll {A : Type} : List Nat → List A → List (Option A) → List (Option A)
  | i :: is, d :: ds, e => setAll is ds (e.set i (some d))
  | _, _, e => e
/-- the items that a value is taken apart to -/
def parts (S : Store) : D → Option (List D)
  | .tup xs => some xs
  | d => asL S d
inductive Tg where
  | nm (i : Nat)
  | tp (is : List Nat)
def bindT (S : Store) (d : D) (e : Env) : Tg → Option Env
  | .nm i => some (e.set i (some d))
  | .tp is => (parts S d).bind fun ds => if ds.length = is.length then some (setAll is ds e) else none
theorem setAll_slots {K : PySem.W.Frag} {C : Nat → Addr} {io : Io} {F : Hp} : ∀ (is : List Nat) {ds : List D} {vs : List V} {e : Env} {sg : L2.St}, Slots K C io F e sg → Reps K C io F ds vs → Slots K C io F (setAll is ds e) (setAll is vs sg)
  | [], _, _, _, _, s, _ => s
  | _ :: _, _, _, _, _, s, .nil => s
  | i :: is, _, _, _, _, s, .cons h r => setAll_slots is (s.set i h) r
def Tg.ixs : Tg → List Nat
  | .nm i => [i]
  | .tp is => is
/-- the slots but for the target's are the same -/
def Agree (t : Tg) (sg sg' : L2.St) : Prop := ∀ vs : List Nat, (∀ i ∈ t.ixs, i ∈ vs) → wipe sg' vs = wipe sg vs
theorem wipe_get (sg : L2.St) (j : Nat) : ∀ vs : List Nat, (wipe sg vs)[j]? = if j ∈ vs then (if j < sg.length then some none else none) else sg[j]?
  | [] => by simp [wipe]
  | v :: vs => by
    have ih := wipe_get sg j vs
    have hl := wipe_length sg vs
    unfold wipe
    by_cases hv : j = v
    · subst hv
      by_cases hj : j < sg.length
      · rw [List.getElem?_set_self (by rw [hl]; exact hj)]
        simp [hj]
      · rw [List.getElem?_eq_none (by rw [List.length_set, hl]; omega)]
        simp [hj]
    · rw [List.getElem?_set_ne (Ne.symm hv), ih]
      simp [hv]
theorem wipe_set (sg : L2.St) (i : Nat) (x : Option V) {vs : List Nat} (h : i ∈ vs) : wipe (sg.set i x) vs = wipe sg vs := by
  apply List.ext_getElem?
  intro j
  rw [wipe_get, wipe_get, List.length_set]
  by_cases hj : j ∈ vs
  · simp [hj]
  · have : i ≠ j := fun e => hj (e ▸ h)
    rw [if_neg hj, if_neg hj, List.getElem?_set_ne this]
theorem wipe_setAll : ∀ (is : List Nat) (us : List V) (sg : L2.St) {vs : List Nat}, (∀ i ∈ is, i ∈ vs) → wipe (setAll is us sg) vs = wipe sg vs
  | [], _, _, _, _ => by simp [setAll]
  | i :: is, [], sg, vs, h => by simp [setAll]
  | i :: is, u :: us, sg, vs, h => by
    show wipe (setAll is us (sg.set i (some u))) vs = wipe sg vs
    rw [wipe_setAll is us _ (fun j hj => h j (List.mem_cons_of_mem _ hj)), wipe_set _ _ _ (h i List.mem_cons_self)]
def GD (X : Cx) (C : Nat → Addr) (tg : Expr) (t : Tg) : Prop :=
  PG X tg (fun v sg H Q => ∃ e S io d e', Den X.K C io S H ∧ Slots X.K C io (Fz io H) e sg ∧ Rep X.K C io (Fz io H) d v ∧ bindT S d e t = some e' ∧ ∀ sg', Slots X.K C io (Fz io H) e' sg' → Agree t sg sg' → Q sg' H)
theorem _root_.L2.PG.imp {X : Cx} {e : Expr} {t t' : TG} (h : PG X e t) (hi : ∀ v sg H Q, t' v sg H Q → t v sg H Q) : PG X e t' := ⟨fun pins s sg H v u Q I r hw => h.run pins s sg H v u Q I r (hi _ _ _ _ hw)⟩
theorem _root_.L2.PG.or {X : Cx} {e : Expr} {t t' : TG} (h : PG X e t) (h' : PG X e t') : PG X e (fun v sg H Q => t v sg H Q ∨ t' v sg H Q) := ⟨fun pins s sg H v u Q I r hw => hw.elim (h.run pins s sg H v u Q I r) (h'.run pins s sg H v u Q I r)⟩
section
variable {X : Cx} {C : Nat → Addr} {W : WX} {pos : Pos}
theorem g_nm (i : Nat) {x : Str} (hN : X.N.Nodup) (hi : X.N[i]? = some x := by rfl) (hx : Loc X.env.scope x := by first | exact Or.inl rfl | exact Or.inr rfl) (hf : X.fn x = true ∨ X.env.scope.names.lookup x = some .local := by first | exact .inl rfl | exact .inr rfl | assumption) : GD X C (.Name x pos) (.nm i) :=
  (pg_name hN hi hx hf).imp fun v sg H Q ⟨e, S, io, d, e', dn, s, r, b, q⟩ => by cases b; exact q _ (s.set i r) fun vs h => wipe_set _ _ _ (h i (by simp [Tg.ixs]))
/-- names, one after another -/
def gAll (is : List Nat) : TGs := fun vs sg H Q => vs.length = is.length ∧ Q (setAll is vs sg) H
theorem gs_nil : PGs X [] (gAll []) := ⟨fun pins s sg H vs us Q I r h => pgs_nil.run pins s sg H vs us Q I r ⟨List.eq_nil_of_length_eq_zero h.1, by
  have := List.eq_nil_of_length_eq_zero h.1
  subst this
  exact h.2⟩⟩
theorem gs_cons (i : Nat) {is : List Nat} {x : Str} {es : List Expr} (hN : X.N.Nodup) (h2 : PGs X es (gAll is)) (hi : X.N[i]? = some x := by rfl) (hx : Loc X.env.scope x := by first | exact Or.inl rfl | exact Or.inr rfl) (hf : X.fn x = true ∨ X.env.scope.names.lookup x = some .local := by first | exact .inl rfl | exact .inr rfl | assumption) :
    PGs X (.Name x pos :: es) (gAll (i :: is)) := ⟨fun pins s sg H vs us Q I r h => (pgs_cons (pg_name hN hi hx hf) h2).run pins s sg H vs us Q I r (by
  obtain ⟨hl, h⟩ := h
  cases vs with
  | nil => cases hl
  | cons v vr => exact ⟨v, vr, rfl, by simpa using hl, h⟩)⟩
theorem g_tp {is : List Nat} {es : List Expr} {k : Nat} (hc : X.calm = true) (h : PGs X es (gAll is)) (hn : (assignEach es X.env).length = is.length := by rfl) (hst : (assignEach es X.env).findIdx? (·.1) = none := by rfl) : GD X C (.Tuple es k pos) (.tp is) :=
  ((pg_tup hc h hn hst).or (pg_lst hc h hn hst)).imp fun v sg H Q ⟨e, S, io, d, e', dn, s, r, b, q⟩ => by
    obtain ⟨ds, h1, h2⟩ := bind_some' b
    split at h2
    · rename_i hl
      cases h2
      unfold parts at h1
      split at h1
      · cases h1
        cases r with
        | tup q1 rs => exact .inl ⟨_, _, rfl, sqT_same (Fz_same _ _) q1, by rw [← rs.length]; exact hl, by rw [← rs.length]; exact hl, q _ (setAll_slots is s rs) fun vs h => wipe_setAll is _ _ h⟩
      · obtain ⟨p, vs, rfl, hq, rs⟩ := asL_rep h1 dn r
        exact .inr ⟨_, _, rfl, hq, by rw [← rs.length]; exact hl, by rw [← rs.length]; exact hl, q _ (setAll_slots is s rs) fun vs h => wipe_setAll is _ _ h⟩
    · cases h2
def sAsg (t : Tg) (a : RE) : RS := fun e S => (a e S).fl e fun d S1 => match bindT S1 d e t with
  | some e' => .nx e' S1
  | none => .bad
theorem s_asg {a tg : Expr} {t : Tg} {ra : RE} (ha : PE X a (tE X.K C W ra)) (hg : GD X C tg t) (hs : swapsWithSole [tg] a pos.line X.env = pure false := by rfl) (hw : swappedStores [tg] a X.env = pure none := by rfl)
    (h1 : (assignEach [tg] X.env).map (·.2) = [assign tg X.env] := by rfl) : PS X (.Assign [tg] a pos) (tS X.K C W (sAsg t ra)) :=
  (ps_asg ha hg hs hw h1).imp fun Dn sg H h => (tS.seq (R := RepR X.K C) (fun e d S1 => match bindT S1 d e t with | some e' => .nx e' S1 | none => .bad) h fun _ _ => rfl).mono fun v H1 ⟨e, S, io, k1, d, s, q, p⟩ => by
    cases hb : bindT S k1 e t with
    | none => rw [hb] at p; exact p.elim
    | some e' =>
      rw [hb] at p
      exact ⟨e, S, io, k1, e', d, s, q, hb, fun sg' s' _ => p sg' H1 io (Ext.refl _ _) d s'⟩
/-- a, b = x, y and a, b, c = x, y, z, plain local names -/
def sPar (is : List Nat) (as : RA) : RS := fun e S => (as e S).fl e fun ds S1 => if ds.length = is.length then .nx (setAll is ds e) S1 else .bad
theorem s_par2 (i j : Nat) {x y : Str} {a b : Expr} {rs : RA} {px py pt : Pos} {kt k2 pt2} (hc : X.calm = true) (hN : X.N.Nodup) (ha : PA X [a, b] (tA X.K C W rs)) (hi : X.N[i]? = some x := by rfl) (hj : X.N[j]? = some y := by rfl) (hij : i ≠ j := by decide)
    (hx : X.env.scope.names.lookup x = some .local := by rfl) (hy : X.env.scope.names.lookup y = some .local := by rfl)
    (hw : swappedStores [.Tuple [.Name x px, .Name y py] kt pt] (.Tuple [a, b] k2 pt2) X.env = pure (some [x, y]) := by rfl)
    (hs : swapsWithSole [.Tuple [.Name x px, .Name y py] kt pt] (.Tuple [a, b] k2 pt2) pos.line X.env = pure false := by rfl) :
    PS X (.Assign [.Tuple [.Name x px, .Name y py] kt pt] (.Tuple [a, b] k2 pt2) pos) (tS X.K C W (sPar [i, j] rs)) :=
  (ps_par hc hN hi hj hij hx hy ha hw hs).imp fun Dn sg H h => (tS.seq (R := RepsR X.K C) (fun e ds S1 => if ds.length = [i, j].length then .nx (setAll [i, j] ds e) S1 else .bad) h fun _ _ => rfl).mono fun vs H1 ⟨e, S, io, k1, d, s, q, p⟩ => by
    split at p
    · rename_i hl
      match k1, vs, q, hl with
      | [d1, d2], [v1, v2], q, hl => exact ⟨v1, v2, rfl, p _ H1 io (Ext.refl _ _) d (setAll_slots [i, j] s q)⟩
      | [_, _], [_], q, hl => exact nomatch q.length
      | [_, _], [], q, hl => exact nomatch q.length
      | [_, _], _ :: _ :: _ :: _, q, hl => exact nomatch q.length
    · exact p.elim
theorem s_par3 (i j l : Nat) {x y z : Str} {a b c : Expr} {rs : RA} {px py pz pt : Pos} {kt k2 pt2} (hc : X.calm = true) (hN : X.N.Nodup) (ha : PA X [a, b, c] (tA X.K C W rs)) (hi : X.N[i]? = some x := by rfl) (hj : X.N[j]? = some y := by rfl) (hl : X.N[l]? = some z := by rfl) (hij : i ≠ j := by decide) (hil : i ≠ l := by decide) (hjl : j ≠ l := by decide)
    (hx : X.env.scope.names.lookup x = some .local := by rfl) (hy : X.env.scope.names.lookup y = some .local := by rfl) (hz : X.env.scope.names.lookup z = some .local := by rfl)
    (hw : swappedStores [.Tuple [.Name x px, .Name y py, .Name z pz] kt pt] (.Tuple [a, b, c] k2 pt2) X.env = pure (some [x, y, z]) := by rfl)
    (hs : swapsWithSole [.Tuple [.Name x px, .Name y py, .Name z pz] kt pt] (.Tuple [a, b, c] k2 pt2) pos.line X.env = pure false := by rfl) :
    PS X (.Assign [.Tuple [.Name x px, .Name y py, .Name z pz] kt pt] (.Tuple [a, b, c] k2 pt2) pos) (tS X.K C W (sPar [i, j, l] rs)) :=
  (ps_par3 hc hN hi hj hl hij hil hjl hx hy hz ha hw hs).imp fun Dn sg H h => (tS.seq (R := RepsR X.K C) (fun e ds S1 => if ds.length = [i, j, l].length then .nx (setAll [i, j, l] ds e) S1 else .bad) h fun _ _ => rfl).mono fun vs H1 ⟨e, S, io, k1, d, s, q, p⟩ => by
    split at p
    · rename_i hl
      match k1, vs, q, hl with
      | [d1, d2, d3], [v1, v2, v3], q, hl => exact ⟨v1, v2, v3, rfl, p _ H1 io (Ext.refl _ _) d (setAll_slots [i, j, l] s q)⟩
      | [_, _, _], [_, _], q, hl => exact nomatch q.length
      | [_, _, _], [_], q, hl => exact nomatch q.length
      | [_, _, _], [], q, hl => exact nomatch q.length
      | [_, _, _], _ :: _ :: _ :: _ :: _, q, hl => exact nomatch q.length
    · exact p.elim
end

/-! ### own defs -/
def Fl.res : Fl → Res D
  | .nx _ S1 => .ok .non S1
  | .rt d S1 => .ok d S1
  | .er x _ S1 => .err x S1
  | .bad => .bad
def runDef (n : Nat) (m : RS) (ds : List D) (S : Store) : Res D := (m (ds.map some ++ List.replicate (n - ds.length) none) S).res
def spOf (K : PySem.W.Frag) (C : Nat → Addr) (n : Nat) (g : List D → Store → Res D) : Sp := fun vs H Q E =>
  vs.length = n ∧ ∃ ds S io, Den K C io S H ∧ Reps K C io (Fz io H) ds vs ∧ Post K C (RepR K C) (fun cls dd _ H' => E cls dd H') [] io H (g ds S) Q
theorem slots_start {K : PySem.W.Frag} {C : Nat → Addr} {io : Io} {F : Hp} {N : List Str} {ds : List D} {vs : List V} (r : Reps K C io F ds vs) : Slots K C io F (ds.map some ++ List.replicate (N.length - ds.length) none) (L2.start N vs) := by
  refine ⟨by simp [L2.start, r.length], fun i d h => ?_⟩
  by_cases hi : i < ds.length
  · rw [List.getElem?_append_left (by simpa using hi), List.getElem?_map] at h
    cases e : ds[i]? with
    | none => rw [e] at h; cases h
    | some x =>
      rw [e] at h
      cases h
      obtain ⟨v, h1, h2⟩ := r.get e
      refine ⟨v, ?_, h2⟩
      unfold L2.start
      rw [List.getElem?_append_left (by rw [List.length_map, ← r.length]; exact hi), List.getElem?_map, h1]
      rfl
  · rw [List.getElem?_append_right (by simpa using hi), List.getElem?_replicate] at h
    split at h <;> cases h
section
variable {P : Program} {w : World} {K : PySem.W.Frag} {mg : Str → Option Value} {base : Heap} {C : Nat → Addr}
theorem fn_ev {x qual : Str} {st : Stmt} {f : Addr} {fd : FuncData} {N ps : List Str} {k : Nat} {m : RS} (F : Fun K x qual st f fd) (S : FnScope N ps (defScope st))
    (hbody : ∀ (cdv : Value) (A : Around) (outer : List PySem.Env) (s : Shared) (H : Hp) (E : XK), Room k (A.deeper (PyProof.Rows.envOfC qual (defScope st) s.heap.objs.size f cdv)) →
      Takes (cxOf (L2.CX P w) P w K mg base N qual (defScope st) f cdv A outer s H E) (fun cls d _ H => E cls d H) →
      PassesOwn (model P w) (cxOf (L2.CX P w) P w K mg base N qual (defScope st) f cdv A outer s H E).A (cxOf (L2.CX P w) P w K mg base N qual (defScope st) f cdv A outer s H E).env (cxOf (L2.CX P w) P w K mg base N qual (defScope st) f cdv A outer s H E).xe →
      PSs (cxOf (L2.CX P w) P w K mg base N qual (defScope st) f cdv A outer s H E) (defBody st) (tS K C (fun cls d _ H => E cls d H) m)) :
    FnOk P w K mg base (L2.CX P w) (k + 1) f fd ps (spOf K C ps.length (runDef N.length m)) := by
  refine F.okX S (fun vs H Q E h => h.1) (fun cdv A outer s H vs Q E hr h => ?_)
  refine ⟨_, hbody cdv A outer s H E hr (takes_of rfl rfl rfl rfl) (passes_of rfl), ?_⟩
  obtain ⟨hl, ds, S, io, dn, rs, p⟩ := h
  refine ⟨_, S, io, dn, slots_start rs, ?_⟩
  unfold runDef Fl.res at p
  split at p
  · rename_i e S1 q
    rw [q]
    exact fun sg H' io' x d s => p _ H' io' x d .non
  · rename_i d S1 q
    rw [q]
    exact p
  · rename_i x e S1 q
    rw [q]
    exact fun cls dd sg H' io' x d s xr => p cls dd H' io' x d xr
  · exact p.elim
/-- another function that does the same -/
theorem fn_as {f : Addr} {fd : FuncData} {ps : List Str} {k n : Nat} {g g' : List D → Store → Res D} (F : FnOk P w K mg base (L2.CX P w) k f fd ps (spOf K C n g)) (h : ∀ ds S, g' ds S ≠ .bad → g ds S = g' ds S) : FnOk P w K mg base (L2.CX P w) k f fd ps (spOf K C n g') :=
  F.imp fun vs H Q E ⟨hl, ds, S, io, dn, rs, p⟩ => ⟨hl, ds, S, io, dn, rs, by rw [h ds S (fun z => by rw [z] at p; exact p)]; exact p⟩
end
def rCall (g : List D → Store → Res D) (as : RA) : RE := fun e S => (as e S).bind fun ds S1 => g ds S1
section
variable {X : Cx} {C : Nat → Addr} {W : WX} {k n : Nat} {f : Addr} {fd : FuncData} {ps : List Str} {g : List D → Store → Res D} {x : Str} {p pos : Pos} {e : Expr} {es : List Expr} {rs : RA}
theorem ee_call (F : FnOk X.prog X.w X.K X.mg X.base (L2.CX X.prog X.w) k f fd ps (spOf X.K C n g)) (hr : Room k X.A) (hg : Gl X x) (hm : X.mg x = some (.ref f)) (hk : PySem.W.keepIn X.K (.ref f) = true) (hb : Binds X.K fd ps []) (tk : Takes X W)
    (ha : PA X (e :: es) (tA X.K C W rs)) (hn : AL n rs) (hdb : (x == ("__debug__" : Str)) = false := by decide) (he : starEach (e :: es) X.env = (false, eval e X.env) :: starEach es X.env := by rfl) (hpl : (backTo pos (starEach es X.env)).any (·.1) = false := by rfl) :
    PE X (.Call (.Name x p) (e :: es) [] pos) (tE X.K C W (rCall g rs)) :=
  (pe_callS F hr hg hm hk hb (passAt tk) ha hdb he hpl).imp fun sg H Q h => tR.mono (tA.alen hn (tR.seq1 (fun _ ds S => g ds S) h fun _ _ => rfl)) fun vs H1 ⟨hl, e, S, io, ds, d, s, r, p⟩ =>
    ⟨hl, ds, S, io, d, r, by
      cases q : g ds S with
      | ok a S1 => rw [q] at p; exact p
      | err y S1 => rw [q] at p; exact p
      | bad => rw [q] at p; exact p⟩
end
end Ev
namespace Ev
open PySem PySem.Spec L2

/-! ### what a loop walks -/
/-- the walk J goes through the items ds, whatever comes -/
def Wk (K : PySem.W.Frag) (C : Nat → Addr) : Io → Hp → List D → It → Prop := fun io F ds J =>
  ∀ (io' : Io) (H' : Hp) (S' : Store), (∀ (n : Nat) (a : Addr), io.l[n]? = some a → io'.l[n]? = some a) → Same F (Fz io' H') → Den K C io' S' H' →
    (∀ i, i < ds.length → J.go i H') ∧ J.stop ds.length H' ∧ ∀ i x H'', i < ds.length → J.yld i H' x H'' → ∃ d, ds[i]? = some d ∧ Ext io' H' io' H'' ∧ Den K C io' S' H'' ∧ Rep K C io' (Fz io' H'') d x
abbrev tI (K : PySem.W.Frag) (C : Nat → Addr) (W : WX) (r : RA) : TI := tR K C (Wk K C) W r
theorem wk_list {K : PySem.W.Frag} {C : Nat → Addr} {io : Io} {F : Hp} {a : Addr} {vs : List V} {ds : List D} (h : SqL K F a vs) (r : Reps K C io F ds vs) : Wk K C io F ds (Itl K a) := fun io' H' S' hp hs dn => by
  have h' : SqL K H' a vs := (Fz_same _ _).seq (hs.seq h)
  refine ⟨fun i hi => ?_, ⟨vs, h', by rw [r.length]; exact Nat.le_refl _⟩, fun i x H'' hi y => ?_⟩
  · have hv : i < vs.length := by rw [← r.length]; exact hi
    exact ⟨vs, vs[i], h', by simp [hv]⟩
  · obtain ⟨rfl, y⟩ := y
    obtain ⟨d, e1, e2⟩ := r.getV (y vs h')
    exact ⟨d, e1, Ext.refl _ _, dn, e2.mono hp hs⟩
theorem wk_tup {K : PySem.W.Frag} {C : Nat → Addr} {io : Io} {F : Hp} {a : Addr} {vs : List V} {ds : List D} (h : SqT K F a vs) (r : Reps K C io F ds vs) : Wk K C io F ds (Itt K a) := fun io' H' S' hp hs dn => by
  have h' : SqT K H' a vs := sqT_same (Fz_same _ _) (sqT_same hs h)
  refine ⟨fun i hi => ?_, ⟨vs, h', by rw [r.length]; exact Nat.le_refl _⟩, fun i x H'' hi y => ?_⟩
  · have hv : i < vs.length := by rw [← r.length]; exact hi
    exact ⟨vs, vs[i], h', by simp [hv]⟩
  · obtain ⟨rfl, y⟩ := y
    obtain ⟨d, e1, e2⟩ := r.getV (y vs h')
    exact ⟨d, e1, Ext.refl _ _, dn, e2.mono hp hs⟩
/-- lo, lo + 1, .. -/
def rangeD (lo : Int) (n : Nat) : List D := (List.range n).map fun (i : Nat) => D.int (lo + (i : Int))
theorem wk_range {K : PySem.W.Frag} {C : Nat → Addr} {io : Io} {F : Hp} (lo : Int) (n : Nat) : Wk K C io F (rangeD lo n) (Itr lo n) := fun io' H' S' hp hs dn => by
  refine ⟨fun i hi => by show i < n; simpa [rangeD] using hi, by show n ≤ _; simp [rangeD], fun i x H'' hi y => ?_⟩
  obtain ⟨rfl, rfl⟩ := y
  have hi' : i < n := by simpa [rangeD] using hi
  exact ⟨.int (lo + i), by simp [rangeD, hi'], Ext.refl _ _, dn, .int _⟩
theorem _root_.L2.PI.imp {X : Cx} {tg e : Expr} {t t' : TI} (h : PI X tg e t) (hi : ∀ sg H Q, t' sg H Q → t sg H Q) : PI X tg e t' := ⟨fun pins s sg H Q I hw => h.run pins s sg H Q I (hi _ _ _ hw)⟩
theorem _root_.L2.PI.or {X : Cx} {tg e : Expr} {t t' : TI} (h : PI X tg e t) (h' : PI X tg e t') : PI X tg e (fun sg H Q => t sg H Q ∨ t' sg H Q) := ⟨fun pins s sg H Q I hw => hw.elim (h.run pins s sg H Q I) (h'.run pins s sg H Q I)⟩
/-- the items of a thing that stands still -/
def signsD (x : Str) : List D := x.cps.toList.map fun c => .str ⟨#[c]⟩
def itemsD : D → Option (List D)
  | .tup xs => some xs
  | .lst xs => some xs
  | .str x => some (signsD x)
  | _ => none
theorem wk_str {K : PySem.W.Frag} {C : Nat → Addr} {io : Io} {F : Hp} (x : Str) : Wk K C io F (signsD x) (Its x) := fun io' H' S' hp hs dn => by
  have hl : (signsD x).length = x.cps.size := by simp [signsD]
  refine ⟨fun i hi => by rw [hl] at hi; exact hi, by show x.cps.size ≤ _; rw [hl]; exact Nat.le_refl _, fun i v H'' hi y => ?_⟩
  obtain ⟨rfl, c, hc, rfl⟩ := y
  exact ⟨.str ⟨#[c]⟩, by simp [signsD, hc], Ext.refl _ _, dn, .str _⟩
def rIt (a : RE) : RA := fun e S => (a e S).bind fun d S1 => ofO (itemsD d) S1
def ran1 : List D → Option (List D)
  | [.int j] => if -(2 ^ 62) ≤ j ∧ j < 2 ^ 62 then some (rangeD 0 j.toNat) else none
  | _ => none
def ran2 : List D → Option (List D)
  | [.int i, .int j] => if -(2 ^ 62) ≤ i ∧ i < 2 ^ 62 ∧ -(2 ^ 62) ≤ j ∧ j < 2 ^ 62 then some (rangeD i (j - i).toNat) else none
  | _ => none
def rRan (f : List D → Option (List D)) (as : RA) : RA := fun e S => (as e S).bind fun ds S1 => ofO (f ds) S1
section
variable {X : Cx} {C : Nat → Addr} {W : WX} {tg a b : Expr} {ra : RE} {rs : RA} {pos p : Pos}
theorem ei_seq (ha : PE X a (tE X.K C W ra)) : PI X tg a (tI X.K C W (rIt ra)) := by
  have hi : PI X tg a (fun sg H R => tE X.K C W ra sg H fun x H1 => (∃ p, x = .ref p ∧ (∃ xs, SqL X.K H1 p xs) ∧ R (Itl X.K p) H1) ∨ (∃ p, x = .ref p ∧ (∃ xs, SqT X.K H1 p xs) ∧ R (Itt X.K p) H1) ∨ (∃ z, x = .str z ∧ R (Its z) H1)) := by
    refine ⟨fun pins s sg H R I h => ?_⟩
    refine thn (ha.run pins s sg H _ I h) fun v s1 ⟨x, H1, I1, r1, q1⟩ => ?_
    rcases q1 with ⟨p, rfl, ⟨xs, hq⟩, q⟩ | ⟨p, rfl, ⟨xs, hq⟩, q⟩ | ⟨z, rfl, q⟩
    · cases r1
      obtain ⟨its, rv, pl, hz⟩ := I1.list hq
      refine wpAny_pyIter_list pl.isList ?_
      refine ⟨s1.heap.objs.size, [s1.heap.objs.size], _, _, H1, rfl, I1.kept (t' := s1.toks) fun b o e => Heap.get?_push_of_some _ e, turn_list p _, ⟨_, Heap.get?_push_size _ rfl, rfl, rfl⟩, fun b hb => ?_, q⟩
      have e : b = s1.heap.objs.size := by simpa using hb
      subst e
      exact I1.fpOk (Nat.le_refl _) (I1.hok.fresh (Nat.le_refl _))
    · cases r1
      obtain ⟨its, rv, pl, hz⟩ := I1.tuple hq
      refine wpAny_pyIter_tuple (show s1.heap.IsTuple p its.toArray from pl) ?_
      refine ⟨s1.heap.objs.size, [s1.heap.objs.size], _, _, H1, rfl, I1.kept (t' := s1.toks) fun b o e => Heap.get?_push_of_some _ e, turn_tuple p _, ⟨_, Heap.get?_push_size _ rfl, rfl, rfl⟩, fun b hb => ?_, q⟩
      have e : b = s1.heap.objs.size := by simpa using hb
      subst e
      exact I1.fpOk (Nat.le_refl _) (I1.hok.fresh (Nat.le_refl _))
    · obtain ⟨t, rfl⟩ := r1
      cases ha : z.cps.all (· < 128)
      · exact wpAny_pyIter_wide ha (pi_one (tk := s1.toks) I1 _ (turn_str _ z t "str_iterator" (.inr rfl)) ⟨_, Heap.get?_push_size _ rfl, rfl, rfl⟩ q)
      · exact wpAny_pyIter_ascii ha (pi_one (tk := s1.toks) I1 _ (turn_str _ z t "str_ascii_iterator" (.inl rfl)) ⟨_, Heap.get?_push_size _ rfl, rfl, rfl⟩ q)
  refine hi.imp fun sg H R h => (tR.seq1 (R := RepR X.K C) (fun _ d S => ofO (itemsD d) S) h fun _ _ => rfl).mono fun x H1 ⟨e, S, io, d, dn, s, r, p⟩ => ?_
  obtain ⟨ds, ed, p⟩ := p.ofO
  cases r with
  | tup q rs => cases ed; exact .inr (.inl ⟨_, rfl, ⟨_, sqT_same (Fz_same _ _) q⟩, p _ H1 io (Ext.refl _ _) dn (wk_tup q rs)⟩)
  | str z => cases ed; exact .inr (.inr ⟨_, rfl, p _ H1 io (Ext.refl _ _) dn (wk_str z)⟩)
  | lst q rs => cases ed; exact .inl ⟨_, rfl, ⟨_, (Fz_same _ _).seq q⟩, p _ H1 io (Ext.refl _ _) dn (wk_list q rs)⟩
  | _ => cases ed
theorem ei_range1 (hg : Gl X "range") (hm : X.mg "range" = none) (ha : PA X [a] (tA X.K C W rs)) (hs : starEach [a] X.env = [(false, eval a X.env)] := by rfl) : PI X tg (.Call (.Name "range" p) [a] [] pos) (tI X.K C W (rRan ran1 rs)) :=
  (pi_range1 hg hm ha hs).imp fun sg H R h => (tR.seq1 (R := RepsR X.K C) (fun _ ds S => ofO (ran1 ds) S) h fun _ _ => rfl).mono fun vs H1 ⟨e, S, io, ds, dn, s, r, p1⟩ => by
    obtain ⟨zs, ed, p1⟩ := p1.ofO
    unfold ran1 at ed
    split at ed
    · split at ed
      · rename_i hj
        cases ed
        obtain ⟨v, rfl, h⟩ := reps1 r
        cases h
        exact ⟨_, rfl, hj.1, hj.2, p1 _ H1 io (Ext.refl _ _) dn (wk_range 0 _)⟩
      · cases ed
    · cases ed
theorem ei_range2 (hg : Gl X "range") (hm : X.mg "range" = none) (ha : PA X [a, b] (tA X.K C W rs)) (hs : starEach [a, b] X.env = [(false, eval a X.env), (false, eval b X.env)] := by rfl) (hs2 : starEach [b] X.env = [(false, eval b X.env)] := by rfl) : PI X tg (.Call (.Name "range" p) [a, b] [] pos) (tI X.K C W (rRan ran2 rs)) :=
  (pi_range2 hg hm ha hs hs2).imp fun sg H R h => (tR.seq1 (R := RepsR X.K C) (fun _ ds S => ofO (ran2 ds) S) h fun _ _ => rfl).mono fun vs H1 ⟨e, S, io, ds, dn, s, r, p1⟩ => by
    obtain ⟨zs, ed, p1⟩ := p1.ofO
    unfold ran2 at ed
    split at ed
    · split at ed
      · rename_i hj
        cases ed
        obtain ⟨v, u, rfl, h, h2⟩ := reps2 r
        cases h; cases h2
        exact ⟨_, _, rfl, hj, p1 _ H1 io (Ext.refl _ _) dn (wk_range _ _)⟩
      · cases ed
    · cases ed
end

/-! ### for -/
def forL (t : Tg) (body : RS) : List D → RS
  | [], e, S => .nx e S
  | d :: ds, e, S => match bindT S d e t with
    | none => .bad
    | some e1 => (body e1 S).andThen (forL t body ds)
def sFor (it : RA) (t : Tg) (body : RS) : RS := fun e S => (it e S).fl e fun ds S1 => forL t body ds e S1
section
variable {X : Cx} {C : Nat → Addr} {W : WX} {tg iter c : Expr} {ri : RA} {body : List Stmt} {mb : RS} {t : Tg} {tc : RT} {pos : Pos}
theorem s_for (hp : PassesOwn (model X.prog X.w) X.A X.env X.xe) (hc : X.calm = true) (hi : PI X tg iter (tI X.K C W ri)) (hg : GD X C tg t) (hb : PSs X body (tS X.K C W mb)) (hs : ∀ x, foldedSetIterable iter X.env x = pure x := by intro _; rfl) :
    PS X (.For tg iter body [] pos) (tS X.K C W (sFor ri t mb)) :=
  (ps_for hp hc hi hg hb hs).imp fun Dn sg H h => (tS.seq (R := Wk X.K C) (fun e ds S1 => forL t mb ds e S1) h fun _ _ => rfl).mono fun J H1 ⟨e, S, io, ds, dn, s, wk, p⟩ => by
    refine ⟨fun i m sg' H' => m + i = ds.length ∧ ∃ e' S' io', Ext io H1 io' H' ∧ Den X.K C io' S' H' ∧ Slots X.K C io' (Fz io' H') e' sg' ∧ PostS X.K C W io' H' (forL t mb (ds.drop i) e' S') Dn,
      ⟨ds.length, rfl, e, S, io, Ext.refl _ _, dn, s, p⟩, fun i m sg' H' ⟨hm, e', S', io', x', d', s', p'⟩ => ?_⟩
    obtain ⟨go, stop, yld⟩ := wk io' H' S' x'.pre x'.same d'
    by_cases hi : i < ds.length
    · rw [List.drop_eq_getElem_cons hi] at p'
      refine .inr ⟨go i hi, fun sg2 H2 => ∃ e2 S2 io2, Ext io H1 io2 H2 ∧ Den X.K C io2 S2 H2 ∧ Slots X.K C io2 (Fz io2 H2) e2 sg2 ∧ PostS X.K C W io2 H2 (forL t mb (ds.drop (i + 1)) e2 S2) Dn, fun sg2 H2 h2 => ⟨m - 1, by omega, by omega, h2⟩, fun x H2 y => ?_⟩
      obtain ⟨d, ed, x2, d2, r2⟩ := yld i x H2 hi y
      have ed' : ds[i] = d := by rw [List.getElem?_eq_getElem hi] at ed; exact Option.some.inj ed
      rw [ed'] at p'
      unfold forL at p'
      cases hb : bindT S' d e' t with
      | none => rw [hb] at p'; exact p'.elim
      | some e1 =>
        rw [hb] at p'
        refine ⟨e', S', io', d, e1, d2, s'.ext x2, r2, hb, fun sg3 s3 _ => ⟨e1, S', io', d2, s3, ?_⟩⟩
        have p2 := PostS.ext x2 p'
        cases q : mb e1 S' with
        | nx e4 S4 =>
          simp only [q, Fl.andThen] at p2
          exact fun sg4 H4 io4 x4 d4 s4 => ⟨e4, S4, io4, (x'.trans x2).trans x4, d4, s4, PostS.ext x4 p2⟩
        | rt d4 S4 => simp only [q, Fl.andThen] at p2; exact p2
        | er x4 e4 S4 => simp only [q, Fl.andThen] at p2; exact p2
        | bad => simp only [q, Fl.andThen] at p2; exact p2
    · have e1 : ds.length = i := by omega
      rw [List.drop_of_length_le (by omega)] at p'
      rw [e1] at stop
      exact .inl ⟨stop, p' sg' H' io' (Ext.refl _ _) d' s'⟩
/-- while, at most n turns -/
def whileN (c : RT) (body : RS) : Nat → RS
  | 0, _, _ => .bad
  | n + 1, e, S => (c e S).fl e fun k S1 => if k = true then (body e S1).andThen (whileN c body n) else .nx e S1
theorem s_while (n : Nat) (hp : PassesOwn (model X.prog X.w) X.A X.env X.xe) (hc : PT X c (tT X.K C W tc)) (hb : PSs X body (tS X.K C W mb)) : PS X (.While c body [] pos) (tS X.K C W (whileN tc mb n)) :=
  (ps_while hp hc hb).imp fun Dn sg H ⟨e, S, io, dn, s, p⟩ => by
    refine ⟨fun m sg' H' => tS X.K C W (whileN tc mb m) Dn sg' H', ⟨n, e, S, io, dn, s, p⟩, fun m sg' H' h' => ?_⟩
    cases m with
    | zero => obtain ⟨_, _, _, _, _, p'⟩ := h'; exact p'.elim
    | succ m =>
      refine (tS.seq (R := EqR) (m := whileN tc mb (m + 1)) (fun e k S1 => if k = true then (mb e S1).andThen (whileN tc mb m) else .nx e S1) h' fun _ _ => rfl).mono fun k H1 ⟨e1, S1, io1, k1, d1, s1, q, p1⟩ => ?_
      cases q
      cases k with
      | false => exact p1 sg' H1 io1 (Ext.refl _ _) d1 s1
      | true =>
        refine ⟨tS X.K C W (whileN tc mb m) Dn, fun sg2 H2 h2 => ⟨m, Nat.lt_succ_self m, h2⟩, e1, S1, io1, d1, s1, ?_⟩
        rw [if_pos rfl] at p1
        cases q : mb e1 S1 with
        | nx e4 S4 =>
          simp only [q, Fl.andThen] at p1
          exact fun sg4 H4 io4 x4 d4 s4 => ⟨e4, S4, io4, d4, s4, PostS.ext x4 p1⟩
        | rt d4 S4 => simp only [q, Fl.andThen] at p1; exact p1
        | er x4 e4 S4 => simp only [q, Fl.andThen] at p1; exact p1
        | bad => simp only [q, Fl.andThen] at p1; exact p1
end

/-! ### stores into a list, x += e -/
/-- o[i] = v of a list of the store -/
def putIx (S : Store) (o i v : D) : Option Store := match o, i with
  | .loc n, .int k => match S[n]? with
    | some (.lst xs) => (ixN xs.length k).bind fun j => some (S.set n (.lst (xs.set j v)))
    | _ => none
  | _, _ => none
def sPutIx (a o i : RE) : RS := fun e S => (a e S).fl e fun v S1 => (o e S1).fl e fun x S2 => (i e S2).fl e fun y S3 => match putIx S3 x y v with
  | some S4 => .nx e S4
  | none => .bad
def sAug (i : Nat) (f : Store → D → D → Option D) (a : RE) : RS := fun e S => match e[i]? with
  | some (some x) => (a e S).fl e fun y S1 => match f S1 x y with
    | some z => .nx (e.set i (some z)) S1
    | none => .bad
  | _ => .bad
section
variable {X : Cx} {C : Nat → Addr} {W : WX} {a o i : Expr} {ra ro ri : RE} {pos tpos : Pos}
theorem Den.list {K : PySem.W.Frag} {io : Io} {S : Store} {H : Hp} {n : Nat} {p : Addr} {xs : List D} (dn : Den K C io S H) (e : S[n]? = some (.lst xs)) (h : io.l[n]? = some p) : ∃ vs, H p = some (.lst vs) ∧ Reps K C io (Fz io H) xs vs := dn.obj n _ p e h
/-- a list of the store gets other items -/
theorem Den.setL {K : PySem.W.Frag} {io : Io} {S : Store} {H : Hp} {n : Nat} {p : Addr} {ys : List D} {us : List V} (dn : Den K C io S H) (h : io.l[n]? = some p) (r : Reps K C io (Fz io H) ys us) : Ext io H io (upd H p (.lst us)) ∧ Den K C io (S.set n (.lst ys)) (upd H p (.lst us)) :=
  have hm : p ∈ io.all := mem_all h
  ⟨Ext.put hm, dn.put h ⟨us, upd_same, by rw [Fz_upd_old hm]; exact r⟩⟩
theorem s_putIx (ha : PE X a (tE X.K C W ra)) (ho : PE X o (tE X.K C W ro)) (hi : PE X i (tE X.K C W ri))
    (hA : ∀ v, assign (.Subscript o i tpos) X.env v = (do
      let ov ← holding [v] (eval o X.env)
      let iv ← holding [v, ov] (eval i X.env)
      standAt tpos
      holding [v, ov, iv] (setItem ov iv v)
      release [v, ov, iv] []) := by intro _; rfl)
    (hs : swapsWithSole [.Subscript o i tpos] a pos.line X.env = pure false := by rfl) (hw : swappedStores [.Subscript o i tpos] a X.env = pure none := by rfl) (h1 : (assignEach [.Subscript o i tpos] X.env).map (·.2) = [assign (.Subscript o i tpos) X.env] := by rfl) :
    PS X (.Assign [.Subscript o i tpos] a pos) (tS X.K C W (sPutIx ra ro ri)) :=
  (ps_asg ha (pg_sub ho hi set_list hA) hs hw h1).imp fun Dn sg H h => (tS.seq (R := RepR X.K C) (fun e v S1 => (ro e S1).fl e fun x S2 => (ri e S2).fl e fun y S3 => match putIx S3 x y v with | some S4 => .nx e S4 | none => .bad) h fun _ _ => rfl).mono fun v H1 ⟨e, S, io, v1, dn, s, r, p⟩ =>
    ⟨e, S, io, dn, s, (p.of_res (R := RepR X.K C) s).mono fun x H2 ⟨io2, S2, x1, x2, d2, r2, p2⟩ => ⟨e, S2, io2, d2, s.ext x2, (p2.of_res (R := RepR X.K C) (s.ext x2)).mono fun y H3 ⟨io3, S3, y1, x3, d3, r3, p3⟩ => by
      cases hp : putIx S3 x1 y1 v1 with
      | none => rw [hp] at p3; exact p3.elim
      | some S4 =>
        rw [hp] at p3
        unfold putIx at hp
        split at hp
        · rename_i n k
          cases r3
          split at hp
          · rename_i xs es
            obtain ⟨j, hj, hp⟩ := bind_some' hp
            cases hp
            cases r2 with
            | loc q =>
              have q3 := x3.pre _ _ q
              obtain ⟨vs, e1, rs⟩ := d3.list es q3
              obtain ⟨xx, dd⟩ := d3.setL (ys := xs.set j v1) q3 (rs.set ((r.ext x2).ext x3) j)
              exact ⟨_, vs, _, j, rfl, rfl, e1, by rw [← rs.length]; exact hj, p3 sg _ io3 xx dd (((s.ext x2).ext x3).ext xx)⟩
          · cases hp
        · cases hp⟩⟩
theorem s_aug (i : Nat) {x : Str} {f : Store → D → D → Option D} {op : Operator} {pos' : Pos} (hN : X.N.Nodup) (hop : OpD X C (inplaceOp op) f) (ha : PE X a (tE X.K C W ra)) (hi : X.N[i]? = some x := by rfl) (hx : Loc X.env.scope x := by first | exact Or.inl rfl | exact Or.inr rfl)
    (hf : X.fn x = true ∨ X.env.scope.names.lookup x = some .local := by first | exact .inl rfl | exact .inr rfl | assumption) : PS X (.AugAssign (.Name x pos') op a pos) (tS X.K C W (sAug i f ra)) :=
  (ps_aug hN hi hx ha hop hf).imp fun Dn sg H ⟨e, S, io, dn, s, p⟩ => by
    unfold sAug at p
    split at p
    · rename_i d ed
      obtain ⟨v, e1, r⟩ := s.get i d ed
      refine ⟨v, e1, e, S, io, dn, s, (p.of_res (R := RepR X.K C) s).mono fun y H1 ⟨io1, S1, y1, x1, d1, r1, p1⟩ => ?_⟩
      cases hz : f S1 d y1 with
      | none => rw [hz] at p1; exact p1.elim
      | some z =>
        rw [hz] at p1
        exact ⟨io1, S1, d, y1, z, d1, r.ext x1, r1, hz, fun w H' io' x' d' r' => p1 _ H' io' x' d' (((s.ext x1).ext x').set i r')⟩
    · exact p.elim
theorem iaddD_ok : OpD X C (inplaceOp .Add) (i2 (fun _ _ => true) fun i j => .int (i + j)) := opD_i20 iop_add fun _ _ _ _ => .int _
theorem isubD_ok : OpD X C (inplaceOp .Sub) subD := opD_i20 iop_sub fun _ _ _ _ => .int _
end

/-! ### isinstance and the built-in classes -/
def tyD (S : Store) : D → Option String
  | .non => some "NoneType"
  | .bl _ => some "bool"
  | .int _ => some "int"
  | .str _ => some "str"
  | .tup _ => some "tuple"
  | .lst _ => some "list"
  | .dct _ _ => some "dict"
  | .loc n => match S[n]? with
    | some (.lst _) => some "list"
    | some (.dK _ _) => some "dict"
    | _ => none
  | .exn _ _ _ => none
theorem tyD_rep {K : PySem.W.Frag} {C : Nat → Addr} {io : Io} {S : Store} {H : Hp} {d : D} {v : V} {t : String} (h : tyD S d = some t) (dn : Den K C io S H) (r : Rep K C io (Fz io H) d v) : TyX K H v (.type t) := by
  cases r with
  | non => cases h; exact .base .non
  | bl => cases h; exact .base (.bl _)
  | int => cases h; exact .base (.int _)
  | str => cases h; exact .base (.str _)
  | tup q rs =>
    cases h
    rcases q with (q | ⟨o, q⟩) | ⟨o, its, n, hk, hc, _⟩
    · exact .base (.tup (Fz_same _ _ _ _ q))
    · exact .fTuple (Fz_same _ _ _ _ q)
    · exact .kTuple hk hc
  | lst q rs =>
    cases h
    rcases q with (q | ⟨o, q⟩) | ⟨o, its, n, hk, hc, _⟩
    · exact .base (.lst (Fz_same _ _ _ _ q))
    · exact .base (.frz (Fz_same _ _ _ _ q))
    · exact .kList hk hc
  | dct q e1 e2 rs => cases h; exact .base (.dK (Fz_same _ _ _ _ q))
  | @loc n a q =>
    simp only [tyD] at h
    split at h
    · rename_i ys e
      cases h
      obtain ⟨vs, h1, h2⟩ := dn.obj n _ a e q
      exact .base (.lst h1)
    · rename_i ks ys e
      cases h
      obtain ⟨kvs, h1, h2, h3⟩ := dn.obj n _ a e q
      exact .base (.dK h1)
    · cases h
  | exn0 => cases h
  | exnF => cases h
def isiD (T : String) (S : Store) (d : D) : Option D := (tyD S d).bind fun t => (kitB t T).bind fun b => some (.bl b)
section
variable {X : Cx} {C : Nat → Addr} {W : WX} {a : Expr} {ra : RE} {x : Str} {T : String} {pos p p' : Pos}
/-- isinstance(a, T), T a built-in class -/
theorem ee_isi (ha : PE X a (tE X.K C W ra)) (hg : Gl X "isinstance") (hm : X.mg "isinstance" = none) (hgx : Gl X x) (hmx : X.mg x = none) (hv : bootBuiltins x = some (.type T))
    (hn : x ≠ "__name__" := by decide) (hd : (x == ("__debug__" : Str)) = false := by decide) (hv0 : bootBuiltins "isinstance" = some (.builtin "isinstance") := by decide +kernel)
    (he : starEach [a, .Name x p'] X.env = [(false, eval a X.env), (false, eval (.Name x p') X.env)] := by rfl) : PE X (.Call (.Name "isinstance" p) [a, .Name x p'] [] pos) (tE X.K C W (rUn (isiD T) ra)) :=
  (pe_callB call_isi hg hm hv0 (pa_cons ha (pa_cons (pe_bltn hgx hmx hv (v := .ty T) rfl hn hd) pa_nil rfl) he) (by decide) (by decide) he rfl).imp fun sg H Q h => (tR.seq1 (R := RepR X.K C) (fun _ d S => ofO (isiD T S d) S) h fun _ _ => rfl).mono fun v H1 ⟨e, S, io, d, dn, s, r, p⟩ => by
    obtain ⟨z, ez, p⟩ := p.ofO
    obtain ⟨t, et, ez⟩ := bind_some' ez
    obtain ⟨b, eb, ez⟩ := bind_some' ez
    cases ez
    exact ⟨v, .ty T, .type t, .type T, b, rfl, .ty T, tyD_rep et dn r, kit_ty eb, p _ H1 io (Ext.refl _ _) dn (.bl _)⟩
end
end Ev
namespace Ev
open PySem PySem.Spec L2

/-! ### an exception that was caught is tracked -/
section
variable {X : Cx} {pins : List (Addr × Obj)} {sg : L2.St} {H : Hp} {s : Shared}
theorem Inv.track {a : Addr} {oe : Obj} {vs : Array Value} (I : L2.Inv X pins sg H s) (he : s.heap.get? a = some oe) (hd : oe.data = .fields vs) (na : H a = none) (nL : a ≠ X.env.locals) (n0 : X.s_0.heap.get? a = none)
    (np : ∀ p ∈ X.pn ++ pins, p.1 ≠ a) : L2.Inv X pins sg (upd H a (exH a oe.cls oe.dict)) s := by
  have nc : ∀ x c, X.env.cells.lookup x = some c → c ≠ a := fun x c e z => by
    obtain ⟨v, o, ho, hod⟩ := I.cell x c e
    rw [z, he] at ho
    cases ho
    rw [hd] at hod
    cases hod
  refine ⟨I.ok, I.os, I.bare, ⟨I.base.keep, I.base.slot, fun b o e n hx => ?_, I.base.there, fun b xs e => ?_, fun b o u e => ?_, fun b ps e => ?_⟩, I.loc, I.cell, ?_, fun x c e => ?_, fun p hp => ?_, fun b o e => ?_, I.len⟩
  · have hb : b ≠ a := fun z => by rw [z, n0] at e; cases e
    rw [upd_ne hb]
    exact I.base.free b o e n hx
  · have q := I.base.tups b xs e
    rw [upd_ne (ne_of_none q na)]
    exact q
  · have q := I.base.frzs b o u e
    rw [upd_ne (ne_of_none q na)]
    exact q
  · obtain ⟨more, q⟩ := I.base.tbls b ps e
    exact ⟨more, by rw [upd_ne (ne_of_none q na)]; exact q⟩
  · rw [upd_ne (Ne.symm nL)]
    exact I.free
  · rw [upd_ne (nc x c e)]
    exact I.freeC x c e
  · obtain ⟨q1, q2, q3, q4, q5⟩ := I.pin p hp
    exact ⟨q1, by rw [upd_ne (np p hp)]; exact q2, q3, q4, q5⟩
  · by_cases hb : b = a
    · subst hb
      rw [upd_same] at e
      cases e
      exact ⟨⟨oe, vs, he, rfl, rfl, hd⟩, ⟨oe, he⟩, fun h1 h2 ⟨o1, v1, q1, q2⟩ k => ⟨o1, v1, k _ q1, q2⟩⟩
    · rw [upd_ne hb] at e
      exact (I.hok b o e).stay (fun c v _ q => q) (fun c q => by rw [upd_ne (ne_of_none q na)]; exact q) fun c xs q => by rw [upd_ne (ne_of_none q na)]; exact q
theorem Inv.toSuite (I : L2.Inv X pins sg H s) (a : Addr) : L2.Inv (X.suite a (X.pn ++ pins)) [] sg H s :=
  ⟨I.ok.suite _ _, I.os, I.bare, I.base, I.loc, I.cell, I.free, I.freeC, fun p hp => I.pin p (by rw [List.append_nil] at hp; exact hp), I.hok, I.len⟩
theorem Inv.offSuite {a : Addr} {pn' : List (Addr × Obj)} (I : L2.Inv (X.suite a (X.pn ++ pins)) pn' sg H s) (ok : X.Ok) : L2.Inv X pins sg H s :=
  ⟨ok, I.os, I.bare, I.base, I.loc, I.cell, I.free, I.freeC, fun p hp => I.pin p (List.mem_append_left _ hp), I.hok, I.len⟩
end
theorem Den.notXd {K : PySem.W.Frag} {C : Nat → Addr} {io : Io} {S : Store} {H : Hp} (d : Den K C io S H) {p : Addr} {fs : List (Str × V)} (h : H p = some (.xd fs)) : p ∉ io.all := fun z => by
  obtain ⟨u, e, m⟩ := d.at z
  rw [h] at e; cases e; cases m
/-- the caught exception as a value -/
theorem exn_rep {K : PySem.W.Frag} {C : Nat → Addr} {io : Io} {S : Store} {H : Hp} {a : Addr} {x : Exn} {cls : Value} {dd : Option Addr} (dn : Den K C io S H) (na : H a = none) (xr : XR K C io H x cls dd) :
    Rep K C io (Fz io (upd H a (exH a cls dd))) (.exn x.c x.ns x.xs) (.ref a) := by
  obtain ⟨rfl, xr⟩ := xr
  have e1 : Fz io (upd H a (exH a (.ref (C x.c)) dd)) a = some (exH a (.ref (C x.c)) dd) := by rw [Fz_out (dn.fresh na)]; exact upd_same
  rcases xr with ⟨h1, h2, rfl⟩ | ⟨d, fs, rfl, h1, h2, r⟩
  · rw [h1, h2]
    exact .exn0 e1
  · refine .exnF (fs := fs) e1 ?_ h2 rfl (r.ext (Ext.new dn na))
    rw [Fz_out (dn.notXd h1), upd_ne (ne_of_none h1 na)]
    exact h1

/-! ### try .. except X as n -/
def Fl.clr (i : Nat) : Fl → Fl
  | .nx e S => .nx (e.set i none) S
  | .rt d S => .rt d S
  | _ => .bad
def catchAs (sub : Nat → Option Bool) (i : Nat) (suite : RS) (x : Exn) (e : Env) (S : Store) : Fl := match sub x.c with
  | some true => (suite (e.set i (some (.exn x.c x.ns x.xs))) S).clr i
  | some false => .er x e S
  | none => .bad
def sTryAs (sub : Nat → Option Bool) (i : Nat) (body suite : RS) : RS := fun e S => match body e S with
  | .er x e1 S1 => catchAs sub i suite x e1 S1
  | f => f
section
variable {X : Cx} {C : Nat → Addr} {W : WX} {x n : Str} {c : Value} {i : Nat} {body suite : List Stmt} {b0 : Stmt} {np pos pos' : Pos} {mb ms : RS} {sub : Nat → Option Bool}
open PyProof.Rows in
theorem s_try_as (hs : X.stack = X.env :: X.outer) (hf : X.env.frame = some X.env.locals) (hex : X.ex = []) (hN : X.N.Nodup) (hi : X.N[i]? = some n) (hln : X.env.kindOf n = some .local) (hc : Names X x c) (tk : Takes X W)
    (hsub : ∀ y b, sub y = some b → PySem.W.exmOne X.K (.ref (C y)) c = some b)
    (hb : ∀ (W : WX) (pn : List (Addr × Obj)) (xe : Value → Shared → Prop), Takes (X.tr pn xe) W → PassesOwn (model X.prog X.w) X.A X.env xe → PSs (X.tr pn xe) body (tS X.K C W mb))
    (hsu : ∀ (a : Addr) (pn : List (Addr × Obj)), PSs (X.suite a pn) (b0 :: suite) (tS X.K C (fun _ _ _ _ => False) ms)) :
    PS X (.Try body [.ExceptHandler (some (.Name x np)) (some n) (b0 :: suite) pos'] [] [] pos) (tS X.K C W (sTryAs sub i mb ms)) := by
  refine ⟨fun pins s sg H Dn I h => ?_⟩
  obtain ⟨e0, S0, io0, dn0, sl0, p0⟩ := h
  have ok := I.ok
  have hfr : X.A.frames = some (X.env :: X.outer) := by rw [ok.frames, hs]
  have hloc : Loc X.env.scope n := .inl hln
  let Wt : WX := fun cls d sg' H' => ∃ x e1 S1 io1, Den X.K C io1 S1 H' ∧ Slots X.K C io1 (Fz io1 H') e1 sg' ∧ XR X.K C io1 H' x cls d ∧ PostS X.K C W io1 H' (catchAs sub i ms x e1 S1) Dn
  have hw : tS X.K C Wt mb Dn sg H := by
    refine ⟨e0, S0, io0, dn0, sl0, ?_⟩
    unfold sTryAs at p0
    cases q : mb e0 S0 with
    | nx e1 S1 => rw [q] at p0; exact p0
    | rt d1 S1 => rw [q] at p0; exact p0
    | er x e1 S1 =>
      rw [q] at p0
      exact fun cls dd sg' H' io' xx d' s' xr => ⟨x, e1, S1, io', d', s', xr, PostS.ext xx p0⟩
    | bad => rw [q] at p0; exact p0
  refine wpAny_Try_except ?_
  refine wpAny_mono ((hb Wt (X.pn ++ pins) (fun e s₁ => wpAny (model X.prog X.w) X.A (noteFrame e X.env) (fun _ s₂ => wpAny (model X.prog X.w) X.A (setFlight e none) (fun _ s₃ =>
    wpAny (model X.prog X.w) X.A (handleBy e X.env [.ExceptHandler (some (.Name x np)) (some n) (b0 :: suite) pos']) (SP X pins Dn) X.xe s₃) X.xe s₂) X.xe s₁) (fun u s' xx => ?_) PassesOwn.looking).run [] s sg H Dn (I.toTry _) hw) (fun f s1 hsp => ?_) (fun e s1 he => he)
  · -- the catch
    obtain ⟨a, B, sI, pins', sg', H', cls, d, rfl, J', nb, up, sky, na, os, ag, ex, e1, S1, io1, dn, sl, xr, pc⟩ := xx
    have J : L2.Inv X pins sg' H' sI := J'.ofTry ok
    have sky' : Sky B (X.env :: X.outer) a (Zc cls d) X.env.locals s'.heap := by rw [← hs]; exact sky
    show wpAny (model X.prog X.w) X.A (noteFrame (.ref a) X.env) _ _ _
    refine Sky.land Zc.steady hfr hf sky' fun h3 fl3 up3 => ?_
    have J3 : L2.Inv X pins sg' H' { s' with heap := h3 } := J.landed nb fl3.1 (up.trans up3) os ag
    obtain ⟨oe3, vs3, he3, hz3, hd3⟩ := fl3.there
    have notFr : ∀ {h : Heap} {o : Obj} {vs : Array Value}, h.FunFrames B (X.env :: X.outer) → h.get? a = some o → o.data = .fields vs → a ∉ frs (X.env :: X.outer) := fun {h o vs} ff e dd hm => by
      obtain ⟨_, o', e', hnf⟩ := ff.mem hm
      rw [e] at e'; cases e'
      exact hnf _ dd
    have nfr := notFr fl3.2.2.1 he3 hd3
    have nL : a ≠ X.env.locals := fun z => nfr (List.mem_filterMap.mpr ⟨X.env, List.mem_cons_self, by rw [hf, z]⟩)
    have nF : a ∉ X.fs := fun hm => by
      obtain ⟨e, he, q⟩ := List.mem_filterMap.mp hm
      exact nfr (List.mem_filterMap.mpr ⟨e, List.mem_cons_of_mem _ he, q⟩)
    have nB : B.get? a = none := fl3.2.1
    have n0 : X.s_0.heap.get? a = none := by
      cases q : X.s_0.heap.get? a with
      | none => rfl
      | some o =>
        obtain ⟨o', q'⟩ := J.base.there a o q (by rw [hex]; simp)
        have := nb a o' q' (by rw [hs]; exact nfr)
        rw [nB] at this; cases this
    have npn : ∀ p ∈ X.pn ++ pins, p.1 ≠ a := fun p hp z => by
      obtain ⟨q1, q2, q3, q4, _⟩ := J.pin p hp
      have := nb p.1 p.2 q1 (fun hm => by
        rcases List.mem_cons.mp (J.stkSub _ hm) with q | q
        · exact q3 q
        · exact q4 q)
      rw [z, nB] at this; cases this
    have S3 := J3.suite he3 hd3 na nL nF
    refine wpAny_handleBy_cons (codeAny_handlers_test ?_) (by intro q; cases q)
    have LT : PySem.W.Looks (model X.prog X.w) h3 (typeOf (.ref a)) cls := fun A Q E s k q => wpAny_typeOf_ref (k _ _ he3) (by rw [hz3.1]; exact q)
    cases eb : sub ex.c with
    | none => simp only [catchAs, eb] at pc; exact pc.elim
    | some b =>
    have hb1 : PySem.W.exmOne X.K cls c = some b := by rw [xr.1]; exact hsub _ _ eb
    have LM := PySem.W.exm_one (M := model X.prog X.w) (J3.kIn) LT hb1
    have test : ∀ {Q : Value → Shared → Prop} {E : Value → Shared → Prop}, Q c { s' with heap := h3 } → wpAny (model X.prog X.w) (X.A.mark (some (.ref a))) (eval (.Name x np) X.env) Q E { s' with heap := h3 } := fun {Q E} q => by
      obtain ⟨hg, hdbg, hm | ⟨hm, hv, hnn⟩⟩ := hc
      · exact ld_glob (X := X.suite a ((a, oe3) :: (X.pn ++ pins))) S3 hg hm q hdbg
      · exact ld_blt (X := X.suite a ((a, oe3) :: (X.pn ++ pins))) S3 hg hm hv q hnn hdbg
    refine test (LM.here ?_)
    cases b with
    | true =>
      refine codeAny_handlers_suite_as ?_
      refine HandSPX.lands_againZ fl3 fun h4 fl4 up4 => ?_
      have J4 : L2.Inv X pins sg' H' { s' with heap := h4 } := J.landed nb fl4.1 ((up.trans up3).trans up4) os ag
      obtain ⟨oe4, vs4, he4, hz4, hd4⟩ := fl4.there
      have J5 := Inv.track J4 he4 hd4 na nL n0 npn
      rw [hz4.1, hz4.2] at J5
      have S4 := Inv.toSuite J5 a
      refine store_ok (X := X.suite a (X.pn ++ pins)) (v := .ref a) S4 hN hi hloc rfl (fun s5 S5 => ?_) (.inr hln)
      have xn := Ext.new (o := exH a cls d) dn na
      have pc' : PostS X.K C (fun _ _ _ _ => False) io1 (upd H' a (exH a cls d)) (ms (e1.set i (some (.exn ex.c ex.ns ex.xs))) S1) { nx := fun sg2 H2 => Dn.nx (sg2.set i none) H2, rt := Dn.rt, bk := fun sg2 H2 => Dn.bk (sg2.set i none) H2, ct := fun sg2 H2 => Dn.ct (sg2.set i none) H2 } := by
        have p1 := PostS.ext xn pc
        simp only [catchAs, eb] at p1
        cases q : ms (e1.set i (some (.exn ex.c ex.ns ex.xs))) S1 with
        | nx e2 S2 => rw [q] at p1; exact fun sg2 H2 io2 x2 d2 s2 => p1 _ H2 io2 x2 d2 (s2.none i)
        | rt d2 S2 => rw [q] at p1; exact p1
        | er y e2 S2 => rw [q] at p1; exact p1.elim
        | bad => rw [q] at p1; exact p1
      refine wpAny_mono ((hsu a (X.pn ++ pins)).run [] s5 _ _ _ S5 ⟨_, S1, io1, dn.new na, (sl.ext xn).set i (exn_rep dn na xr), pc'⟩) (fun f s6 hsp => ?_) (fun _ _ z => False.elim z)
      have end_ : ∀ {sg6 : L2.St} {H6 : Hp} {Q : Shared → Prop}, L2.Inv (X.suite a (X.pn ++ pins)) [] sg6 H6 s6 → (∀ s7, L2.Inv X pins (sg6.set i none) H6 s7 → Q s7) →
          wpAny (model X.prog X.w) X.A (do bindName X.env n .none; unbindBehindTheSuite X.env n pos') (fun _ s7 => Q s7) X.xe s6 := fun {sg6 H6 Q} S6 hq => gone_ok (Inv.offSuite S6 ok) hN hi hln hq
      cases f with
      | next =>
        obtain ⟨sg6, H6, S6, q6⟩ := hsp
        exact end_ S6 fun s7 J7 => ⟨_, _, J7, q6⟩
      | brk =>
        obtain ⟨sg6, H6, S6, q6⟩ := hsp
        exact end_ S6 fun s7 J7 => ⟨_, _, J7, q6⟩
      | cont =>
        obtain ⟨sg6, H6, S6, q6⟩ := hsp
        exact end_ S6 fun s7 J7 => ⟨_, _, J7, q6⟩
      | ret u =>
        obtain ⟨v6, sg6, H6, S6, r6, q6⟩ := hsp
        exact end_ S6 fun s7 J7 => ⟨_, _, _, J7, r6, q6⟩
    | false =>
      show wpAny _ X.A (handleBy (.ref a) X.env []) _ _ _
      refine wpAny_handleBy_nil ?_
      obtain ⟨k1, k2, k3, oe, vs, T, oT, ts', he, hz, hd, h1, hr⟩ := id fl3
      unfold PySem.passOn
      refine wpAny_bind (wpAny_field he hd h1 ?_)
      rw [if_neg (show ¬ ((Value.ref T == Value.none) = true) from by simp)]
      simp only [catchAs, eb] at pc
      have fin : wpAny (model X.prog X.w) X.A (setFlight (.ref a) X.env.frame) (fun _ s4 => wpAny (model X.prog X.w) X.A (throw (.ref a) : Sem Flow) (SP X pins Dn) X.xe s4) X.xe { s' with heap := h3 } := by
        rw [hf]
        refine HandSPX.setFlight_upZ fl3 fun h4 hh4 up4 => wpAny_throw (tk _ _ ?_)
        exact ⟨a, B, sI, pins, sg', H', cls, d, rfl, J, nb, (up.trans up3).trans up4, .inr (.inr (by rw [hs]; exact hh4)), na, os, ag, pc cls d sg' H' io1 (Ext.refl _ _) dn sl xr⟩
      first
        | exact wpAny_bind (wpAny_pure (wpAny_bind fin))
        | exact wpAny_bind fin
  · cases f with
    | next => obtain ⟨sg1, H1, I1, q⟩ := hsp; exact wpAny_execs_nil ⟨sg1, H1, I1.ofTry ok, q⟩
    | brk => obtain ⟨sg1, H1, I1, q⟩ := hsp; exact ⟨sg1, H1, I1.ofTry ok, q⟩
    | cont => obtain ⟨sg1, H1, I1, q⟩ := hsp; exact ⟨sg1, H1, I1.ofTry ok, q⟩
    | ret u => obtain ⟨v, sg1, H1, I1, r, q⟩ := hsp; exact ⟨v, sg1, H1, I1.ofTry ok, r, q⟩

/-! ### raise X('..') of an own class without an __init__ -/
def sRaise0 (c : Nat) : RS := fun e S => .er ⟨c, [], []⟩ e S
theorem s_raise0 (c : Nat) {m : Str} {j : Nat} {bmB : List Value} {B newId initId : String} {p p2 : Pos} (hc : X.calm = true) (tk : Takes X W) (F : ExcBaseFacts B newId initId bmB) (q : PySem.W.excIn X.K (C c) bmB newId = true) (gC : X.mg x = some (.ref (C c))) (kC : PySem.W.keepIn X.K (.ref (C c)) = true) (r : Raises X (.ref (C c))) (hg : Gl X x)
    (hdb : (x == ("__debug__" : Str)) = false := by decide) : PS X (.Raise (some (.Call (.Name x p) [.Constant (.str m) j p2] [] pos')) none pos) (tS X.K C W (sRaise0 c)) :=
  (ps_raise hc tk (pmk_own F q gC kC r hg hdb)).imp fun Dn sg H ⟨e, S, io, d, s, p⟩ => p _ _ sg H io (Ext.refl _ _) d s ⟨rfl, .inl ⟨rfl, rfl, rfl⟩⟩
end
end Ev
namespace Ev
open PySem PySem.Spec L2

/-! ### isinstance, any classes -/
/-- a value's class: a built-in one by its name, or one of ours by its number -/
abbrev TK := Sum String Nat
def tkV (C : Nat → Addr) : TK → Value
  | .inl t => .type t
  | .inr c => .ref (C c)
def tkD (S : Store) : D → Option TK
  | .exn c _ _ => some (.inr c)
  | d => (tyD S d).bind fun t => some (.inl t)
section
variable {X : Cx} {C : Nat → Addr} {W : WX} {pins : List (Addr × Obj)} {sg : L2.St} {H : Hp} {s : Shared} {io : Io} {S : Store} {d : D} {v : V} {u : Value} {k : TK}
theorem kitD (hX : ∀ c, k = .inr c → ExcC X.K (C c)) (h : tkD S d = some k) (I : L2.Inv X pins sg H s) (dn : Den X.K C io S H) (r : Rep X.K C io (Fz io H) d v) (ru : RelV v u) :
    ∃ P : Heap → Prop, PySem.W.KitX X.K u (tkV C k) P ∧ P s.heap ∧ u ≠ .builtin "__main__.__loader__#opaque" := by
  have base : ∀ t, tyD S d = some t → k = .inl t → ∃ P : Heap → Prop, PySem.W.KitX X.K u (tkV C k) P ∧ P s.heap ∧ u ≠ .builtin "__main__.__loader__#opaque" := fun t e1 e2 => by
    subst e2
    exact kit_of I ru (tyD_rep e1 dn r)
  have flat : (tyD S d).bind (fun t => some (Sum.inl t : TK)) = some k → ∃ P : Heap → Prop, PySem.W.KitX X.K u (tkV C k) P ∧ P s.heap ∧ u ≠ .builtin "__main__.__loader__#opaque" := fun h => by
    obtain ⟨t, e, e2⟩ := bind_some' h
    cases e2
    exact base t e rfl
  cases r with
  | @exn0 c a q =>
    cases h
    have E := hX c rfl
    obtain ⟨⟨oe, vs, h1, h2, h3, h4⟩, _, _⟩ := I.hok a _ (Fz_same _ _ _ _ q)
    cases ru
    refine ⟨fun h => PySem.W.InstAt h a oe (C c) none, PySem.W.handS_kitx_exc E.hg E.hk E.hs E.hd E.ha E.hn E.ht E.hm, ?_, fun z => nomatch z⟩
    obtain ⟨oc, od, oda, osl⟩ := oe
    dsimp only at h2 h3 h4
    subst h2 h3 h4
    exact ⟨h1, rfl, rfl, trivial⟩
  | @exnF c a dd fs ns vs ds q q2 e1 e2 rs =>
    cases h
    have E := hX c rfl
    obtain ⟨⟨oe, vs, h1, h2, h3, h4⟩, _, _⟩ := I.hok a _ (Fz_same _ _ _ _ q)
    obtain ⟨mA, ⟨od, _, _, ho, _⟩, _⟩ := I.hok dd _ (Fz_same _ _ _ _ q2)
    cases ru
    have hcl : (PySem.W.clsIn X.K (C c)).isSome = true := by
      obtain ⟨cd, hc, _⟩ := PySem.W.any_some E.hd
      rw [hc]; rfl
    refine ⟨fun h => PySem.W.InstAt h a oe (C c) (some od), PySem.W.kitx_exc hcl E.hg E.hk E.hs E.ha E.hn E.ht E.hm, ?_, fun z => nomatch z⟩
    obtain ⟨oc, odd, oda, osl⟩ := oe
    dsimp only at h2 h3 h4
    subst h2 h3 h4
    exact ⟨h1, rfl, rfl, ho⟩
  | non => exact flat h
  | bl b => exact flat h
  | int i => exact flat h
  | str x => exact flat h
  | tup q rs => exact flat h
  | lst q rs => exact flat h
  | dct q a b rs => exact flat h
  | loc q => exact flat h
end
def isiQ (kq : TK → Option Bool) (S : Store) (d : D) : Option D := (tkD S d).bind fun k => (kq k).bind fun b => some (.bl b)
def kqAny : List (TK → Option Bool) → TK → Option Bool
  | [], _ => some false
  | q :: qs, k => (q k).bind fun b => if b = true then some true else kqAny qs k
/-- the classes that a tuple names -/
def tCs (cs : List V) : TA := fun _ H Q => Q cs H
section
variable {X : Cx} {C : Nat → Addr} {W : WX} {a e2 : Expr} {es : List Expr} {ra : RE} {c : V} {cs : List V} {cv : Value} {cvs : List Value} {kq : TK → Option Bool} {pos p p' : Pos}
theorem tCs_nil : PA X [] (tCs []) := pa_nil
theorem tCs_cons (h : PE X e2 (tC c)) (hr : PA X es (tCs cs)) (hs : starEach (e2 :: es) X.env = (false, eval e2 X.env) :: starEach es X.env := by rfl) : PA X (e2 :: es) (tCs (c :: cs)) := pa_cons h hr hs
theorem ee_isiQ (ha : PE X a (tE X.K C W ra)) (hg : Gl X "isinstance") (hm : X.mg "isinstance" = none) (hc : PE X e2 (tC c)) (hk : ClsV c cv) (hq : ∀ k b, kq k = some b → PySem.W.kitOne X.K (tkV C k) cv = some b) (hX : ∀ n b, kq (.inr n) = some b → ExcC X.K (C n))
    (hv0 : bootBuiltins "isinstance" = some (.builtin "isinstance") := by decide +kernel)
    (he : starEach [a, e2] X.env = (false, eval a X.env) :: starEach [e2] X.env := by rfl) (he2 : starEach [e2] X.env = [(false, eval e2 X.env)] := by rfl) : PE X (.Call (.Name "isinstance" p) [a, e2] [] pos) (tE X.K C W (rUn (isiQ kq) ra)) := by
  have hC : CallR X (.builtin "isinstance") (fun xs H Q => ∃ x io S d k b, xs = [x, c] ∧ Den X.K C io S H ∧ Rep X.K C io (Fz io H) d x ∧ tkD S d = some k ∧ kq k = some b ∧ Q (.bl b) H) := by
    intro pins s sg H xs us Q I r ⟨x, io, S, d, k, b, hx, dn, rd, ek, eb, q⟩
    subst hx
    obtain ⟨u1, u2, rfl, r1, r2⟩ := vals2 r
    have e2 := hk.eq r2
    subst e2
    obtain ⟨P, Z, p, hx⟩ := kitD (fun n e => hX n b (by rw [← e]; exact eb)) ek I dn rd r1
    exact PySem.W.kia_one Z I.kIn p (hq k b eb) hx fun tk => ⟨.bl b, H, I.tok tk, rfl, q⟩
  exact (pe_callB hC hg hm hv0 (pa_cons ha (pa_cons hc pa_nil he2) he) (by decide) (by decide) he (by rw [he2]; rfl)).imp fun sg H Q h => (tR.seq1 (R := RepR X.K C) (fun _ d S => ofO (isiQ kq S d) S) h fun _ _ => rfl).mono fun v H1 ⟨e, S, io, d, dn, s, r, p⟩ => by
    obtain ⟨z, ez, p⟩ := p.ofO
    obtain ⟨t, et, ez⟩ := bind_some' ez
    obtain ⟨b, eb, ez⟩ := bind_some' ez
    cases ez
    exact ⟨v, io, S, d, t, b, rfl, dn, r, et, eb, p _ H1 io (Ext.refl _ _) dn (.bl _)⟩
inductive KqAll (K : PySem.W.Frag) (C : Nat → Addr) : List (TK → Option Bool) → List Value → Prop
  | nil : KqAll K C [] []
  | cons {q : TK → Option Bool} {qs : List (TK → Option Bool)} {v : Value} {vs : List Value} (h : ∀ k b, q k = some b → PySem.W.kitOne K (tkV C k) v = some b) (hX : ∀ n b, q (.inr n) = some b → ExcC K (C n)) (r : KqAll K C qs vs) : KqAll K C (q :: qs) (v :: vs)
theorem KqAll.any {K : PySem.W.Frag} : ∀ {qs : List (TK → Option Bool)} {vs : List Value}, KqAll K C qs vs → ∀ k b, kqAny qs k = some b → PySem.W.kitAny K (tkV C k) vs = some b
  | _, _, .nil, k, b, h => by cases h; exact kitAny_nil
  | _, _, .cons hq _ r, k, b, h => by
    obtain ⟨b1, e1, e2⟩ := bind_some' h
    cases b1 with
    | true =>
      rw [if_pos rfl] at e2
      cases e2
      exact kitAny_cons (hq k _ e1) (fun z => nomatch z) fun _ => rfl
    | false =>
      rw [if_neg Bool.false_ne_true] at e2
      exact kitAny_cons (hq k _ e1) (fun _ => KqAll.any r k b e2) fun z => nomatch z
theorem ee_isiT {qs : List (TK → Option Bool)} {kt : Nat} (ha : PE X a (tE X.K C W ra)) (hg : Gl X "isinstance") (hm : X.mg "isinstance" = none) (hc : PA X es (tCs cs)) (hk : Paired ClsV cs cvs) (hq : KqAll X.K C qs cvs) (hX : ∀ n b, kqAny qs (.inr n) = some b → ExcC X.K (C n)) (hl : cs.length ≤ sizeLine := by exact Nat.le_of_ble_eq_true rfl)
    (hv0 : bootBuiltins "isinstance" = some (.builtin "isinstance") := by decide +kernel)
    (he : starEach [a, .Tuple es kt p'] X.env = (false, eval a X.env) :: starEach [.Tuple es kt p'] X.env := by rfl) : PE X (.Call (.Name "isinstance" p) [a, .Tuple es kt p'] [] pos) (tE X.K C W (rUn (isiQ (kqAny qs)) ra)) := by
  have hC : CallR X (.builtin "isinstance") (fun xs H Q => ∃ x tp io S d k b, xs = [x, .ref tp] ∧ H tp = some (.tup cs) ∧ Den X.K C io S H ∧ Rep X.K C io (Fz io H) d x ∧ tkD S d = some k ∧ kqAny qs k = some b ∧ Q (.bl b) H) := by
    intro pins s sg H xs us Q I r ⟨x, tp, io, S, d, k, b, hx, hT, dn, rd, ek, eb, q⟩
    subst hx
    obtain ⟨u1, u2, rfl, r1, r2⟩ := vals2 r
    cases (show u2 = Value.ref tp from r2)
    obtain ⟨P, Z, p, hx⟩ := kitD (fun n e => hX n b (by rw [← e]; exact eb)) ek I dn rd r1
    obtain ⟨_, its, rv, o, h1, h2, n, h3⟩ := (show ObjOk X.prog X.w H s.heap tp (.tup cs) from I.hok tp _ hT)
    have e3 := ClsV.all hk rv
    subst e3
    obtain ⟨oc, od, dt, sl⟩ := o
    simp only at h2 h3
    subst h2 h3
    exact PySem.W.kia_tup Z I.kIn p h1 (hq.any k b eb) hx fun tk => ⟨.bl b, H, I.tok tk, rfl, q⟩
  exact (pe_callB hC hg hm hv0 (pa_cons ha (pa_cons (pe_tup hc) pa_nil rfl) he) (by decide) (by decide) he rfl).imp fun sg H Q h => (tR.seq1 (R := RepR X.K C) (fun _ d S => ofO (isiQ (kqAny qs) S d) S) h fun _ _ => rfl).mono fun v H1 ⟨e, S, io, d, dn, s, r, p⟩ => by
    obtain ⟨z, ez, p⟩ := p.ofO
    obtain ⟨t, et, ez⟩ := bind_some' ez
    obtain ⟨b, eb, ez⟩ := bind_some' ez
    cases ez
    refine ⟨hl, fun q hq' => ?_⟩
    have x1 := Ext.new (o := .tup cs) dn hq'
    exact ⟨v, q, io, S, d, t, b, rfl, upd_same, dn.new hq', r.ext x1, et, eb, p _ _ io x1 (dn.new hq') (.bl _)⟩
end

/-! ### the law's end -/
theorem law_end {K : PySem.W.Frag} {C : Nat → Addr} {g : List D → Store → Res D} {H : Hp} {a : Addr} {ns : List Int} (hS : SqL K H a (ns.map V.int)) (h : ∃ S', g [.lst (ns.map D.int)] [] = .ok (.bl true) S') :
    spOf K C 1 g [.ref a] H (fun v _ => v = .bl true) (fun _ _ _ => False) := by
  obtain ⟨S', e⟩ := h
  have e0 : Fz ⟨[], []⟩ H = H := by funext b; unfold Fz Io.all; simp
  have intsR : ∀ ms : List Int, Reps K C ⟨[], []⟩ H (ms.map D.int) (ms.map V.int) := fun ms => by
    induction ms with
    | nil => exact .nil
    | cons m r ih => exact .cons (.int m) ih
  refine ⟨rfl, [.lst (ns.map D.int)], [], ⟨[], []⟩, ⟨rfl, List.nodup_nil, fun n o a h => (by cases h), fun p h => (by cases h)⟩, .cons (.lst (by rw [e0]; exact hS) (by rw [e0]; exact intsR ns)) .nil, ?_⟩
  rw [e]
  exact fun v H' io' x d r => by cases r; rfl
theorem cx_end {P : Program} {w : World} {H : Hp} {s : Shared} {e : Value} {s' : Shared} (h : L2.CX P w [] H s (fun _ _ _ => False) e s') : False := by
  obtain ⟨_, _, _, _, _, _, _, _, _, _, _, _, h⟩ := h
  exact h
end Ev
namespace Ev
open PySem PySem.Spec L2
section
variable {X : Cx} {C : Nat → Addr} {W : WX} {pos : Pos} {x : Str}
theorem ee_gI {i : Int} (h : ∃ t, X.mg x = some (.int i t)) (hg : Gl X x := by rfl) (hd : (x == ("__debug__" : Str)) = false := by decide) : PE X (.Name x pos) (tE X.K C W (rCon (.int i))) :=
  let ⟨_, h⟩ := h
  ee_glob (v := .int i) hg h ⟨_, rfl⟩ (fun _ _ => .int _) hd
theorem ee_gS {z : Str} (h : ∃ t, X.mg x = some (.str z t)) (hg : Gl X x := by rfl) (hd : (x == ("__debug__" : Str)) = false := by decide) : PE X (.Name x pos) (tE X.K C W (rCon (.str z))) :=
  let ⟨_, h⟩ := h
  ee_glob (v := .str z) hg h ⟨_, rfl⟩ (fun _ _ => .str _) hd
/-- {} -/
def rDct0 : RE := fun _ S => .ok (.dct [] []) S
theorem ee_dct0 : PE X (.Dict [] [] pos) (tE X.K C W rDct0) := pe_dnewK.imp fun sg H Q ⟨e, S, io, d, s, p⟩ => fun q hq => by
  refine p _ _ io (Ext.new d hq) (d.new hq) (.dct (kvs := []) ?_ rfl rfl .nil)
  rw [Fz_out (d.fresh hq)]
  exact upd_same
end
/-! the end of a law -/
open PyProof.Rows PySem.W in
theorem walk_ev {l : PySem.W.OpenLaw} {n k : Nat} {q : Program} {loose : List Str} {XP : (Str → Option Value) → Heap → Prop} {YP : World → Heap → Prop} {d : DefRec} {K : Params → PySem.W.Frag} {x : Str} {g : List D → Store → Res D}
    (hn : l.most = some n) (hn2 : n ≤ sizeLine) (hdf : d.params.defaults = []) (hr : Room k callerA)
    (hY : ∀ (w : World) (h : Heap), YP w h → (K w.params).In h)
    (F : ∀ (w : World) (mg : Str → Option Value) (fa : Addr) (h : Heap), (K w.params).In h → h.Ns mainGlobals mg → mg d.name = some (.ref fa) →
      ∃ (fd : FuncData) (C : Nat → Addr), (∀ (s : Shared) (u : Value), BindsTo s fd ⟨[u], []⟩ [(x, u)]) ∧
        ∀ base : Heap, (K w.params).In base → base.Ns mainGlobals mg → FnOk l.prog w (K w.params) mg base (L2.CX l.prog w) k fa fd [x] (spOf (K w.params) C 1 g))
    (hg : ∀ ns : List Int, ns.length ≤ n → ∃ S', g [.lst (ns.map D.int)] [] = .ok (.bl true) S') :
    PySem.W.WalkO q loose XP YP l.row.toRowW d [] (fun f vs => PySem.call f vs) :=
  L2.walk_of (CX := fun w => L2.CX l.prog w) (sp := fun w vs H Q E => vs.length = 1 ∧ ∀ C, spOf (K w.params) C 1 g vs H Q E) hn hn2 hdf hr hY
    (fun w mg fa h hK hG hm => by
      obtain ⟨fd, C, hb, hF⟩ := F w mg fa h hK hG hm
      exact ⟨fd, hb, fun base h1 h2 => (hF base h1 h2).imp fun vs H Q E z => z.2 C⟩)
    (fun w H a ns hl hO hS => ⟨rfl, fun C => law_end hS (hg ns hl)⟩) (fun w H s e s' h => cx_end h)
end Ev
namespace Ev
open PySem PySem.Spec L2

/-! ### list comprehensions -/
def wipeE (e : Env) : List Nat → Env
  | [] => e
  | v :: vs => (wipeE e vs).set v none
def Res.calm {A : Type} : Res A → Res A
  | .ok a S => .ok a S
  | _ => .bad
def lcL (t : Tg) (c : RT) (elt : RE) (e0 : Env) : List D → Store → Res (List D)
  | [], S => .ok [] S
  | d :: ds, S => match bindT S d e0 t with
    | none => .bad
    | some e1 => (c e1 S).bind fun k S1 => if k = true then (elt e1 S1).bind fun y S2 => (lcL t c elt e0 ds S2).bind fun ys S3 => .ok (y :: ys) S3 else lcL t c elt e0 ds S1
def frzL : List D → Store → Res D := fun ys S => .ok (.lst ys) S
def mutL : List D → Store → Res D := fun ys S => .ok (.loc S.length) (S ++ [.lst ys])
def rLc (fin : List D → Store → Res D) (it : RA) (t : Tg) (vs : List Nat) (c : RT) (elt : RE) : RE := fun e S => (it e S).bind fun ds S1 => if ds.length ≤ sizeLine then (lcL t c elt (wipeE e vs) ds S1).calm.bind fin else .bad
def rYes : RT := fun _ S => .ok true S
theorem Slots.wipe {K : PySem.W.Frag} {C : Nat → Addr} {io : Io} {F : Hp} {e : Env} {sg : L2.St} (s : Slots K C io F e sg) : ∀ vs : List Nat, Slots K C io F (wipeE e vs) (wipe sg vs)
  | [] => s
  | v :: vs => (Slots.wipe s vs).none v
/-- what the end of a comprehension may do with the list at p -/
def FinOk (fin : List D → Store → Res D) : Prop := ∀ (K : PySem.W.Frag) (C : Nat → Addr) (W : WX) (sg : L2.St) (io0 io : Io) (H0 H : Hp) (S : Store) (p : Addr) (ys : List D) (vs : List V) (Q : VK),
  (∀ (n : Nat) (a : Addr), io0.l[n]? = some a → io.l[n]? = some a) → io.h = io0.h → Same (Fz io0 H0) (Fz (io.hide p (.lst vs)) H) → Den K C (io.hide p (.lst vs)) S H → Reps K C io (Fz (io.hide p (.lst vs)) H) ys vs → Post K C (RepR K C) W sg io0 H0 (fin ys S) Q → Q (.ref p) H
theorem frzL_ok : FinOk frzL := fun K C W sg io0 io H0 H S p ys vs Q hp hh hs dn rs post => by
  obtain ⟨d1, np, e⟩ := dn.unhide
  obtain ⟨s1, e1⟩ := Fz_unhide np e
  exact post _ H io ⟨hp, hh, hs.trans s1⟩ d1 (.lst (.inl (.inl e1)) (rs.mono (fun _ _ h => h) s1))
theorem Fz_adopt {io : Io} {H : Hp} {p : Addr} {o : HO} : Fz (io.add p) H = Fz (io.hide p o) H := by
  funext b
  unfold Fz
  simp only [mem_add, mem_hide]
theorem mutL_ok : FinOk mutL := fun K C W sg io0 io H0 H S p ys vs Q hp hh hs dn rs post => by
  obtain ⟨d1, np, e⟩ := dn.unhide
  have hpre : ∀ (n : Nat) (a : Addr), io.l[n]? = some a → (io.add p).l[n]? = some a := fun n a h => by
    show (io.l ++ [p])[n]? = some a
    rw [List.getElem?_append_left (List.getElem?_eq_some_iff.mp h).1]; exact h
  have hs2 : Same (Fz (io.hide p (.lst vs)) H) (Fz (io.add p) H) := by rw [Fz_adopt (o := .lst vs)]; exact fun _ _ h => h
  refine post _ H (io.add p) ⟨fun n a h => hpre n a (hp n a h), hh, hs.trans hs2⟩ ⟨by simp [Io.add, d1.len], nodup_add d1.nd np, fun n x a e1 e2 => ?_, fun q hq => d1.hid q hq⟩ (.loc ?_)
  · have e2' : (io.l ++ [p])[n]? = some a := e2
    by_cases hn : n < io.l.length
    · rw [List.getElem?_append_left hn] at e2'
      rw [List.getElem?_append_left (by rw [← d1.len]; exact hn)] at e1
      have q := dn.obj n x a e1 e2'
      cases x with
      | lst zs => obtain ⟨us, h1, h2⟩ := q; exact ⟨us, h1, h2.mono (io := io.hide p (.lst vs)) hpre hs2⟩
      | dK ks zs => obtain ⟨us, h1, h2, h3⟩ := q; exact ⟨us, h1, h2, h3.mono (io := io.hide p (.lst vs)) hpre hs2⟩
      | ins c ns zs => obtain ⟨dx, fs, h1, h2, h3, h4⟩ := q; exact ⟨dx, fs, h1, h2, h3, h4.mono (io := io.hide p (.lst vs)) hpre hs2⟩
    · have h1 : n = io.l.length := by
        have := (List.getElem?_eq_some_iff.mp e2').1
        simp at this; omega
      subst h1
      rw [List.getElem?_append_right (Nat.le_refl _)] at e2'
      rw [d1.len, List.getElem?_append_right (Nat.le_refl _)] at e1
      simp at e1 e2'
      subst e1; subst e2'
      exact ⟨vs, e, rs.mono hpre hs2⟩
  · rw [← d1.len]
    show (io.l ++ [p])[io.l.length]? = some p
    rw [List.getElem?_append_right (Nat.le_refl _)]; simp
def gTg (K : PySem.W.Frag) (C : Nat → Addr) (t : Tg) : TG := fun v sg H Q => ∃ e S io d e', Den K C io S H ∧ Slots K C io (Fz io H) e sg ∧ Rep K C io (Fz io H) d v ∧ bindT S d e t = some e' ∧ ∀ sg', Slots K C io (Fz io H) e' sg' → Agree t sg sg' → Q sg' H
section
variable {X : Cx} {C : Nat → Addr} {W : WX} {elt tg iter : Expr} {ifs : List Expr} {scope : Scope} {own : List (Str × Nat)} {pos : Pos} {ri : RA} {t : Tg} {rc : RT} {re : RE} {fin : List D → Store → Res D}
/-- the reading of a comprehension -/
theorem lc_read (hfin : FinOk fin) (sg : L2.St) (H : Hp) (Q : VK) (vs : List Nat) (hv : ∀ i ∈ t.ixs, i ∈ vs) (h : tE X.K C W (rLc fin ri t vs rc re) sg H Q) :
    tLc (tI X.K C W ri) (gTg X.K C t)
      (tT X.K C (fun _ _ _ _ => False) rc) (tE X.K C (fun _ _ _ _ => False) re) vs sg H Q := by
  refine (tR.seq1 (R := Wk X.K C) (fun e ds S1 => if ds.length ≤ sizeLine then (lcL t rc re (wipeE e vs) ds S1).calm.bind fin else .bad) h fun _ _ => rfl).mono fun J H1 ⟨e, S, io, ds, dn, sl, wk, post⟩ => ?_
  split at post
  · rename_i hz
    intro p hp
    let Done : List D → Store → Prop := fun ys S2 => Post X.K C (RepR X.K C) W sg io H1 (fin ys S2) Q
    refine ⟨fun i m H' => m + i = ds.length ∧ ∃ S' io' acc ys, (∀ (n : Nat) (a : Addr), io.l[n]? = some a → io'.l[n]? = some a) ∧ io'.h = io.h ∧ Same (Fz io H1) (Fz (io'.hide p (.lst acc)) H') ∧
        Den X.K C (io'.hide p (.lst acc)) S' H' ∧ Reps X.K C io' (Fz (io'.hide p (.lst acc)) H') ys acc ∧ acc.length ≤ i ∧ ∃ zs S2, lcL t rc re (wipeE e vs) (ds.drop i) S' = .ok zs S2 ∧ Done (ys ++ zs) S2,
      ⟨ds.length, rfl, S, io, [], [], fun _ _ h => h, rfl, by rw [Fz_hide hp]; exact fun _ _ h => h, dn.hide hp rfl, .nil, Nat.le_refl _, ?_⟩, fun i m H' ⟨hm, S', io', acc, ys, h1, h2, h3, d', rs, hl, zs, S2, hlc, hd⟩ => ?_⟩
    · cases q : lcL t rc re (wipeE e vs) ds S with
      | ok zs S2 => rw [q] at post; exact ⟨zs, S2, q, post⟩
      | err x S2 => rw [q] at post; exact post.elim
      | bad => rw [q] at post; exact post.elim
    obtain ⟨go, stop, yld⟩ := wk (io'.hide p (.lst acc)) H' S' h1 h3 d'
    by_cases hi : i < ds.length
    · rw [List.drop_eq_getElem_cons hi] at hlc
      refine .inr ⟨go i hi, fun H2 => ∃ S' io' acc ys, (∀ (n : Nat) (a : Addr), io.l[n]? = some a → io'.l[n]? = some a) ∧ io'.h = io.h ∧ Same (Fz io H1) (Fz (io'.hide p (.lst acc)) H2) ∧
        Den X.K C (io'.hide p (.lst acc)) S' H2 ∧ Reps X.K C io' (Fz (io'.hide p (.lst acc)) H2) ys acc ∧ acc.length ≤ i + 1 ∧ ∃ zs S2, lcL t rc re (wipeE e vs) (ds.drop (i + 1)) S' = .ok zs S2 ∧ Done (ys ++ zs) S2, fun H2 h2 => ⟨m - 1, by omega, by omega, h2⟩, fun x H2 y => ?_⟩
      obtain ⟨d, ed, x2, d2, r2⟩ := yld i x H2 hi y
      have ed' : ds[i] = d := by rw [List.getElem?_eq_getElem hi] at ed; exact Option.some.inj ed
      rw [ed'] at hlc
      unfold lcL at hlc
      cases hb : bindT S' d (wipeE e vs) t with
      | none => rw [hb] at hlc; cases hlc
      | some e1 =>
        rw [hb] at hlc
        dsimp only at hlc
        have hs2 : Slots X.K C (io'.hide p (.lst acc)) (Fz (io'.hide p (.lst acc)) H2) (wipeE e vs) (wipe sg vs) := by
          have s0 := sl.wipe vs
          refine ⟨s0.len, fun j q hq => ?_⟩
          obtain ⟨v, v1, v2⟩ := s0.get j q hq
          exact ⟨v, v1, (v2.mono (io' := io'.hide p (.lst acc)) h1 h3).mono (fun _ _ z => z) x2.same⟩
        refine ⟨wipeE e vs, S', io'.hide p (.lst acc), d, e1, d2, hs2, r2, hb, fun sg3 s3 ag => ⟨?_, e1, S', io'.hide p (.lst acc), d2, s3, ?_⟩⟩
        · rw [ag vs hv]
          have : ∀ s : L2.St, wipe (wipe s vs) vs = wipe s vs := fun s => by
            apply List.ext_getElem?
            intro j
            rw [wipe_get, wipe_get, wipe_length]
            by_cases hj : j ∈ vs <;> simp [hj]
          exact this sg
        cases hc : rc e1 S' with
        | err y Sy => rw [hc] at hlc; cases hlc
        | bad => rw [hc] at hlc; cases hlc
        | ok k S3 =>
          rw [hc] at hlc
          intro b H3 io3 x3 d3 eb
          cases eb
          -- the list that is filled is still there
          have hh3 : io3.h = (p, HO.lst acc) :: io'.h := x3.hid
          have e3 : io3 = (⟨io3.l, io'.h⟩ : Io).hide p (.lst acc) := by unfold Io.hide; rw [← hh3]
          cases k with
          | false =>
            replace hlc : lcL t rc re (wipeE e vs) (ds.drop (i + 1)) S3 = .ok zs S2 := hlc
            rw [if_neg Bool.false_ne_true]
            have px := x2.trans x3
            refine ⟨S3, ⟨io3.l, io'.h⟩, acc, ys, fun n a hn => px.pre n a (h1 n a hn), h2, ?_, ?_, ?_, by omega, zs, S2, hlc, hd⟩
            · rw [← e3]; exact h3.trans px.same
            · rw [← e3]; exact d3
            · rw [← e3]; exact rs.mono (io := io') (io' := ⟨io3.l, io'.h⟩) px.pre px.same
          | true =>
            replace hlc : ((re e1 S3).bind fun y S2 => (lcL t rc re (wipeE e vs) (ds.drop (i + 1)) S2).bind fun ys S3 => Res.ok (y :: ys) S3) = .ok zs S2 := hlc
            rw [if_pos rfl]
            refine ⟨e1, S3, io3, d3, s3.ext x3, ?_⟩
            cases he : re e1 S3 with
            | err y Sy => rw [he] at hlc; cases hlc
            | bad => rw [he] at hlc; cases hlc
            | ok y1 S4 =>
              rw [he] at hlc
              replace hlc : ((lcL t rc re (wipeE e vs) (ds.drop (i + 1)) S4).bind fun ys S3 => Res.ok (y1 :: ys) S3) = .ok zs S2 := hlc
              intro v H4 io4 x4 d4 r4
              have hh4 : io4.h = (p, HO.lst acc) :: io'.h := x4.hid.trans hh3
              have e4 : io4 = (⟨io4.l, io'.h⟩ : Io).hide p (.lst acc) := by unfold Io.hide; rw [← hh4]
              have px := (x2.trans x3).trans x4
              have hD : H4 p = some (.lst acc) := (d4.hid (p, .lst acc) (by rw [hh4]; exact List.mem_cons_self)).1
              refine ⟨acc, hD, by omega, ?_⟩
              cases hr : lcL t rc re (wipeE e vs) (ds.drop (i + 1)) S4 with
              | err q Sq => rw [hr] at hlc; cases hlc
              | bad => rw [hr] at hlc; cases hlc
              | ok zs' S5 =>
                rw [hr] at hlc
                cases hlc
                have fz : Fz ((⟨io4.l, io'.h⟩ : Io).hide p (.lst (acc ++ [v]))) (upd H4 p (.lst (acc ++ [v]))) = Fz io4 H4 := by
                  rw [Fz_hide_put (o := .lst acc), ← e4]
                refine ⟨S4, ⟨io4.l, io'.h⟩, acc ++ [v], ys ++ [y1], fun n a hn => px.pre n a (h1 n a hn), h2, ?_, ?_, ?_, by simp; omega, zs', S2, hr, by rw [List.append_assoc]; exact hd⟩
                · rw [fz]; exact h3.trans px.same
                · rw [e4] at d4
                  exact d4.rehide rfl
                · rw [fz]
                  exact (rs.mono (io := io') (io' := ⟨io4.l, io'.h⟩) px.pre px.same).append (.cons (r4.mono (io := io4) (io' := ⟨io4.l, io'.h⟩) (fun _ _ z => z) fun _ _ z => z) .nil)
    · have e1 : ds.length = i := by omega
      rw [List.drop_of_length_le (by omega)] at hlc
      cases hlc
      rw [e1] at stop
      rw [List.append_nil] at hd
      exact .inl ⟨stop, hfin X.K C W sg io io' H1 H' S' p ys acc Q h1 h2 h3 d' rs hd⟩
  · exact post.elim
theorem ee_lc {vs : List Nat} (hfin : FinOk fin) (hc : X.calm = true) (hN : X.N.Nodup) (hi : PI X tg iter (tI X.K C W ri)) (ok : BlkOk X.N X.env.scope scope own) (hw : own.map (·.2) = vs) (hv : ∀ i ∈ t.ixs, i ∈ vs)
    (hg : ∀ (s : Shared) (H : Hp) (A : Addr) (cl : List (Str × Addr)) (fp : List Addr), GD (X.blk s H scope (compEnvC scope cl A X.env) fp) C tg t)
    (ht : ∀ (s : Shared) (H : Hp) (A : Addr) (cl : List (Str × Addr)) (fp : List Addr), PTs (X.blk s H scope (compEnvC scope cl A X.env) fp) ifs (tT X.K C (fun _ _ _ _ => False) rc))
    (he : ∀ (s : Shared) (H : Hp) (A : Addr) (cl : List (Str × Addr)) (fp : List Addr), PE (X.blk s H scope (compEnvC scope cl A X.env) fp) elt (tE X.K C (fun _ _ _ _ => False) re)) (hs : ∀ x, foldedSetIterable iter X.env x = pure x := by intro _; rfl) :
    PE X (.ListComp elt [⟨tg, iter, ifs, 0⟩] scope pos) (tE X.K C W (rLc fin ri t vs rc re)) := by
  subst hw
  exact (pe_lc (g := gTg X.K C t) hc hN hi ok hg ht he hs).imp fun sg H Q h => lc_read hfin sg H Q _ hv h
theorem s_setLc (i : Nat) {vs : List Nat} {y : Str} {py spos : Pos} (hfin : FinOk fin) (hc : X.calm = true) (hN : X.N.Nodup) (hsw : swapsWith (.ListComp elt [⟨tg, iter, ifs, 0⟩] scope pos) (some (.Name y py)) spos.line X.env = pure true)
    (hi : PI X tg iter (tI X.K C W ri)) (ok : BlkOk X.N X.env.scope scope own) (hw : own.map (·.2) = vs) (hv : ∀ i ∈ t.ixs, i ∈ vs)
    (hg : ∀ (s : Shared) (H : Hp) (A : Addr) (cl : List (Str × Addr)) (fp : List Addr), GD (X.blk s H scope (compEnvC scope cl A X.env) fp) C tg t)
    (ht : ∀ (s : Shared) (H : Hp) (A : Addr) (cl : List (Str × Addr)) (fp : List Addr), PTs (X.blk s H scope (compEnvC scope cl A X.env) fp) ifs (tT X.K C (fun _ _ _ _ => False) rc))
    (he : ∀ (s : Shared) (H : Hp) (A : Addr) (cl : List (Str × Addr)) (fp : List Addr), PE (X.blk s H scope (compEnvC scope cl A X.env) fp) elt (tE X.K C (fun _ _ _ _ => False) re)) (hs : ∀ x, foldedSetIterable iter X.env x = pure x := by intro _; rfl)
    (hy : X.N[i]? = some y := by rfl) (hyl : X.env.scope.names.lookup y = some .local := by rfl) :
    PS X (.Assign [.Name y py] (.ListComp elt [⟨tg, iter, ifs, 0⟩] scope pos) spos) (tS X.K C W (sSet i (rLc fin ri t vs rc re))) := by
  subst hw
  exact (ps_setLc (g := gTg X.K C t) hc hN hy hyl hsw hi ok hg ht he hs).imp fun Dn sg H h => lc_read hfin sg H _ _ hv ((tS.seq (R := RepR X.K C) (fun e d S1 => .nx (e.set i (some d)) S1) h fun _ _ => rfl).mono fun v H1 ⟨e, S, io, k1, d, s, q, p⟩ => p _ H1 io (Ext.refl _ _) d (s.set i q))
theorem et_yes : PTs X [] (tT X.K C W rYes) := ⟨fun pins s sg H Q I h => pts_nil.run pins s sg H Q I (by
  obtain ⟨e, S, io, d, sl, p⟩ := h
  exact p true H io (Ext.refl _ _) d rfl)⟩
theorem et_if1 {c : Expr} (h : PT X c (tT X.K C W rc)) : PTs X [c] (tT X.K C W rc) := pts_one h
end
end Ev
namespace Ev
open PySem PySem.Spec L2 PyProof.Rows

/-! ### enumerate -/
/-- the signs of a text, each in a new pair with its place -/
def ItEs (x : Str) : It := ⟨fun i _ => i < x.cps.size, fun i H v H' => ∃ T c, x.cps[i]? = some c ∧ v = .ref T ∧ H T = none ∧ H' = upd H T (.tup [.int (i : Nat), .str ⟨#[c]⟩]), fun i _ => x.cps.size ≤ i⟩
theorem draws_str {P : Program} {w : World} {A : Around} (hh : A.handled = none) (it : Addr) (x : Str) (t : Tok) :
    Draws P w A it [it] x.cps.size (fun i v => ∃ c u, x.cps[i]? = some c ∧ v = .str ⟨#[c]⟩ u) (fun i h => h.IsStrIter it (strIterType x) x t i) := by
  unfold strIterType
  split
  · exact Draws.strAscii hh it x t
  · exact Draws.strWide hh it x t
theorem turn_enumS {P : Program} {w : World} {K : PySem.W.Frag} {elts : List Expr} {kk : Nat} {tpos : Pos} (x : Str) (t : Tok) (e it : Addr) :
    Turn P w K (.Tuple elts kk tpos) (ItEs x) [e, it] e (fun i h => (∃ old, IsEnum h e it ((i : Nat) : Int) old) ∧ h.IsStrIter it (strIterType x) x t i ∧ e ≠ it ∧ i ≤ x.cps.size) where
  mem := by simp
  obj := fun i h st b hb => by
    obtain ⟨⟨old, he⟩, ⟨o, ho, hc, hd⟩, _⟩ := st
    have e' : b = e ∨ b = it := by simpa using hb
    rcases e' with z | z
    · rw [z]; exact ⟨_, he, fun v q => nomatch q⟩
    · rw [z]; exact ⟨o, ho, fun v q => by rw [hd] at q; cases q⟩
  keep := fun i h h' st k => let ⟨⟨old, he⟩, ⟨o, ho, r⟩, hne, hle⟩ := st; ⟨⟨old, k e (by simp) _ he⟩, ⟨o, k it (by simp) o ho, r⟩, hne, hle⟩
  item := by
    intro X hP hw hK hc i pins s σ H E I hf st hg
    subst hP hw hK
    obtain ⟨⟨old, he⟩, hit, hne, hle⟩ := st
    have hel : e < s.heap.objs.size := Heap.lt_size he
    have hil : it < s.heap.objs.size := by obtain ⟨_, q, _⟩ := hit; exact Heap.lt_size q
    refine wpAny_pyNext_enum_itemD (draws_str (A := X.A.in1) (show X.A.in1.handled = none from I.ok.hd hc) it x t) he hit hg hne (by simp only [List.mem_singleton]; exact hne) fun v h' tk hv ho hit' hT hsz hk => ?_
    obtain ⟨c, u, hcx, rfl⟩ := hv
    refine ⟨_, rfl, wpAny_letOwnedTupleGo_enum (s := { s with heap := h', toks := tk + 1 }) ho fun h'' he' sb => ?_⟩
    have hT2 : h''.get? s.heap.objs.size = some { cls := .type "tuple", data := .seq #[.int i tk, .str ⟨#[c]⟩ u] } := (sb.2 _ (Nat.ne_of_gt hel)).trans hT
    have new : ObjOk X.prog X.w (upd H s.heap.objs.size (.tup [.int (i : Nat), .str ⟨#[c]⟩])) h'' s.heap.objs.size (.tup [.int (i : Nat), .str ⟨#[c]⟩]) :=
      ⟨by show 2 ≤ sizeLine; decide, [.int i tk, .str ⟨#[c]⟩ u], .cons ⟨_, rfl⟩ (.cons ⟨_, rfl⟩ .nil), ⟨_, hT2, rfl, _, rfl⟩⟩
    have I1 : Inv X pins σ (upd H s.heap.objs.size (.tup [.int (i : Nat), .str ⟨#[c]⟩])) { s with heap := h'', toks := tk + 1 } :=
      I.turnedNew (ch := [e, it]) (fun b ob hb q => (sb.2 b (fun z => hb (by simp [z]))).trans (hk b ob (fun z => hb (by simp [z])) (fun z => hb (by simp [z])) q)) hf (Nat.le_refl _) new
    refine ⟨.ref s.heap.objs.size, _, I1, rfl, ⟨_, c, hcx, rfl, I.hok.fresh (Nat.le_refl _), rfl⟩, ⟨⟨.str ⟨#[c]⟩ u, ?_⟩, ?_, hne, hg⟩, fun b hb => ?_⟩
    · have e1 : ((i + 1 : Nat) : Int) = (i : Int) + 1 := by omega
      rw [e1]; exact he'
    · obtain ⟨o, ho2, r⟩ := hit'
      exact ⟨o, (sb.2 it (Ne.symm hne)).trans ho2, r⟩
    · have hb' : b < s.heap.objs.size := by
        have e' : b = e ∨ b = it := by simpa using hb
        rcases e' with z | z
        · rw [z]; exact hel
        · rw [z]; exact hil
      rw [upd_ne (Nat.ne_of_lt hb')]
      exact (hf b hb).1
  done := by
    intro X hP hw hK hc i pins s σ H E I hf st hg
    subst hP hw hK
    obtain ⟨⟨old, he⟩, hit, hne, hle⟩ := st
    obtain ⟨f0, f1, f2, f3, f4, f5⟩ := hf it (by simp)
    have hi : i = x.cps.size := Nat.le_antisymm hle hg
    subst hi
    exact wpAny_pyNext_enum_endD (draws_str (A := X.A.in1) (show X.A.in1.handled = none from I.ok.hd hc) it x t) he hit fun h' eb => ⟨rfl, I.turned (t' := s.toks) (fun b o hb q => eb b o hb q) f0 f1 f3 f4 f5⟩
  self := fun A i s Q E st h => let ⟨⟨_, he⟩, _⟩ := st; wpAny_pyIter_enum he h
theorem wk_enumS {K : PySem.W.Frag} {C : Nat → Addr} {io : Io} {F : Hp} (x : Str) : Wk K C io F ((signsD x).mapIdx fun i d => .tup [.int (i : Nat), d]) (ItEs x) := fun io' H' S' hp hs dn => by
  have hl : ((signsD x).mapIdx fun i d => D.tup [.int (i : Nat), d]).length = x.cps.size := by simp [signsD]
  refine ⟨fun i hi => by rw [hl] at hi; exact hi, by show x.cps.size ≤ _; rw [hl]; exact Nat.le_refl _, fun i v H'' hi y => ?_⟩
  obtain ⟨T, c, hc, rfl, hT, rfl⟩ := y
  obtain ⟨x1, d1, r1⟩ := new_tup (xs := [.int (i : Nat), .str ⟨#[c]⟩]) dn (.cons (.int _) (.cons (.str _) .nil)) hT
  exact ⟨.tup [.int (i : Nat), .str ⟨#[c]⟩], by simp [signsD, hc], x1, d1, r1⟩
theorem wk_enumL {K : PySem.W.Frag} {C : Nat → Addr} {io : Io} {F : Hp} {a : Addr} {vs : List V} {ds : List D} (h : SqL K F a vs) (r : Reps K C io F ds vs) : Wk K C io F (ds.mapIdx fun i d => .tup [.int (i : Nat), d]) (Ite K a) := fun io' H' S' hp hs dn => by
  have h' : SqL K H' a vs := (Fz_same _ _).seq (hs.seq h)
  have hl : (ds.mapIdx fun i d => D.tup [.int (i : Nat), d]).length = ds.length := by simp
  refine ⟨fun i hi => ?_, ⟨vs, h', by rw [hl, r.length]; exact Nat.le_refl _⟩, fun i x H'' hi y => ?_⟩
  · have hv : i < vs.length := by rw [← r.length, ← hl]; exact hi
    exact ⟨vs, vs[i], h', by simp [hv]⟩
  · obtain ⟨T, x, rfl, hT, rfl, hx⟩ := y
    obtain ⟨d, e1, e2⟩ := r.getV (hx vs h')
    obtain ⟨x1, d1, r1⟩ := new_tup (xs := [.int (i : Nat), d]) dn (.cons (.int _) (.cons (e2.mono hp hs) .nil)) hT
    exact ⟨.tup [.int (i : Nat), d], by simp [e1], x1, d1, r1⟩
def enumD : List D → Option (List D)
  | [.str x] => some ((signsD x).mapIdx fun i d => .tup [.int (i : Nat), d])
  | [.lst xs] => some (xs.mapIdx fun i d => .tup [.int (i : Nat), d])
  | _ => none
section
variable {X : Cx} {C : Nat → Addr} {W : WX} {e : Expr} {rs : RA} {pos p tpos : Pos} {elts : List Expr} {kk : Nat}
theorem ei_enum (hg : Gl X "enumerate") (hm : X.mg "enumerate" = none) (ha : PA X [e] (tA X.K C W rs)) (hs : starEach [e] X.env = [(false, eval e X.env)] := by rfl) : PI X (.Tuple elts kk tpos) (.Call (.Name "enumerate" p) [e] [] pos) (tI X.K C W (rRan enumD rs)) := by
  have hi : PI X (.Tuple elts kk tpos) (.Call (.Name "enumerate" p) [e] [] pos) (fun sg H R => tA X.K C W rs sg H fun vs H1 => (∃ a xs, vs = [.ref a] ∧ SqL X.K H1 a xs ∧ R (Ite X.K a) H1) ∨ (∃ x, vs = [.str x] ∧ R (ItEs x) H1)) := by
    refine ⟨fun pins s σ H R I h => ?_⟩
    refine Call_ (ld_blt I hg hm boot_enumerate (PyProof.Rows.callWith_type1 (thn (ha.run pos pins s σ H _ I h) fun us s1 ⟨vs, H1, I1, r1, q1⟩ => ?_) hs rfl))
    have fp : ∀ b ∈ [s1.heap.objs.size + 1, s1.heap.objs.size], s1.heap.objs.size ≤ b := fun b hb => by
      have e' : b = s1.heap.objs.size + 1 ∨ b = s1.heap.objs.size := by simpa using hb
      omega
    rcases q1 with ⟨a, xs, rfl, hq, q⟩ | ⟨x, rfl, q⟩
    · obtain ⟨u, rfl, r⟩ := r1.one
      cases r
      obtain ⟨its, rv, p', hz⟩ := I1.list hq
      refine call_enumerate_list p'.isList fun h' he hit hsz hk => wpAny_pyIter_enum he ?_
      have I2 : L2.Inv X pins σ H1 { s1 with heap := h' } := I1.kept (t' := s1.toks) hk
      exact ⟨s1.heap.objs.size + 1, [s1.heap.objs.size + 1, s1.heap.objs.size], _, _, H1, rfl, I2, turn_enum a (s1.heap.objs.size + 1) s1.heap.objs.size, ⟨⟨.none, he⟩, hit, Nat.succ_ne_self _⟩, fun b hb => I1.fpOk (fp b hb) (I1.hok.fresh (fp b hb)), q⟩
    · obtain ⟨u, rfl, r⟩ := r1.one
      obtain ⟨t, rfl⟩ := r
      refine call_enumerate_str fun h' he hit hsz hk => wpAny_pyIter_enum he ?_
      have I2 : L2.Inv X pins σ H1 { s1 with heap := h' } := I1.kept (t' := s1.toks) hk
      exact ⟨s1.heap.objs.size + 1, [s1.heap.objs.size + 1, s1.heap.objs.size], _, _, H1, rfl, I2, turn_enumS x t (s1.heap.objs.size + 1) s1.heap.objs.size, ⟨⟨.none, he⟩, hit, Nat.succ_ne_self _, Nat.zero_le _⟩, fun b hb => I1.fpOk (fp b hb) (I1.hok.fresh (fp b hb)), q⟩
  refine hi.imp fun sg H R h => (tR.seq1 (R := RepsR X.K C) (fun _ ds S => ofO (enumD ds) S) h fun _ _ => rfl).mono fun vs H1 ⟨e, S, io, ds, dn, s, r, p1⟩ => ?_
  obtain ⟨zs, ed, p1⟩ := p1.ofO
  unfold enumD at ed
  split at ed
  · cases ed
    obtain ⟨v, rfl, h⟩ := reps1 r
    cases h
    exact .inr ⟨_, rfl, p1 _ H1 io (Ext.refl _ _) dn (wk_enumS _)⟩
  · cases ed
    obtain ⟨v, rfl, h⟩ := reps1 r
    cases h with
    | lst q rs => exact .inl ⟨_, _, rfl, (Fz_same _ _).seq q, p1 _ H1 io (Ext.refl _ _) dn (wk_enumL q rs)⟩
  · cases ed
end
end Ev
namespace Ev
open PySem PySem.Spec L2

/-! ### in, not in -/
def strIn (i j : Str) : Bool := !(Builtin.Str.occurrences j i 0 j.length 1).isEmpty
def inAny (ps : List PyData) (p : PyData) : Bool := ps.any fun y => PyData.eqv y p
def seqP : PyData → Option (List PyData)
  | .list ps => some ps
  | .tuple ps => some ps
  | _ => none
def inB (S : Store) : D → D → Option Bool
  | .str i, .str j => some (strIn i j)
  | a, b => (pyD S deepN a).bind fun x => (pyD S deepN b).bind fun y => (seqP y).bind fun ps => some (inAny ps x)
def inD (S : Store) (a b : D) : Option D := (inB S a b).bind fun k => some (.bl k)
def ninD (S : Store) (a b : D) : Option D := (inB S a b).bind fun k => some (.bl (!k))
theorem inB_cases {S : Store} {a b : D} {k : Bool} (h : inB S a b = some k) : (∃ i j, a = .str i ∧ b = .str j ∧ k = strIn i j) ∨ ∃ x y ps, pyD S deepN a = some x ∧ pyD S deepN b = some y ∧ seqP y = some ps ∧ k = inAny ps x := by
  unfold inB at h
  split at h
  · cases h; exact .inl ⟨_, _, rfl, rfl, rfl⟩
  · obtain ⟨x, h1, h⟩ := bind_some' h
    obtain ⟨y, h2, h⟩ := bind_some' h
    obtain ⟨ps, h3, h⟩ := bind_some' h
    cases h
    exact .inr ⟨x, y, ps, h1, h2, h3, rfl⟩
section
variable {X : Cx} {C : Nat → Addr}
theorem inD_ok (hu : X.A.units + 64 < cLine) : OpD X C (compareOp .In) inD := by
  intro pins s sg H x y v u Q I rx ry ⟨io, S, a, b, d, dn, ra, rb, e, q⟩
  obtain ⟨k, e1, e2⟩ := bind_some' e
  cases e2
  rcases inB_cases e1 with ⟨i, j, rfl, rfl, rfl⟩ | ⟨p, p', ps, h1, h2, h3, rfl⟩
  · cases ra; cases rb
    exact op_in_str pins s sg H _ _ v u Q I rx ry ⟨i, j, rfl, rfl, q _ H io (Ext.refl _ _) dn (.bl _)⟩
  · obtain ⟨⟨as, r1⟩, b1, l1⟩ := reads_of I dn h1 ra rx
    obtain ⟨⟨bs, r2⟩, b2, l2⟩ := reads_of I dn h2 rb ry
    have fin : EP X pins sg Q (.bool (ps.any fun y => PyData.eqv y p)) s := ⟨.bl _, H, I, rfl, q _ H io (Ext.refl _ _) dn (.bl _)⟩
    have hl : p.depth ≤ 60 := l1
    cases p' <;> cases h3
    · exact SeqAt.in_list_data r2 r1 (by simpa [PyData.plain] using b2) b1 (by omega) fin
    · exact SeqAt.in_tuple_data r2 r1 (by simpa [PyData.plain] using b2) b1 (by omega) fin
theorem ninD_ok (hu : X.A.units + 64 < cLine) : OpD X C (compareOp .NotIn) ninD := by
  intro pins s sg H x y v u Q I rx ry ⟨io, S, a, b, d, dn, ra, rb, e, q⟩
  obtain ⟨k, e1, e2⟩ := bind_some' e
  cases e2
  rcases inB_cases e1 with ⟨i, j, rfl, rfl, rfl⟩ | ⟨p, p', ps, h1, h2, h3, rfl⟩
  · cases ra; cases rb
    exact op_notin_str pins s sg H _ _ v u Q I rx ry ⟨i, j, rfl, rfl, q _ H io (Ext.refl _ _) dn (.bl _)⟩
  · obtain ⟨⟨as, r1⟩, b1, l1⟩ := reads_of I dn h1 ra rx
    obtain ⟨⟨bs, r2⟩, b2, l2⟩ := reads_of I dn h2 rb ry
    have fin : EP X pins sg Q (.bool (!ps.any fun y => PyData.eqv y p)) s := ⟨.bl _, H, I, rfl, q _ H io (Ext.refl _ _) dn (.bl _)⟩
    have hl : p.depth ≤ 60 := l1
    cases p' <;> cases h3
    · exact SeqAt.notIn_list_data r2 r1 (by simpa [PyData.plain] using b2) b1 (by omega) fin
    · exact SeqAt.notIn_tuple_data r2 r1 (by simpa [PyData.plain] using b2) b1 (by omega) fin

/-! ### list(x), tuple(x), repr(x) -/
def seqD (S : Store) : D → Option (List D)
  | .tup xs => some xs
  | d => asL S d
theorem seq_rep {K : PySem.W.Frag} {io : Io} {S : Store} {H : Hp} {d : D} {v : V} {xs : List D} (h : seqD S d = some xs) (dn : Den K C io S H) (r : Rep K C io (Fz io H) d v) :
    ∃ a vs, v = .ref a ∧ (SqL K H a vs ∨ SqT K H a vs) ∧ Reps K C io (Fz io H) xs vs := by
  unfold seqD at h
  split at h
  · cases h
    cases r with
    | tup q rs => exact ⟨_, _, rfl, .inr (sqT_same (Fz_same _ _) q), rs⟩
  · obtain ⟨a, vs, e, q, rs⟩ := asL_rep h dn r
    exact ⟨a, vs, e, .inl q, rs⟩
def listD (S : Store) : List D → Option D
  | [d] => (seqD S d).bind fun xs => some (.lst xs)
  | _ => none
theorem listD_ok : CallD X C (.type "list") listD := fun pins s sg H xs us Q I rx ⟨io, S, as, d, dn, ra, e, q⟩ => by
  unfold listD at e
  split at e
  · obtain ⟨v, rfl, h⟩ := reps1 ra
    obtain ⟨ys, h1, h2⟩ := bind_some' e
    cases h2
    obtain ⟨a, vs, rfl, hq, rs⟩ := seq_rep h1 dn h
    exact call_list_of pins s sg H _ us Q I rx ⟨a, vs, rfl, hq, fun l hl => let ⟨x, d', r'⟩ := new_lst dn rs hl; q _ _ _ x d' r'⟩
  · cases e
def tupleD (S : Store) : List D → Option D
  | [d] => (seqD S d).bind fun xs => some (.tup xs)
  | _ => none
theorem tupleD_ok : CallD X C (.type "tuple") tupleD := fun pins s sg H xs us Q I rx ⟨io, S, as, d, dn, ra, e, q⟩ => by
  unfold tupleD at e
  split at e
  · obtain ⟨v, rfl, h⟩ := reps1 ra
    obtain ⟨ys, h1, h2⟩ := bind_some' e
    cases h2
    unfold seqD at h1
    split at h1
    · cases h1
      cases h with
      | tup hq rs => exact call_tuple_of pins s sg H _ us Q I rx ⟨_, _, rfl, .inr ⟨sqT_same (Fz_same _ _) hq, q _ H io (Ext.refl _ _) dn (.tup hq rs)⟩⟩
    · obtain ⟨a, vs, rfl, hq, rs⟩ := asL_rep h1 dn h
      exact call_tuple_of pins s sg H _ us Q I rx ⟨a, vs, rfl, .inl ⟨hq, fun l hl => let ⟨x, d', r'⟩ := new_tup dn rs hl; q _ _ _ x d' r'⟩⟩
  · cases e
def showOk (p : PyData) : Bool := p.showable && !p.hasDict && decide (p.shown.length ≤ sizeLine)
def reprD (S : Store) : List D → Option D
  | [d] => (pyD S deepN d).bind fun p => if showOk p = true then some (.str p.shown) else none
  | _ => none
theorem reprD_ok (hu : X.A.units + 64 < cLine) (hg : X.A.guards = some []) : CallD X C (.builtin "repr") reprD := fun pins s sg H xs us Q I rx ⟨io, S, as, d, dn, ra, e, q⟩ => by
  unfold reprD at e
  split at e
  · rename_i d0
    obtain ⟨v, rfl, h⟩ := reps1 ra
    obtain ⟨p, h1, h2⟩ := bind_some' e
    split at h2
    · rename_i ok
      cases h2
      obtain ⟨u, rfl, ru⟩ := rx.one
      obtain ⟨⟨as, r1⟩, b1, l1⟩ := reads_of I dn h1 h ru
      simp only [showOk, Bool.and_eq_true, decide_eq_true_eq, Bool.not_eq_true'] at ok
      obtain ⟨⟨o1, o2⟩, o3⟩ := ok
      have fin : ∀ k t, EP X pins sg Q (.str p.shown t) { s with toks := k } := fun k t => ⟨.str _, H, I.tok k, ⟨t, rfl⟩, q _ H io (Ext.refl _ _) dn (.str _)⟩
      have hl : p.depth ≤ 60 := l1
      cases r1 with
      | none => exact P.repr_of_none (fin _ _)
      | bool => exact P.repr_of_bool (fin _ _)
      | int => exact P.repr_of_int (by simpa [PyData.showable] using o1) (fin _ _)
      | str => exact P.repr_of_str (fin _ _) o3
      | list g1 g2 g3 g4 => exact repr_of_reads' (.list g1 g2 g3 g4) o1 (PyData.noDict_hsm o2) hg (by omega) (fun _ _ e => e) (fun h' u tk hk => ⟨.str _, H, I.kept (t' := tk) hk, ⟨u, rfl⟩, q _ H io (Ext.refl _ _) dn (.str _)⟩) o3
      | tuple g1 g2 g3 g4 => exact repr_of_reads' (.tuple g1 g2 g3 g4) o1 (PyData.noDict_hsm o2) hg (by omega) (fun _ _ e => e) (fun h' u tk hk => ⟨.str _, H, I.kept (t' := tk) hk, ⟨u, rfl⟩, q _ H io (Ext.refl _ _) dn (.str _)⟩) o3
      | dict => simp [PyData.hasDict] at o2
    · cases h2
  · cases e

/-! ### methods of built-in things -/
def tyM (S : Store) : D → Option String
  | .str _ => some "str"
  | .lst _ => some "list"
  | .dct _ _ => some "dict"
  | .loc n => match S[n]? with
    | some (.lst _) => some "list"
    | some (.dK _ _) => some "dict"
    | _ => none
  | _ => none
theorem ty_rep {K : PySem.W.Frag} {io : Io} {S : Store} {H : Hp} {d : D} {v : V} {T : String} (h : tyM S d = some T) (dn : Den K C io S H) (r : Rep K C io (Fz io H) d v) : tyV K T v H := by
  cases r with
  | str => cases h; rfl
  | lst q rs => cases h; exact .inl ⟨rfl, _, (Fz_same _ _).seq q⟩
  | dct q e1 e2 rs => cases h; exact .inr (.inr (.inl ⟨rfl, .inl ⟨_, Fz_same _ _ _ _ q⟩⟩))
  | @loc n a q =>
    simp only [tyM] at h
    split at h
    · rename_i ys e
      cases h
      obtain ⟨vs, h1, h2⟩ := dn.obj n _ a e q
      exact .inl ⟨rfl, vs, .of h1⟩
    · rename_i ks ys e
      cases h
      obtain ⟨kvs, h1, h2, h3⟩ := dn.obj n _ a e q
      exact .inr (.inr (.inl ⟨rfl, .inl ⟨_, h1⟩⟩))
    · cases h
  | _ => cases h
/-- a method: the value, the store behind it -/
abbrev MF := Store → D → List D → Option (D × Store)
def MthD (X : Cx) (C : Nat → Addr) (id : String) (f : MF) : Prop :=
  MtR X id (fun x xs H Q => ∃ io S a as d S', Den X.K C io S H ∧ Rep X.K C io (Fz io H) a x ∧ Reps X.K C io (Fz io H) as xs ∧ f S a as = some (d, S') ∧ ∀ v H' io', Ext io H io' H' → Den X.K C io' S' H' → Rep X.K C io' (Fz io' H') d v → Q v H')
def ofP {A : Type} : Option (A × Store) → Res A
  | some (a, S) => .ok a S
  | none => .bad
def rMth (T : String) (f : MF) (o : RE) (as : RA) : RE := fun e S => (o e S).bind fun x S1 => if tyM S1 x = some T then (as e S1).bind fun xs S2 => ofP (f S2 x xs) else .bad
theorem Post.ofP {K : PySem.W.Frag} {A B : Type} {R : Io → Hp → A → B → Prop} {W : WX} {sg : L2.St} {io : Io} {H : Hp} {Q : B → Hp → Prop} {o : Option (A × Store)} (h : Post K C R W sg io H (ofP o) Q) : ∃ a S, o = some (a, S) ∧ ∀ b H' io', Ext io H io' H' → Den K C io' S H' → R io' (Fz io' H') a b → Q b H' := by
  cases o with
  | some p => exact ⟨p.1, p.2, rfl, h⟩
  | none => exact h.elim
variable {W : WX} {o e : Expr} {es : List Expr} {ro : RE} {rs : RA} {name : Str} {apos cpos : Pos} {T id : String} {f : MF}
theorem ee_mth (pa : PlainAttrs T) (slot : Slot T name id) (hty : typeOf (.builtin id) = pure (.type "method_descriptor")) (hm : MthD X C id f) (ho : PE X o (tE X.K C W ro)) (ha : PA X (e :: es) (tA X.K C W rs))
    (hbase : attributeBase o name X.env (eval o X.env) = eval o X.env := by rfl)
    (hfew : ((backTo cpos (starEach (e :: es) X.env)).all (fun x => !x.1) && (backToKw cpos (keywordEach [] X.env)).all (fun x => x.1.isSome)
      && decide ((e :: es).length + ([] : List Keyword).length + (if ([] : List Keyword).isEmpty then 0 else 1) < 30)) = true := by rfl)
    (hline : (apos.endLine == cpos.line) = true := by rfl) (hs : starEach (e :: es) X.env = (false, eval e X.env) :: starEach es X.env := by rfl) (hplain : (backTo cpos (starEach es X.env)).any (·.1) = false := by rfl) :
    PE X (.Call (.Attribute o name apos) (e :: es) [] cpos) (tE X.K C W (rMth T f ro rs)) :=
  (pe_bm pa slot hty hm ho ha hbase hfew hline hs hplain).imp fun sg H Q h => (tR.seq1 (R := RepR X.K C) (fun e x S1 => if tyM S1 x = some T then (rs e S1).bind fun xs S2 => ofP (f S2 x xs) else .bad) h fun _ _ => rfl).mono fun v H1 ⟨e, S, io, x1, d, s, r1, p⟩ => by
    split at p
    · rename_i ty
      refine ⟨ty_rep ty d r1, e, S, io, d, s, p.bind.mono fun vs H2 ⟨io2, S2, as, x2, d2, r2, p2⟩ => ?_⟩
      obtain ⟨z, S3, ez, p2⟩ := p2.ofP
      exact ⟨io2, S2, x1, as, z, S3, d2, r1.ext x2, r2, ez, p2⟩
    · exact p.elim
theorem ee_mth0 (pa : PlainAttrs T) (slot : Slot T name id) (hty : typeOf (.builtin id) = pure (.type "method_descriptor")) (hm : MthD X C id f) (ho : PE X o (tE X.K C W ro))
    (hbase : attributeBase o name X.env (eval o X.env) = eval o X.env := by rfl) (hline : (apos.endLine == cpos.line) = true := by rfl) : PE X (.Call (.Attribute o name apos) [] [] cpos) (tE X.K C W (rMth T f ro rNil)) :=
  (pe_bm0 pa slot hty hm ho hbase hline).imp fun sg H Q h => (tR.seq1 (R := RepR X.K C) (fun e x S1 => if tyM S1 x = some T then (rNil e S1).bind fun xs S2 => ofP (f S2 x xs) else .bad) h fun _ _ => rfl).mono fun v H1 ⟨e, S, io, x1, d, s, r1, p⟩ => by
    split at p
    · rename_i ty
      obtain ⟨z, S3, ez, p2⟩ := Post.ofP p
      exact ⟨ty_rep ty d r1, io, S, x1, [], z, S3, d, r1, .nil, ez, p2⟩
    · exact p.elim
/-- a method that lays nothing -/
theorem mthD_flat {r : V → List V → Hp → VK → Prop} (h : MtR X id r)
    (hf : ∀ io S H a as d S' x xs, Den X.K C io S H → Rep X.K C io (Fz io H) a x → Reps X.K C io (Fz io H) as xs → f S a as = some (d, S') → S' = S ∧ ∃ z, (∀ F, Rep X.K C io F d z) ∧ ∀ Q : VK, Q z H → r x xs H Q) : MthD X C id f := by
  intro pins s sg H x xs v us Q I rx rxs ⟨io, S, a, as, d, S', dn, ra, ras, e, q⟩
  obtain ⟨rfl, z, rz, hq⟩ := hf io S H a as d S' x xs dn ra ras e
  exact h pins s sg H x xs v us Q I rx rxs (hq Q (q z H io (Ext.refl _ _) dn (rz _)))
def strsD : List D → Option (List Str)
  | [] => some []
  | .str x :: r => (strsD r).bind fun ys => some (x :: ys)
  | _ :: _ => none
theorem strs_rep {K : PySem.W.Frag} {io : Io} {F : Hp} : ∀ {ds : List D} {vs : List V} {ys : List Str}, strsD ds = some ys → Reps K C io F ds vs → vs = ys.map V.str
  | _, _, _, h, .nil => by cases h; rfl
  | _, _, _, h, .cons r rs => by
    cases r <;> simp only [strsD] at h <;> try cases h
    obtain ⟨zs, h1, h2⟩ := bind_some' h
    cases h2
    rw [strs_rep h1 rs]
    rfl
def joinOk (a : Str) (ys : List Str) : Bool := decide ((ys.map (·.length)).sum + ys.length * a.length ≤ 16777216)
def joinD : MF
  | S, .str a, [d] => (seqD S d).bind fun ds => (strsD ds).bind fun ys => if joinOk a ys = true then some (.str (Txt.join a ys), S) else none
  | _, _, _ => none
theorem joinD_ok : MthD X C "str.join" joinD := mthD_flat mt_join fun io S H a as d S' x xs dn ra ras e => by
  unfold joinD at e
  split at e
  · obtain ⟨v, rfl, h⟩ := reps1 ras
    cases ra
    obtain ⟨ds, h1, e⟩ := bind_some' e
    obtain ⟨ys, h2, e⟩ := bind_some' e
    split at e
    · rename_i ok
      cases e
      obtain ⟨p, vs, rfl, hq, rs⟩ := seq_rep h1 dn h
      rw [strs_rep h2 rs] at hq
      exact ⟨rfl, _, fun _ => .str _, fun Q q => ⟨_, p, ys, rfl, rfl, hq, by simpa [joinOk] using ok, q⟩⟩
    · cases e
  · cases e
def indexS : MF
  | S, .str a, [.str b] => match Builtin.Str.occurrences a b 0 a.length 1 with
    | i :: _ => some (.int (i : Nat), S)
    | [] => none
  | _, _, _ => none
theorem indexS_ok : MthD X C "str.index" indexS := mthD_flat mt_sindex fun io S H a as d S' x xs dn ra ras e => by
  unfold indexS at e
  split at e
  · obtain ⟨v, rfl, h⟩ := reps1 ras
    cases ra; cases h
    split at e
    · rename_i hq
      cases e
      exact ⟨rfl, _, fun _ => .int _, fun Q q => ⟨_, _, _, _, rfl, rfl, hq, q⟩⟩
    · cases e
  · cases e
/-- xs.count(x) of data -/
def countL : MF
  | S, d, [x] => (asL S d).bind fun ds => (pyAll (pyD S deepN) ds).bind fun ps => (pyD S deepN x).bind fun p => some (.int ((ps.countP fun y => PyData.eqv y p : Nat) : Int), S)
  | _, _, _ => none
theorem countL_ok (hu : X.A.units + 64 < cLine) : MthD X C "list.count" countL := by
  intro pins s sg H x xs v us Q I rx rxs ⟨io, S, a, as, d, S', dn, ra, ras, e, q⟩
  unfold countL at e
  split at e
  · obtain ⟨w, rfl, h⟩ := reps1 ras
    obtain ⟨ds, h1, e⟩ := bind_some' e
    obtain ⟨ps, h2, e⟩ := bind_some' e
    obtain ⟨p, h3, e⟩ := bind_some' e
    cases e
    obtain ⟨u, rfl, ru⟩ := rxs.one
    obtain ⟨⟨bs, r2⟩, b2, l2⟩ := reads_of I dn h3 h ru
    have l2' : p.depth ≤ 60 := l2
    -- the list as data
    have h4 : pyD S (deepN + 1) a = some (.list ps) := by
      cases a with
      | lst zs => cases h1; simp only [pyD, h2, Option.bind]
      | loc n =>
        simp only [asL] at h1
        split at h1
        · rename_i e1
          cases h1
          simp only [pyD, e1, h2, Option.bind]
        · cases h1
      | _ => cases h1
    obtain ⟨⟨as, r1⟩, b1, l1⟩ := reads_of I dn h4 ra rx
    have pa : PyData.plainAll ps = true := by simpa [PyData.plain] using b1
    cases r1 with
    | @list l o vs n xs as' g1 g2 g3 g4 =>
      obtain ⟨cls, dd, data, sl⟩ := o
      simp only at g2 g3
      subst g2; subst g3
      refine call_meets PySem.F.slot_list_count ⟨_, g1, rfl⟩ PySem.F.entry_list_count (PySem.F.args_list_count_2 _ _)
        (SeqAt.list_countAt l vs n dd sl u (fun y => PyData.eqv (SeqAt.readOf s.heap y) p)) ⟨g1, fun y hy => ?_, ?_⟩
      · exact SeqAt.items_plain (A := X.A) g4 r2 pa b2 (by omega) y hy
      · have ec : vs.toList.countP (fun y => PyData.eqv (SeqAt.readOf s.heap y) p) = ps.countP (fun y => PyData.eqv y p) := by
          rw [← SeqAt.readsAll_map_plain ps _ _ pa g4, List.countP_map]
          rfl
        rw [ec]
        exact ⟨.int _, H, I.tok _, ⟨_, rfl⟩, q _ H io (Ext.refl _ _) dn (.int _)⟩
  · cases e
/-- xs.append(x) -/
def appendL : MF
  | S, .loc n, [x] => match S[n]? with
    | some (.lst xs) => if xs.length < sizeLine then some (.non, S.set n (.lst (xs ++ [x]))) else none
    | _ => none
  | _, _, _ => none
theorem put_lst {K : PySem.W.Frag} {io : Io} {S : Store} {H : Hp} {n : Nat} {p : Addr} {xs : List D} {vs : List V} (dn : Den K C io S H) (h : io.l[n]? = some p) (r : Reps K C io (Fz io H) xs vs) :
    Ext io H io (upd H p (.lst vs)) ∧ Den K C io (S.set n (.lst xs)) (upd H p (.lst vs)) :=
  ⟨Ext.put (mem_all h), dn.put h ⟨vs, upd_same, r.ext (Ext.put (mem_all h))⟩⟩
theorem appendL_ok : MthD X C "list.append" appendL := by
  intro pins s sg H x xs v us Q I rx rxs ⟨io, S, a, as, d, S', dn, ra, ras, e, q⟩
  unfold appendL at e
  split at e
  · rename_i n y
    obtain ⟨w, rfl, h⟩ := reps1 ras
    cases ra with
    | @loc _ p hn =>
    split at e
    · rename_i ys e1
      split at e
      · rename_i hz
        cases e
        obtain ⟨vs, g1, g2⟩ := dn.obj n _ p e1 hn
        obtain ⟨x1, d1⟩ := put_lst dn hn (g2.append (.cons h .nil))
        exact mt_append pins s sg H _ _ v us Q I rx rxs ⟨p, vs, w, rfl, rfl, g1, by rw [← g2.length]; exact hz, q _ _ io x1 d1 .non⟩
      · cases e
    · cases e
  · cases e
/-- xs.pop() -/
def popL : MF
  | S, .loc n, [] => match S[n]? with
    | some (.lst xs) => (xs[xs.length - 1]?).bind fun y => some (y, S.set n (.lst xs.dropLast))
    | _ => none
  | _, _, _ => none
theorem Reps.dropLast {K : PySem.W.Frag} {io : Io} {F : Hp} {ds : List D} {vs : List V} (r : Reps K C io F ds vs) : Reps K C io F ds.dropLast vs.dropLast := by
  rw [List.dropLast_eq_take, List.dropLast_eq_take, r.length]
  exact r.take _
theorem popL_ok : MthD X C "list.pop" popL := by
  intro pins s sg H x xs v us Q I rx rxs ⟨io, S, a, as, d, S', dn, ra, ras, e, q⟩
  unfold popL at e
  split at e
  · rename_i n
    cases ras
    cases ra with
    | @loc _ p hn =>
    split at e
    · rename_i ys e1
      obtain ⟨y, h2, e⟩ := bind_some' e
      cases e
      obtain ⟨vs, g1, g2⟩ := dn.obj n _ p e1 hn
      obtain ⟨w, h3, h4⟩ := g2.get h2
      obtain ⟨x1, d1⟩ := put_lst dn hn g2.dropLast
      exact mt_pop pins s sg H _ _ v us Q I rx rxs ⟨p, vs, w, rfl, rfl, g1, by rw [← g2.length]; exact h3, q _ _ io x1 d1 (h4.ext x1)⟩
    · cases e
  · cases e
end
/-! ### list(range(..)) -/
def rgD (f : List D → Option (List D)) : Store → List D → Option D := fun _ as => (f as).bind fun xs => if xs.length ≤ 2 ^ 24 then some (.lst xs) else none
section
variable {X : Cx} {C : Nat → Addr} {W : WX} {a b : Expr} {ra rb : RE} {rs : RA} {p p2 pos pos2 : Pos}
theorem ee_listRg2 (hc : X.calm = true) (hg : Gl X "list") (hm : X.mg "list" = none) (hg2 : Gl X "range") (hm2 : X.mg "range" = none) (ha : PE X a (tE X.K C W ra)) (hb : PE X b (tE X.K C W rb))
    (na : starEach [a, b] X.env = (false, eval a X.env) :: starEach [b] X.env := by rfl) (nb : starEach [b] X.env = (false, eval b X.env) :: starEach [] X.env := by rfl) (hp : (backTo pos2 (starEach [b] X.env)).any (·.1) = false := by rfl)
    (ne : starEach [.Call (.Name "range" p2) [a, b] [] pos2] X.env = (false, eval (.Call (.Name "range" p2) [a, b] [] pos2) X.env) :: starEach [] X.env := by rfl) :
    PE X (.Call (.Name "list" p) [.Call (.Name "range" p2) [a, b] [] pos2] [] pos) (tE X.K C W (rCal (rgD ran2) (rCons ra (rCons rb rNil)))) :=
  (pe_listRg hc hg hm (prg_2 hg2 hm2 ha hb na nb hp) ne).imp fun sg H Q h => (tR.seq2 repM (fun _ x y S => ofO (rgD ran2 S [x, y]) S) h (fun e S => by
      unfold rCal rCons rNil
      cases ra e S with
      | ok x S1 =>
        simp only [Res.bind]
        cases rb e S1 <;> rfl
      | err => rfl
      | bad => rfl)).mono fun x H1 h1 => h1.mono fun y H2 ⟨e, S, io, x1, y1, d, s, r1, r2, p⟩ => by
    obtain ⟨z, ez, p⟩ := p.ofO
    obtain ⟨xs, e1, e2⟩ := bind_some' ez
    split at e2
    · rename_i hz
      cases e2
      unfold ran2 at e1
      split at e1
      · rename_i i j hh
        cases hh
        split at e1
        · rename_i hj
          cases e1
          cases r1; cases r2
          have e3 : (j - i).toNat ≤ 2 ^ 24 := by simpa [rangeD] using hz
          refine ⟨i, j, rfl, rfl, ⟨hj.1, hj.2.1, hj.2.2.1, hj.2.2.2, e3⟩, fun q hq => ?_⟩
          have rr : Reps X.K C io (Fz io H2) (rangeD i (j - i).toNat) (rgV i j) := by
            unfold rangeD rgV
            induction (List.range (j - i).toNat) with
            | nil => exact .nil
            | cons m r ih => exact .cons (.int _) ih
          obtain ⟨x', d', r'⟩ := new_lst d rr hq
          exact p _ _ _ x' d' r'
        · cases e1
      · cases e1
    · cases e2
end
end Ev
namespace Ev
open PySem PySem.Spec L2 PyProof.Rows

/-! ### defs that show data: no guard may stand ahead of them -/
structure RoomG (k : Nat) (A : Around) : Prop where
  room : Room k A
  gd : A.guards = some []
structure FnG (P : Program) (w : World) (K : PySem.W.Frag) (mg : Str → Option Value) (base : Heap) (CX : CXT) (k : Nat) (f : Addr) (fd : FuncData) (ps : List Str) (sp : Sp) : Prop where
  len : ∀ vs H Q E, sp vs H Q E → vs.length = ps.length
  run : ∀ (A : Around) (outer : List PySem.Env) (s : Shared) (H : Hp) (args : Args) (us : List Value) (vs : List V) (Q : VK) (E : XK), RoomG k A → Env0 P w K mg base A outer s H → BindsTo s fd args (ps.zip us) → Vals vs us → sp vs H Q E →
    codeAny (model P w) A (.call (.ref f) args) (CR CX outer P w H s Q E) s
theorem RoomG.mono {j k : Nat} {A : Around} (r : RoomG k A) (h : j ≤ k) : RoomG j A := ⟨r.room.mono h, r.gd⟩
theorem FnG.of {P : Program} {w : World} {K : PySem.W.Frag} {mg : Str → Option Value} {base : Heap} {CX : CXT} {k : Nat} {f : Addr} {fd : FuncData} {ps : List Str} {sp : Sp} (F : FnOk P w K mg base CX k f fd ps sp) : FnG P w K mg base CX k f fd ps sp :=
  ⟨F.len, fun A outer s H args us vs Q E hr => F.run A outer s H args us vs Q E hr.room⟩
section
variable {P : Program} {w : World} {K : PySem.W.Frag} {mg : Str → Option Value} {base : Heap} {C : Nat → Addr}
/-- the frame of a def's run is entered, its body is run -/
theorem fnG_ev {x qual : Str} {st : Stmt} {f : Addr} {fd : FuncData} {N ps : List Str} {k : Nat} {m : RS} (F : Fun K x qual st f fd) (S : FnScope N ps (defScope st))
    (hbody : ∀ (cdv : Value) (A : Around) (outer : List PySem.Env) (s : Shared) (H : Hp) (E : XK), RoomG k (A.deeper (envOfC qual (defScope st) s.heap.objs.size f cdv)) →
      Takes (cxOf (L2.CX P w) P w K mg base N qual (defScope st) f cdv A outer s H E) (fun cls d _ H => E cls d H) →
      PassesOwn (model P w) (cxOf (L2.CX P w) P w K mg base N qual (defScope st) f cdv A outer s H E).A (cxOf (L2.CX P w) P w K mg base N qual (defScope st) f cdv A outer s H E).env (cxOf (L2.CX P w) P w K mg base N qual (defScope st) f cdv A outer s H E).xe →
      PSs (cxOf (L2.CX P w) P w K mg base N qual (defScope st) f cdv A outer s H E) (defBody st) (tS K C (fun cls d _ H => E cls d H) m)) :
    FnG P w K mg base (L2.CX P w) (k + 1) f fd ps (spOf K C ps.length (runDef N.length m)) := by
  obtain ⟨oc, od, kV, doc, pm, an, cdv, ct, osl, rfl, lk, hcd⟩ := F.ex
  refine ⟨fun vs H Q E h => h.1, fun A outer s H args us vs Q E hr e0 hb r hsp => ?_⟩
  have KX : K.In s.heap := e0.mod.kin.keeps fun b o e => (e0.bs b o e).1
  have rdp := hr.room.deeper (envOfC qual (defScope st) s.heap.objs.size f cdv)
  have ht := hbody cdv A outer s H E ⟨rdp, hr.gd⟩ (takes_of rfl rfl rfl rfl) (passes_of rfl)
  have hq : tS K C (fun cls d _ H => E cls d H) m { nx := fun _ H' => Q .non H', rt := Q } (L2.start N vs) H := by
    obtain ⟨hl, ds, S, io, dn, rs, p⟩ := hsp
    refine ⟨_, S, io, dn, slots_start rs, ?_⟩
    unfold runDef Fl.res at p
    split at p
    · rename_i e S1 q
      rw [q]
      exact fun sg H' io' x d s => p _ H' io' x d .non
    · rename_i d S1 q
      rw [q]
      exact p
    · rename_i x e S1 q
      rw [q]
      exact fun cls dd sg H' io' x d s xr => p cls dd H' io' x d xr
    · exact p.elim
  refine codeAny_call_function hr.room.depth (KX _ _ lk) rfl S.co S.gen rfl (PySem.W.codeRec_of KX hcd) (hb _ _ _ _ (wpAny_newFunctionEnv_cells S.kind (fun y hy => ?_) fun env he s1 x => ?_))
  · obtain ⟨n, v⟩ := y
    exact (S.par n (List.of_mem_zip hy).1).imp id fun q => ⟨q, PySem.W.cellsFrom_some _ _ _ (.inl q)⟩
  · subst he
    have lim : s.heap.NoLimit := e0.mod.nolimit.keeps fun b o e => (e0.bs b o e).1
    refine ⟨lim.keeps x.toInCall.keep, codeAny_func (wpAny_mono (ht.run [] s1 (L2.start N vs) H _ (inv_start S hr.room.hd e0 hsp.1 r x) hq) (fun fl s' hs => ?_) fun e s' hs => hs)⟩
    cases fl with
    | ret u => obtain ⟨v, _, H', J, rv, q⟩ := hs; exact ⟨v, H', J.os, J.bare, J.base, J.hok, rv, q⟩
    | next => obtain ⟨_, H', J, q⟩ := hs; exact ⟨.non, H', J.os, J.bare, J.base, J.hok, rfl, q⟩
    | brk => obtain ⟨_, _, _, q⟩ := hs; exact False.elim q
    | cont => obtain ⟨_, _, _, q⟩ := hs; exact False.elim q
end
theorem Fun.toD {K : PySem.W.Frag} {x qual : Str} {st : Stmt} {f : Addr} {fd : FuncData} (F : Fun K x qual st f fd) : FunD K x qual (defArgs st) (defBody st) (defScope st) [] [] f fd := by
  obtain ⟨oc, od, kV, doc, pm, an, cdv, ct, osl, e, lk, hcd⟩ := F.ex
  exact ⟨⟨oc, od, .none, kV, doc, pm, an, cdv, ct, osl, e, lk, hcd, .inl ⟨rfl, rfl⟩, .inl rfl⟩, F.kp⟩
theorem fnD_ev {P : Program} {w : World} {K : PySem.W.Frag} {mg : Str → Option Value} {base : Heap} {C : Nat → Addr} {x qual : Str} {st : Stmt} {f : Addr} {fd : FuncData} {N ps : List Str} {k : Nat} {m : RS} {kws : List (Str × V)} (F : FunD K x qual (defArgs st) (defBody st) (defScope st) [] kws f fd) (S : FnScope N ps (defScope st))
    (hbody : ∀ (cdv : Value) (A : Around) (outer : List PySem.Env) (s : Shared) (H : Hp) (E : XK), Room k (A.deeper (envOfC qual (defScope st) s.heap.objs.size f cdv)) →
      Takes (cxOf (L2.CX P w) P w K mg base N qual (defScope st) f cdv A outer s H E) (fun cls d _ H => E cls d H) →
      PassesOwn (model P w) (cxOf (L2.CX P w) P w K mg base N qual (defScope st) f cdv A outer s H E).A (cxOf (L2.CX P w) P w K mg base N qual (defScope st) f cdv A outer s H E).env (cxOf (L2.CX P w) P w K mg base N qual (defScope st) f cdv A outer s H E).xe →
      PSs (cxOf (L2.CX P w) P w K mg base N qual (defScope st) f cdv A outer s H E) (defBody st) (tS K C (fun cls d _ H => E cls d H) m)) :
    FnOk P w K mg base (L2.CX P w) (k + 1) f fd ps (spOf K C ps.length (runDef N.length m)) := by
  refine F.ok S (fun vs H Q E h => h.1) (fun cdv A outer s H vs Q E hr h => ⟨_, hbody cdv A outer s H E hr (takes_of rfl rfl rfl rfl) (passes_of rfl), ?_⟩)
  obtain ⟨hl, ds, S, io, dn, rs, p⟩ := h
  refine ⟨_, S, io, dn, slots_start rs, ?_⟩
  unfold runDef Fl.res at p
  split at p
  · rename_i e S1 q
    rw [q]
    exact fun sg H' io' x d s => p _ H' io' x d .non
  · rename_i d S1 q
    rw [q]
    exact p
  · rename_i x e S1 q
    rw [q]
    exact fun cls dd sg H' io' x d s xr => p cls dd H' io' x d xr
  · exact p.elim
/-! ### own defs as they may be called from here -/
/-- the def may be called in X -/
structure Cal (X : Cx) (f : Addr) (fd : FuncData) (ps : List Str) (sp : Sp) : Prop where
  len : ∀ vs H Q E, sp vs H Q E → vs.length = ps.length
  run : ∀ (pins : List (Addr × Obj)) (sg : L2.St) (s : Shared) (H : Hp) (args : Args) (us : List Value) (vs : List V) (Q : VK) (E : XK), L2.Inv X pins sg H s → BindsTo s fd args (ps.zip us) → Vals vs us → sp vs H Q E →
    codeAny (model X.prog X.w) X.A (.call (.ref f) args) (CR (L2.CX X.prog X.w) X.stack X.prog X.w H s Q E) s
theorem Cal.ok {X : Cx} {k : Nat} {f : Addr} {fd : FuncData} {ps : List Str} {sp : Sp} (F : FnOk X.prog X.w X.K X.mg X.base (L2.CX X.prog X.w) k f fd ps sp) (hr : Room k X.A) : Cal X f fd ps sp :=
  ⟨F.len, fun pins sg s H args us vs Q E I => F.run X.A X.stack s H args us vs Q E hr I.env0⟩
theorem Cal.g {X : Cx} {k : Nat} {f : Addr} {fd : FuncData} {ps : List Str} {sp : Sp} (F : FnG X.prog X.w X.K X.mg X.base (L2.CX X.prog X.w) k f fd ps sp) (hr : RoomG k X.A) : Cal X f fd ps sp :=
  ⟨F.len, fun pins sg s H args us vs Q E I => F.run X.A X.stack s H args us vs Q E hr I.env0⟩
/-! ### what a call binds -/
inductive Src where
  | p (i : Nat)
  | k (j : Nat)
  | c (d : D)
def pick1 (us ws : List D) : Src → Option D
  | .p i => us[i]?
  | .k j => ws[j]?
  | .c d => some d
def pick (us ws : List D) : List Src → Option (List D)
  | [] => some []
  | q :: r => (pick1 us ws q).bind fun x => (pick us ws r).bind fun xs => some (x :: xs)
def CstV : D → Value → Prop
  | .non, v => v = .none
  | .bl b, v => v = .bool b
  | .int i, v => ∃ t, v = .int i t
  | .str x, v => ∃ t, v = .str x t
  | _, _ => False
def srcV (us ws : List Value) : Src → Value → Prop
  | .p i, v => us[i]? = some v
  | .k j, v => ws[j]? = some v
  | .c d, v => CstV d v
inductive SrcVs (us ws : List Value) : List Src → List Value → Prop
  | nil : SrcVs us ws [] []
  | cons {q : Src} {r : List Src} {v : Value} {vs : List Value} : srcV us ws q v → SrcVs us ws r vs → SrcVs us ws (q :: r) (v :: vs)
structure BindK (K : PySem.W.Frag) (fd : FuncData) (ps : List Str) (n : Nat) (ks : List Str) (src : List Src) : Prop where
  to : ∀ (s : Shared) (us ws : List Value), K.In s.heap → us.length = n → ws.length = ks.length → ∃ zs, BindsTo s fd ⟨us, ks.zip ws⟩ (ps.zip zs) ∧ SrcVs us ws src zs
theorem BindK.plain {K : PySem.W.Frag} {fd : FuncData} {ps : List Str} {n : Nat} {ks : List Str} {src : List Src} {x qual : Str} {params : Arguments} {body : List Stmt} {scope : Scope} {kws : List (Str × V)} {f : Addr} (F : FunD K x qual params body scope [] kws f fd)
    (h : ∀ (kV doc pm : Value) (an : Option Addr) (cdv ct : Value) (us ws : List Value), us.length = n → ws.length = ks.length → ∃ zs, bindArgs (PySem.W.fnOf x qual params body scope .none kV doc pm an cdv ct) ⟨us, ks.zip ws⟩ = pure (ps.zip zs) ∧ SrcVs us ws src zs) : BindK K fd ps n ks src := by
  obtain ⟨oc, od, dV, kV, doc, pm, an, cdv, ct, osl, rfl, lk, hcd, hD, hK⟩ := F.ex
  rcases hD with ⟨_, rfl⟩ | ⟨e, _⟩
  · refine ⟨fun s us ws KI h1 h2 => ?_⟩
    obtain ⟨zs, e1, e2⟩ := h kV doc pm an cdv ct us ws h1 h2
    exact ⟨zs, .of_eq e1, e2⟩
  · exact absurd rfl e
/-- keyword-only parameters that lack, ms -/
theorem BindK.lack {K : PySem.W.Frag} {fd : FuncData} {ps : List Str} {n : Nat} {ks : List Str} {src : List Src} {x qual : Str} {params : Arguments} {body : List Stmt} {scope : Scope} {kws : List (Str × V)} {f : Addr} (F : FunD K x qual params body scope [] kws f fd) (hk : kws ≠ []) (ms : List (Str × V)) (hms : ∀ q ∈ ms, q ∈ kws)
    (h : ∀ (D : Addr) (doc pm : Value) (an : Option Addr) (cdv ct : Value) (us ws mv : List Value), us.length = n → ws.length = ks.length → mv.length = ms.length → Vals (ms.map (·.2)) mv →
      ∃ zs, KwChain D ((ms.map (·.1)).zip mv) (bindArgs (PySem.W.fnOf x qual params body scope .none (.ref D) doc pm an cdv ct) ⟨us, ks.zip ws⟩) (ps.zip zs) ∧ SrcVs us ws src zs) : BindK K fd ps n ks src := by
  obtain ⟨oc, od, dV, kV, doc, pm, an, cdv, ct, osl, rfl, lk, hcd, hD, hK⟩ := F.ex
  rcases hD with ⟨_, rfl⟩ | ⟨e, _⟩
  · rcases hK with e | ⟨D, rfl, hq⟩
    · exact absurd e hk
    · obtain ⟨mv, hl, rk, hks⟩ := kwd_vals (ms := ms) fun q hm => hq q (hms q hm)
      refine ⟨fun s us ws KI h1 h2 => ?_⟩
      obtain ⟨zs, e1, e2⟩ := h D doc pm an cdv ct us ws mv h1 h2 hl rk
      exact ⟨zs, BindsTo.of_looks fun M => KwChain.looks KI hks e1, e2⟩
  · exact absurd rfl e
theorem cst_rep {K : PySem.W.Frag} {C : Nat → Addr} {io : Io} {F : Hp} {d : D} {u : Value} (h : CstV d u) : ∃ v, RelV v u ∧ Rep K C io F d v := by
  cases d <;> simp only [CstV] at h
  · exact ⟨.non, h, .non⟩
  · exact ⟨.bl _, h, .bl _⟩
  · exact ⟨.int _, h, .int _⟩
  · exact ⟨.str _, h, .str _⟩
theorem Vals.at' {vs : List V} {us : List Value} (r : Vals vs us) {i : Nat} {u : Value} (h : us[i]? = some u) : ∃ v, vs[i]? = some v ∧ RelV v u := by
  induction r generalizing i with
  | nil => simp at h
  | cons r1 rs ih =>
    cases i with
    | zero => simp at h; subst h; exact ⟨_, rfl, r1⟩
    | succ i => simpa using ih (by simpa using h)
theorem picked {K : PySem.W.Frag} {C : Nat → Addr} {io : Io} {F : Hp} {us ws : List Value} {vs xs : List V} {ds es : List D} (ru : Vals vs us) (rw_ : Vals xs ws) (rd : Reps K C io F ds vs) (re : Reps K C io F es xs) :
    ∀ {src : List Src} {zs : List Value} {as : List D}, SrcVs us ws src zs → pick ds es src = some as → ∃ ys, Vals ys zs ∧ Reps K C io F as ys
  | _, _, _, .nil, h => by cases h; exact ⟨[], .nil, .nil⟩
  | q :: r, _, _, .cons (v := v0) h1 h2, h => by
    simp only [pick] at h
    obtain ⟨d, e1, h⟩ := bind_some' h
    obtain ⟨ds', e2, h⟩ := bind_some' h
    cases h
    obtain ⟨ys, g1, g2⟩ := picked ru rw_ rd re h2 e2
    have : ∃ y, RelV y v0 ∧ Rep K C io F d y := by
      cases q with
      | p i =>
        obtain ⟨v, a1, a2⟩ := Vals.at' ru h1
        obtain ⟨d', b1, b2⟩ := rd.getV a1
        have e : d' = d := by have e1' : ds[i]? = some d := e1; rw [b1] at e1'; exact Option.some.inj e1'
        exact ⟨v, a2, e ▸ b2⟩
      | k i =>
        obtain ⟨v, a1, a2⟩ := Vals.at' rw_ h1
        obtain ⟨d', b1, b2⟩ := re.getV a1
        have e : d' = d := by have e1' : es[i]? = some d := e1; rw [b1] at e1'; exact Option.some.inj e1'
        exact ⟨v, a2, e ▸ b2⟩
      | c d0 => cases e1; exact cst_rep h1
    obtain ⟨y, c1, c2⟩ := this
    exact ⟨y :: ys, .cons c1 g1, .cons c2 g2⟩
def rCallK (g : List D → Store → Res D) (src : List Src) (as ks : RA) : RE := fun e S => (as e S).bind fun ds S1 => (ks e S1).bind fun es S2 => match pick ds es src with
  | some zs => g zs S2
  | none => .bad
theorem SrcVs.length {us ws : List Value} : ∀ {src : List Src} {zs : List Value}, SrcVs us ws src zs → zs.length = src.length
  | _, _, .nil => rfl
  | _, _, .cons _ h => by simp [SrcVs.length h]
section
variable {X : Cx} {C : Nat → Addr} {W : WX} {n : Nat} {f : Addr} {fd : FuncData} {ps ks : List Str} {g : List D → Store → Res D} {x : Str} {p pos : Pos} {e : Expr} {es : List Expr} {rs rk : RA} {src : List Src} {kws : List Keyword} {m : Nat}
theorem run_cal {pins : List (Addr × Obj)} {sg : L2.St} {H : Hp} {s : Shared} {Q : VK} {us zs : List Value} {kw : List (Str × Value)} {vs : List V} {sp : Sp} (F : Cal X f fd ps sp) (tk : Takes X W) (hb : BindsTo s fd ⟨us, kw⟩ (ps.zip zs)) (I : L2.Inv X pins sg H s) (r : Vals vs zs) (h : sp vs H Q (WE W sg)) :
    wpAny (model X.prog X.w) X.A (call (.ref f) us kw) (EP X pins sg Q) X.xe s := by
  refine wpAny_call (codeAny_mono (F.run pins sg s H _ zs vs Q (WE W sg) I hb r h) fun r s' hq => ?_)
  cases r with
  | error e => exact passAt tk sg pins H s e s' I hq
  | ok fl =>
    cases fl with
    | ret u => exact I.after hq
    | next => exact False.elim hq
    | brk => exact False.elim hq
    | cont => exact False.elim hq
theorem spOf_of {K : PySem.W.Frag} {n : Nat} {ds : List D} {vs : List V} {S : Store} {io : Io} {H : Hp} {sg : L2.St} {Q : VK} (hl : vs.length = n) (dn : Den K C io S H) (r : Reps K C io (Fz io H) ds vs) (p : Post K C (RepR K C) W sg io H (g ds S) Q) : spOf K C n g vs H Q (WE W sg) :=
  ⟨hl, ds, S, io, dn, r, by
    cases q : g ds S with
    | ok a S1 => rw [q] at p; exact p
    | err y S1 => rw [q] at p; exact p
    | bad => rw [q] at p; exact p⟩
/-- a call by places -/
theorem ee_callC (F : Cal X f fd ps (spOf X.K C n g)) (hg : Gl X x) (hm : X.mg x = some (.ref f)) (hk : PySem.W.keepIn X.K (.ref f) = true) (hb : Binds X.K fd ps []) (tk : Takes X W)
    (ha : PA X (e :: es) (tA X.K C W rs)) (hn : AL n rs) (hdb : (x == ("__debug__" : Str)) = false := by decide) (he : starEach (e :: es) X.env = (false, eval e X.env) :: starEach es X.env := by rfl) (hpl : (backTo pos (starEach es X.env)).any (·.1) = false := by rfl) :
    PE X (.Call (.Name x p) (e :: es) [] pos) (tE X.K C W (rCall g rs)) := by
  refine ⟨fun pins s sg H Q I h => ?_⟩
  have h2 := tA.alen hn (tR.seq1 (fun _ ds S => g ds S) h fun _ _ => rfl)
  refine wpAny_Call_Name_kw (ld_glob I hg hm ?_ hdb)
  refine PySem.W.callWith_K (h₀ := X.base) I.ok.mod.kin hk (thn (ha.run pos pins s sg H _ I h2) fun us s1 ⟨vs, H1, I1, r, hl, e, S, io, ds, dn, sl, rr, q⟩ => ⟨I1.kIn, ?_⟩) he hpl
  have hl2 : us.length = ps.length := by
    rw [← r.length]
    exact F.len vs H1 Q _ (spOf_of hl dn rr q)
  have b := hb s1 us I1.kIn (by rw [List.append_nil]; exact hl2)
  rw [List.append_nil] at b
  exact run_cal F tk b I1 r (spOf_of hl dn rr q)
theorem ek_nil : PK X [] (tA X.K C W rNil) := ⟨fun pos pins s sg H Q I h => pk_nil.run pos pins s sg H Q I (by
  obtain ⟨e, S, io, d, s, p⟩ := h
  exact p.here d .nil)⟩
theorem ek_cons {nm : Option Str} {kpos : Pos} {re : RE} (ha : PE X e (tE X.K C W re)) (hr : PK X kws (tA X.K C W rk)) : PK X (⟨nm, e, kpos⟩ :: kws) (tA X.K C W (rCons re rk)) :=
  ⟨fun pos pins s sg H Q I h => (pk_cons ha hr).run pos pins s sg H Q I ((tR.seq2 repM (fun _ x xs S => .ok (x :: xs) S) h fun _ _ => rfl).mono fun x H1 h1 => h1.mono fun y H2 ⟨e, S, io, x1, y1, d, s, r1, r2, p⟩ =>
    p _ H2 io (Ext.refl _ _) d (.cons r1 r2))⟩
/-- by places and by names, or with parameters left out -/
theorem ee_callK (F : Cal X f fd ps (spOf X.K C m g)) (hg : Gl X x) (hm : X.mg x = some (.ref f)) (hk : PySem.W.keepIn X.K (.ref f) = true) (hb : BindK X.K fd ps n ks src) (hsrc : src.length = m) (tk : Takes X W)
    (ha : PA X (e :: es) (tA X.K C W rs)) (hn : AL n rs) (hkw : PK X kws (tA X.K C W rk)) (hnk : AL ks.length rk) (hall : (backToKw pos (keywordEach kws X.env)).all (·.1.isSome) = true := by rfl) (hks : (backToKw pos (keywordEach kws X.env)).filterMap (·.1) = ks := by rfl)
    (hdb : (x == ("__debug__" : Str)) = false := by decide) (he : starEach (e :: es) X.env = (false, eval e X.env) :: starEach es X.env := by rfl)
    (hpl : ((backTo pos (starEach (e :: es) X.env)).any (·.1) || (backToKw pos (keywordEach kws X.env)).any (·.1.isNone)) = false := by rfl) :
    PE X (.Call (.Name x p) (e :: es) kws pos) (tE X.K C W (rCallK g src rs rk)) := by
  refine ⟨fun pins s sg H Q I h => ?_⟩
  have h2 := tA.alen hn (tR.seq1 (R := RepsR X.K C) (fun e ds S1 => (rk e S1).bind fun es S2 => match pick ds es src with | some zs => g zs S2 | none => .bad) h fun _ _ => rfl)
  refine wpAny_Call_Name_kw (ld_glob I hg hm ?_ hdb)
  refine PySem.W.callWith_KW (h₀ := X.base) I.ok.mod.kin hk hall (thn (ha.run pos pins s sg H _ I h2) fun us s1 ⟨vs, H1, I1, r, hl, e, S, io, ds, dn, sl, rr, q⟩ => ?_) hpl he
  have h3 : tA X.K C W rk sg H1 (fun xs H2 => ∃ S2 io2 es, Ext io H1 io2 H2 ∧ Den X.K C io2 S2 H2 ∧ Reps X.K C io2 (Fz io2 H2) es xs ∧ Post X.K C (RepR X.K C) W sg io2 H2 (match pick ds es src with | some zs => g zs S2 | none => .bad) Q) :=
    ⟨e, S, io, dn, sl, q.bind.mono fun xs H2 ⟨io2, S2, es, x2, d2, r2, p2⟩ => ⟨S2, io2, es, x2, d2, r2, p2⟩⟩
  refine thn (hkw.run pos pins s1 sg H1 _ I1 (tA.alen hnk h3)) fun ws s2 ⟨xs, H2, I2, rx, hl2, S2, io2, es, x2, d2, r2, p2⟩ => ⟨I2.kIn, ?_⟩
  rw [hks]
  obtain ⟨zs, b1, b2⟩ := hb.to s2 us ws I2.kIn (r.length.symm.trans hl) (rx.length.symm.trans hl2)
  split at p2
  · rename_i as hp
    obtain ⟨ys, y1, y2⟩ := picked r rx (rr.ext x2) r2 b2 hp
    exact run_cal F tk b1 I2 y1 (spOf_of (by rw [y1.length, b2.length, hsrc]) d2 y2 p2)
  · exact p2.elim
/-- by names alone -/
theorem ee_callK0 (F : Cal X f fd ps (spOf X.K C m g)) (hg : Gl X x) (hm : X.mg x = some (.ref f)) (hk : PySem.W.keepIn X.K (.ref f) = true) (hb : BindK X.K fd ps 0 ks src) (hsrc : src.length = m) (tk : Takes X W)
    (hkw : PK X kws (tA X.K C W rk)) (hnk : AL ks.length rk) (hall : (backToKw pos (keywordEach kws X.env)).all (·.1.isSome) = true := by rfl) (hks : (backToKw pos (keywordEach kws X.env)).filterMap (·.1) = ks := by rfl)
    (hdb : (x == ("__debug__" : Str)) = false := by decide) (hpl : ((backTo pos (starEach [] X.env)).any (·.1) || (backToKw pos (keywordEach kws X.env)).any (·.1.isNone)) = false := by rfl) :
    PE X (.Call (.Name x p) [] kws pos) (tE X.K C W (rCallK g src rNil rk)) := by
  refine ⟨fun pins s sg H Q I h => ?_⟩
  refine wpAny_Call_Name_kw (ld_glob I hg hm ?_ hdb)
  have h2 : tA X.K C W rk sg H (fun xs H2 => ∃ S2 io2 es, Den X.K C io2 S2 H2 ∧ Reps X.K C io2 (Fz io2 H2) es xs ∧ Post X.K C (RepR X.K C) W sg io2 H2 (match pick [] es src with | some zs => g zs S2 | none => .bad) Q) := by
    obtain ⟨e, S, io, dn, sl, q⟩ := h
    exact ⟨e, S, io, dn, sl, (Post.bind (k := fun es S2 => match pick [] es src with | some zs => g zs S2 | none => .bad) q).mono fun xs H2 ⟨io2, S2, es, x2, d2, r2, p2⟩ => ⟨S2, io2, es, d2, r2, p2⟩⟩
  refine PySem.W.callWith_KW0 (h₀ := X.base) I.ok.mod.kin hk hall (thn (hkw.run pos pins s sg H _ I (tA.alen hnk h2)) fun ws s2 ⟨xs, H2, I2, rx, hl2, S2, io2, es, d2, r2, p2⟩ => ⟨I2.kIn, ?_⟩) hpl
  rw [hks]
  obtain ⟨zs, b1, b2⟩ := hb.to s2 [] ws I2.kIn rfl (rx.length.symm.trans hl2)
  split at p2
  · rename_i as hp
    obtain ⟨ys, y1, y2⟩ := picked .nil rx .nil r2 b2 hp
    exact run_cal F tk b1 I2 y1 (spOf_of (by rw [y1.length, b2.length, hsrc]) d2 y2 p2)
  · exact p2.elim
end
/-! ### the end of a law whose def shows data -/
theorem law_callG {P : Program} {w : World} {K : PySem.W.Frag} {mg mb : Str → Option Value} {k : Nat} {fa a : Addr} {fd : FuncData} {x : Str} {sp : Sp} {s1 : Shared} {vs : List Value} {ns : List Int}
    (KX : K.In s1.heap) (hns : s1.heap.Ns mainGlobals mg) (hb : s1.heap.Ns builtinsNs mb) (hbb : ∀ x : Str, x ≠ "__name__" → mb x = bootBuiltins x) (hlim : s1.heap.NoLimit) (hg : s1.gens = #[])
    (ha : s1.heap.get? a = some { cls := .type "list", data := .seq vs.toArray }) (hi : IntsAre vs ns) (hl : ns.length ≤ sizeLine) (hr : Room k callerA)
    (F : ∀ base : Heap, K.In base → base.Ns mainGlobals mg → FnG P w K mg base (L2.CX P w) k fa fd [x] sp) (hbind : ∀ (s : Shared) (u : Value), BindsTo s fd ⟨[u], []⟩ [(x, u)])
    (hsp : ∀ H : Hp, Only H → SqL K H a (ns.map V.int) → sp [.ref a] H (fun v _ => v = .bl true) fun _ _ _ => False) :
    codeAny (model P w) callerA (.call (.ref fa) ⟨[.ref a], []⟩) (fun r s' => r = .ok (.ret (.bool true)) ∧ OldK s1.heap s'.heap ∧ s'.os = s1.os ∧ AllBare s'.gens) s1 := by
  have rv := vals_ints hi
  -- the run from a heap H that knows the script at most
  have go : ∀ H : Hp, Only H → SqL K H a (ns.map V.int) → HOk P w H s1.heap → (∀ b u, H b = some u → b = a ∧ K.lookup a = none) →
      codeAny (model P w) callerA (.call (.ref fa) ⟨[.ref a], []⟩) (fun r s' => r = .ok (.ret (.bool true)) ∧ OldK s1.heap s'.heap ∧ s'.os = s1.os ∧ AllBare s'.gens) s1 := fun H hO hS hok hA => by
    have offD : ∀ {b : Addr} {o : Obj} {es : Array DictEntry} {ep : Nat}, s1.heap.get? b = some o → o.data = .dict es ep → H b = none := fun {b o es ep} e d => by
      cases q : H b with
      | none => rfl
      | some u =>
        obtain ⟨rfl, _⟩ := hA b u q
        rw [ha] at e
        cases e
        cases d
    have nsK : ∀ {b : Addr} {m : Str → Option Value}, s1.heap.Ns b m → (hidT s1.heap H).Ns b m := fun {b m} ⟨o, es, ep, e, d, r⟩ => ⟨o, es, ep, hidT_get e (offD e d), d, r⟩
    have hKb : K.In (hidT s1.heap H) := fun b o e => hidT_get (KX b o e) (by
      cases q : H b with
      | none => rfl
      | some u =>
        obtain ⟨rfl, hk⟩ := hA b u q
        rw [hk] at e
        cases e)
    have lim : (hidT s1.heap H).NoLimit := by
      obtain ⟨mc, h1, h2⟩ := hlim
      exact ⟨mc, nsK h1, h2⟩
    have e0 : Env0 P w K mg (hidT s1.heap H) callerA [] s1 H := ⟨rfl, ⟨hKb, nsK hns, ⟨mb, nsK hb, hbb⟩, lim⟩, fun b o e => of_hidT e, Nat.le_of_eq (hidT_size _ _), trivial, fun b hb => (by cases hb), hok, .of_eq hg⟩
    refine codeAny_mono ((F _ hKb (nsK hns)).run callerA [] s1 H ⟨[.ref a], []⟩ [.ref a] [.ref a] _ _ ⟨hr, rfl⟩ e0 (hbind s1 (.ref a)) (.cons rfl .nil) (hsp H hO hS)) fun r s' h => ?_
    cases r with
    | error e => exact (cx_end h).elim
    | ok fl =>
      cases fl with
      | ret u =>
        obtain ⟨v, H', os, bare, un, hok', r', q⟩ := h
        subst q
        obtain rfl : u = Value.bool true := r'
        refine ⟨rfl, OldK.of_keep fun b o e => ?_, os, bare⟩
        rcases hO b with z | ⟨ob, xs, z⟩
        · exact un.keep b o e z (fun y => by cases y) (by simp)
        · obtain ⟨e1, _⟩ := hok b _ z
          obtain ⟨e2, _⟩ := hok' b _ (un.frzs b ob _ z)
          rw [e] at e1
          cases e1
          exact e2
      | _ => exact False.elim h
  cases hk : K.lookup a with
  | some o =>
    have e := KX a o hk
    rw [ha] at e
    cases e
    exact go (fun _ => none) (fun _ => .inl rfl) (.inr ⟨_, vs.toArray, _, hk, rfl, rfl, rfl, by rw [List.size_toArray, hi.length]; exact hl, by simpa using rv⟩) (fun b u z => by cases z) fun b u z => by cases z
  | none =>
    have at_ : ∀ {b : Addr} {u : HO}, (if b = a then some (HO.frz { cls := .type "list", data := .seq vs.toArray } (.lst (ns.map V.int))) else none) = some u → b = a ∧ u = HO.frz { cls := .type "list", data := .seq vs.toArray } (.lst (ns.map V.int)) := fun {b u} z => by
      split at z
      · cases z; exact ⟨by assumption, rfl⟩
      · cases z
    refine go (fun b => if b = a then some (.frz { cls := .type "list", data := .seq vs.toArray } (.lst (ns.map V.int))) else none) (fun b => ?_) (.inl (.inr ⟨_, if_pos rfl⟩)) (fun b u z => ?_) fun b u z => ⟨(at_ z).1, hk⟩
    · by_cases hb : b = a
      · exact .inr ⟨_, _, if_pos hb⟩
      · exact .inl (if_neg hb)
    · obtain ⟨rfl, rfl⟩ := at_ z
      exact ⟨ha, by rw [List.length_map]; exact hl, vs, _, rv, ha⟩
theorem walk_evG {l : PySem.W.OpenLaw} {n k : Nat} {q : Program} {loose : List Str} {XP : (Str → Option Value) → Heap → Prop} {YP : World → Heap → Prop} {d : DefRec} {K : Params → PySem.W.Frag} {x : Str} {g : List D → Store → Res D}
    (hn : l.most = some n) (hn2 : n ≤ sizeLine) (hdf : d.params.defaults = []) (hr : Room k callerA)
    (hY : ∀ (w : World) (h : Heap), YP w h → (K w.params).In h)
    (F : ∀ (w : World) (mg : Str → Option Value) (fa : Addr) (h : Heap), (K w.params).In h → h.Ns mainGlobals mg → mg d.name = some (.ref fa) →
      ∃ (fd : FuncData) (C : Nat → Addr), (∀ (s : Shared) (u : Value), BindsTo s fd ⟨[u], []⟩ [(x, u)]) ∧
        ∀ base : Heap, (K w.params).In base → base.Ns mainGlobals mg → FnG l.prog w (K w.params) mg base (L2.CX l.prog w) k fa fd [x] (spOf (K w.params) C 1 g))
    (hg : ∀ ns : List Int, ns.length ≤ n → ∃ S', g [.lst (ns.map D.int)] [] = .ok (.bl true) S') :
    PySem.W.WalkO q loose XP YP l.row.toRowW d [] (fun f vs => PySem.call f vs) := by
  refine Att.attach_call hn hdf fun w s0 s1 mg mb fa o pm cd doc a vs ns G Y ho hd hcd hmg hobj hints hlen hgn => ?_
  have KX := hY w _ Y
  obtain ⟨fd, C, hb, hF⟩ := F w mg fa _ KX G.T.g hmg
  exact law_callG KX G.T.g G.T.b G.T.builtins G.T.nolimit hgn hobj hints (Nat.le_trans hlen hn2) hr hF hb (fun H hO hS => law_end hS (hg ns hlen))
end Ev
namespace Ev
open PySem PySem.Spec L2

/-! ### loops over a list of the store, as it stands at each turn -/
def itemAt (S : Store) (x : D) (i : Nat) : Option (Option D) := match x with
  | .loc n => match S[n]? with
    | some (.lst xs) => some xs[i]?
    | _ => none
  | .lst xs => some xs[i]?
  | .tup xs => some xs[i]?
  | _ => none
def okIt (S : Store) : D → Bool
  | .loc n => match S[n]? with
    | some (.lst _) => true
    | _ => false
  | .lst _ => true
  | .tup _ => true
  | _ => false
def forV (t : Tg) (body : RS) (x : D) : Nat → Nat → RS
  | 0, _, _, _ => .bad
  | k + 1, i, e, S => match itemAt S x i with
    | none => .bad
    | some none => .nx e S
    | some (some d) => match bindT S d e t with
      | none => .bad
      | some e1 => (body e1 S).andThen (forV t body x k (i + 1))
def rLive (a : RE) : RE := fun e S => (a e S).bind fun d S1 => if okIt S1 d = true then .ok d S1 else .bad
def sForV (a : RE) (t : Tg) (body : RS) (k : Nat) : RS := fun e S => (rLive a e S).fl e fun x S1 => forV t body x k 0 e S1
/-- the walk J goes through the thing x, as it stands -/
def WkV (K : PySem.W.Frag) (C : Nat → Addr) : Io → Hp → D → It → Prop := fun io F x J =>
  ∀ (io' : Io) (H' : Hp) (S' : Store), (∀ (n : Nat) (a : Addr), io.l[n]? = some a → io'.l[n]? = some a) → Same F (Fz io' H') → Den K C io' S' H' →
    ∀ i, (itemAt S' x i = some none → J.stop i H') ∧ ∀ d, itemAt S' x i = some (some d) → J.go i H' ∧ ∀ v H'', J.yld i H' v H'' → Ext io' H' io' H'' ∧ Den K C io' S' H'' ∧ Rep K C io' (Fz io' H'') d v
theorem wkV_loc {K : PySem.W.Frag} {C : Nat → Addr} {io : Io} {F : Hp} {a : Addr} {n : Nat} (h : io.l[n]? = some a) : WkV K C io F (.loc n) (Itl K a) := fun io' H' S' hp hs dn i => by
  have ha := hp n a h
  cases hS : S'[n]? with
  | none => exact ⟨fun z => by simp [itemAt, hS] at z, fun d z => by simp [itemAt, hS] at z⟩
  | some o =>
    cases o with
    | lst xs =>
      obtain ⟨vs, h1, h2⟩ := dn.obj n _ a hS ha
      refine ⟨fun z => ?_, fun d z => ?_⟩
      · simp only [itemAt, hS, Option.some.injEq] at z
        refine ⟨vs, .of h1, ?_⟩
        rw [← h2.length]
        exact List.getElem?_eq_none_iff.mp z
      · simp only [itemAt, hS, Option.some.injEq] at z
        obtain ⟨v, e1, e2⟩ := h2.get z
        refine ⟨⟨vs, v, .of h1, e1⟩, fun u H'' y => ?_⟩
        obtain ⟨rfl, y⟩ := y
        have e3 := y vs (.of h1)
        rw [e1] at e3
        cases e3
        exact ⟨Ext.refl _ _, dn, e2⟩
    | dK ks xs => exact ⟨fun z => by simp [itemAt, hS] at z, fun d z => by simp [itemAt, hS] at z⟩
    | ins c ns xs => exact ⟨fun z => by simp [itemAt, hS] at z, fun d z => by simp [itemAt, hS] at z⟩
theorem wkV_lst {K : PySem.W.Frag} {C : Nat → Addr} {io : Io} {F : Hp} {a : Addr} {vs : List V} {ds : List D} (h : SqL K F a vs) (r : Reps K C io F ds vs) : WkV K C io F (.lst ds) (Itl K a) := fun io' H' S' hp hs dn i => by
  have h' : SqL K H' a vs := (Fz_same _ _).seq (hs.seq h)
  refine ⟨fun z => ⟨vs, h', ?_⟩, fun d z => ?_⟩
  · rw [← r.length]
    exact List.getElem?_eq_none_iff.mp (Option.some.inj z)
  · have z' : ds[i]? = some d := Option.some.inj z
    obtain ⟨v, e1, e2⟩ := r.get z'
    refine ⟨⟨vs, v, h', e1⟩, fun u H'' y => ?_⟩
    obtain ⟨rfl, y⟩ := y
    have e3 := y vs h'
    rw [e1] at e3
    cases e3
    exact ⟨Ext.refl _ _, dn, e2.mono hp hs⟩
theorem wkV_tup {K : PySem.W.Frag} {C : Nat → Addr} {io : Io} {F : Hp} {a : Addr} {vs : List V} {ds : List D} (h : SqT K F a vs) (r : Reps K C io F ds vs) : WkV K C io F (.tup ds) (Itt K a) := fun io' H' S' hp hs dn i => by
  have h' : SqT K H' a vs := sqT_same (Fz_same _ _) (sqT_same hs h)
  refine ⟨fun z => ⟨vs, h', ?_⟩, fun d z => ?_⟩
  · rw [← r.length]
    exact List.getElem?_eq_none_iff.mp (Option.some.inj z)
  · have z' : ds[i]? = some d := Option.some.inj z
    obtain ⟨v, e1, e2⟩ := r.get z'
    refine ⟨⟨vs, v, h', e1⟩, fun u H'' y => ?_⟩
    obtain ⟨rfl, y⟩ := y
    have e3 := y vs h'
    rw [e1] at e3
    cases e3
    exact ⟨Ext.refl _ _, dn, e2.mono hp hs⟩
section
variable {X : Cx} {C : Nat → Addr} {W : WX} {tg a : Expr} {ra : RE}
theorem ei_live (ha : PE X a (tE X.K C W ra)) : PI X tg a (tR X.K C (WkV X.K C) W (rLive ra)) := by
  have hi : PI X tg a (fun sg H R => tE X.K C W ra sg H fun x H1 => (∃ p, x = .ref p ∧ (∃ xs, SqL X.K H1 p xs) ∧ R (Itl X.K p) H1) ∨ (∃ p, x = .ref p ∧ (∃ xs, SqT X.K H1 p xs) ∧ R (Itt X.K p) H1)) := by
    refine ⟨fun pins s sg H R I h => ?_⟩
    refine thn (ha.run pins s sg H _ I h) fun v s1 ⟨x, H1, I1, r1, q1⟩ => ?_
    rcases q1 with ⟨p, rfl, ⟨xs, hq⟩, q⟩ | ⟨p, rfl, ⟨xs, hq⟩, q⟩
    · cases r1
      obtain ⟨its, rv, pl, hz⟩ := I1.list hq
      refine wpAny_pyIter_list pl.isList ?_
      refine ⟨s1.heap.objs.size, [s1.heap.objs.size], _, _, H1, rfl, I1.kept (t' := s1.toks) fun b o e => Heap.get?_push_of_some _ e, turn_list p _, ⟨_, Heap.get?_push_size _ rfl, rfl, rfl⟩, fun b hb => ?_, q⟩
      have e : b = s1.heap.objs.size := by simpa using hb
      subst e
      exact I1.fpOk (Nat.le_refl _) (I1.hok.fresh (Nat.le_refl _))
    · cases r1
      obtain ⟨its, rv, pl, hz⟩ := I1.tuple hq
      refine wpAny_pyIter_tuple (show s1.heap.IsTuple p its.toArray from pl) ?_
      refine ⟨s1.heap.objs.size, [s1.heap.objs.size], _, _, H1, rfl, I1.kept (t' := s1.toks) fun b o e => Heap.get?_push_of_some _ e, turn_tuple p _, ⟨_, Heap.get?_push_size _ rfl, rfl, rfl⟩, fun b hb => ?_, q⟩
      have e : b = s1.heap.objs.size := by simpa using hb
      subst e
      exact I1.fpOk (Nat.le_refl _) (I1.hok.fresh (Nat.le_refl _))
  refine hi.imp fun sg H R h => (tR.seq1 (R := RepR X.K C) (fun _ d S => if okIt S d = true then .ok d S else .bad) h fun _ _ => rfl).mono fun x H1 ⟨e, S, io, d, dn, s, r, p⟩ => ?_
  by_cases hk : okIt S d = true
  · rw [if_pos hk] at p
    cases r with
    | tup q rs => exact .inr ⟨_, rfl, ⟨_, sqT_same (Fz_same _ _) q⟩, p _ H1 io (Ext.refl _ _) dn (wkV_tup q rs)⟩
    | lst q rs => exact .inl ⟨_, rfl, ⟨_, (Fz_same _ _).seq q⟩, p _ H1 io (Ext.refl _ _) dn (wkV_lst q rs)⟩
    | @loc n a q =>
      simp only [okIt] at hk
      split at hk
      · rename_i xs e1
        obtain ⟨vs, h1, h2⟩ := dn.obj n _ a e1 q
        exact .inl ⟨_, rfl, ⟨vs, .of h1⟩, p _ H1 io (Ext.refl _ _) dn (wkV_loc q)⟩
      · cases hk
    | _ => cases hk
  · rw [if_neg hk] at p
    exact p.elim
end
section
variable {X : Cx} {C : Nat → Addr} {W : WX} {tg iter : Expr} {ra : RE} {body : List Stmt} {mb : RS} {t : Tg} {pos : Pos}
theorem s_forV (k : Nat) (hp : PassesOwn (model X.prog X.w) X.A X.env X.xe) (hc : X.calm = true) (hi : PI X tg iter (tR X.K C (WkV X.K C) W (rLive ra))) (hg : GD X C tg t) (hb : PSs X body (tS X.K C W mb)) (hs : ∀ x, foldedSetIterable iter X.env x = pure x := by intro _; rfl) :
    PS X (.For tg iter body [] pos) (tS X.K C W (sForV ra t mb k)) :=
  (ps_for hp hc hi hg hb hs).imp fun Dn sg H h => (tS.seq (R := WkV X.K C) (fun e x S1 => forV t mb x k 0 e S1) h fun _ _ => rfl).mono fun J H1 ⟨e, S, io, x, dn, s, wk, p⟩ => by
    refine ⟨fun i m sg' H' => ∃ e' S' io', Ext io H1 io' H' ∧ Den X.K C io' S' H' ∧ Slots X.K C io' (Fz io' H') e' sg' ∧ PostS X.K C W io' H' (forV t mb x m i e' S') Dn,
      ⟨k, e, S, io, Ext.refl _ _, dn, s, p⟩, fun i m sg' H' ⟨e', S', io', x', d', s', p'⟩ => ?_⟩
    obtain ⟨stop, step⟩ := wk io' H' S' x'.pre x'.same d' i
    cases m with
    | zero => exact p'.elim
    | succ m =>
      unfold forV at p'
      cases hq : itemAt S' x i with
      | none => rw [hq] at p'; exact p'.elim
      | some o =>
        rw [hq] at p'
        cases o with
        | none => exact .inl ⟨stop hq, p' sg' H' io' (Ext.refl _ _) d' s'⟩
        | some d =>
          obtain ⟨go, yld⟩ := step d hq
          refine .inr ⟨go, fun sg2 H2 => ∃ e2 S2 io2, Ext io H1 io2 H2 ∧ Den X.K C io2 S2 H2 ∧ Slots X.K C io2 (Fz io2 H2) e2 sg2 ∧ PostS X.K C W io2 H2 (forV t mb x m (i + 1) e2 S2) Dn, fun sg2 H2 h2 => ⟨m, by omega, h2⟩, fun v H2 y => ?_⟩
          obtain ⟨x2, d2, r2⟩ := yld v H2 y
          cases hb : bindT S' d e' t with
          | none => simp only [hb] at p'; exact p'.elim
          | some e1 =>
            simp only [hb] at p'
            refine ⟨e', S', io', d, e1, d2, s'.ext x2, r2, hb, fun sg3 s3 _ => ⟨e1, S', io', d2, s3, ?_⟩⟩
            have p2 := PostS.ext x2 p'
            cases q : mb e1 S' with
            | nx e4 S4 =>
              simp only [q, Fl.andThen] at p2
              exact fun sg4 H4 io4 x4 d4 s4 => ⟨e4, S4, io4, (x'.trans x2).trans x4, d4, s4, PostS.ext x4 p2⟩
            | rt d4 S4 => simp only [q, Fl.andThen] at p2; exact p2
            | er x4 e4 S4 => simp only [q, Fl.andThen] at p2; exact p2
            | bad => simp only [q, Fl.andThen] at p2; exact p2
end
end Ev
namespace Ev
open PySem PySem.Spec L2
/-! ### try .. except X: without a name -/
def Fl.noEr : Fl → Fl
  | .er _ _ _ => .bad
  | f => f
def catchOnly (sub : Nat → Option Bool) (suite : RS) (x : Exn) (e : Env) (S : Store) : Fl := match sub x.c with
  | some true => (suite e S).noEr
  | some false => .er x e S
  | none => .bad
def sTryOnly (sub : Nat → Option Bool) (body suite : RS) : RS := fun e S => match body e S with
  | .er x e1 S1 => catchOnly sub suite x e1 S1
  | f => f
theorem s_try_only {X : Cx} {C : Nat → Addr} {W : WX} {x : Str} {c : Value} {body suite : List Stmt} {b0 : Stmt} {np pos pos' : Pos} {mb ms : RS} {sub : Nat → Option Bool} (hs : X.stack = X.env :: X.outer) (hf : X.env.frame = some X.env.locals) (hc : Names X x c) (tk : Takes X W)
    (hsub : ∀ y b, sub y = some b → PySem.W.exmOne X.K (.ref (C y)) c = some b)
    (hb : ∀ (W : WX) (pn : List (Addr × Obj)) (xe : Value → Shared → Prop), Takes (X.tr pn xe) W → PassesOwn (model X.prog X.w) X.A X.env xe → PSs (X.tr pn xe) body (tS X.K C W mb))
    (hsu : ∀ (a : Addr) (pn : List (Addr × Obj)), PSs (X.suite a pn) (b0 :: suite) (tS X.K C (fun _ _ _ _ => False) ms)) :
    PS X (.Try body [.ExceptHandler (some (.Name x np)) none (b0 :: suite) pos'] [] [] pos) (tS X.K C W (sTryOnly sub mb ms)) :=
  (ps_try_only (ts := fun _ _ _ => tS X.K C (fun _ _ _ _ => False) ms) hs hf hc tk hb (fun a oe cls d pn _ _ => hsu a ((a, oe) :: pn))).imp fun Dn sg H h => by
    obtain ⟨e0, S0, io0, dn0, sl0, p0⟩ := h
    refine ⟨e0, S0, io0, dn0, sl0, ?_⟩
    unfold sTryOnly at p0
    cases q : mb e0 S0 with
    | nx e1 S1 => rw [q] at p0; exact p0
    | rt d1 S1 => rw [q] at p0; exact p0
    | bad => rw [q] at p0; exact p0
    | er x e1 S1 =>
      rw [q] at p0
      intro cls dd sg' H' io' xx d' s' xr
      have pc := PostS.ext xx p0
      obtain ⟨rfl, _⟩ := id xr
      cases eb : sub x.c with
      | none => simp only [catchOnly, eb] at pc; exact pc.elim
      | some b =>
        refine ⟨b, hsub _ _ eb, fun hbt a _ => ?_, fun hbf => ?_⟩
        · subst hbt
          simp only [catchOnly, eb] at pc
          refine ⟨e1, S1, io', d', s', ?_⟩
          cases z : ms e1 S1 with
          | nx e2 S2 => rw [z] at pc; exact pc
          | rt d2 S2 => rw [z] at pc; exact pc
          | er y e2 S2 => rw [z] at pc; exact pc.elim
          | bad => rw [z] at pc; exact pc.elim
        · subst hbf
          simp only [catchOnly, eb] at pc
          exact pc _ dd sg' H' io' (Ext.refl _ _) d' s' xr
end Ev
namespace Ev
open PySem PySem.Spec L2 PyProof.Rows

/-! ### list(text) -/
def listT (S : Store) : List D → Option D
  | [.str x] => if x.length ≤ sizeLine then some (.lst (signsD x)) else none
  | as => listD S as
theorem reps_signs {K : PySem.W.Frag} {C : Nat → Addr} {io : Io} {F : Hp} : ∀ l : List Nat, Reps K C io F (l.map fun c => D.str ⟨#[c]⟩) (l.map fun c => V.str ⟨#[c]⟩)
  | [] => .nil
  | c :: l => .cons (.str _) (reps_signs l)
theorem listT_ok {X : Cx} {C : Nat → Addr} (hc : X.calm = true) : CallD X C (.type "list") listT := fun pins s sg H xs us Q I rx ⟨io, S, as, d, dn, ra, e, q⟩ => by
  unfold listT at e
  split at e
  · rename_i x
    split at e
    · rename_i hz
      cases e
      obtain ⟨v, rfl, rv⟩ := reps1 ra
      cases rv
      obtain ⟨u, rfl, ru⟩ := vals1 rx
      obtain ⟨t, rfl⟩ := ru
      refine call_list_str (I.ok.hd hc) x t (hn := hz) fun h' tk acc' c' hk hS hacc => ?_
      have el : acc'.toList.length = acc'.size := by simp
      have hl : (x.cps.toList.map fun c => V.str ⟨#[c]⟩).length = x.length := by simp; rfl
      obtain ⟨x1, d1, r1⟩ := new_lst (xs := signsD x) (vs := x.cps.toList.map fun c => V.str ⟨#[c]⟩) dn (reps_signs _) (I.hok.fresh (Nat.le_refl s.heap.objs.size))
      refine ⟨.ref s.heap.objs.size, upd H s.heap.objs.size (.lst (x.cps.toList.map fun c => V.str ⟨#[c]⟩)), I.laid hk (Nat.le_refl _) (show ObjOk X.prog X.w _ _ _ (.lst (x.cps.toList.map fun c => V.str ⟨#[c]⟩)) from ⟨by rw [hl]; exact hz, acc'.toList, c', ?_, ?_⟩), rfl, q _ _ io x1 d1 r1⟩
      · refine vals_of_at (by rw [hl, el, hacc.1]; rfl) fun j y w h1 h2 => ?_
        obtain ⟨c, u, hcx, rfl⟩ := hacc.2 j w (by rw [← Array.getElem?_toList]; exact h2)
        rw [List.getElem?_map, Array.getElem?_toList, hcx] at h1
        cases h1
        exact ⟨u, rfl⟩
      · rw [Array.toArray_toList]; exact hS
    · cases e
  · exact listD_ok pins s sg H xs us Q I rx ⟨io, S, as, d, dn, ra, e, q⟩
end Ev
namespace Ev
open PySem PySem.Spec L2

/-! ### comprehensions over a list of the store, as it stands at each turn -/
def lcV (t : Tg) (c : RT) (elt : RE) (e0 : Env) (x : D) : Nat → Nat → Store → Res (List D)
  | 0, _, _ => .bad
  | k + 1, i, S => match itemAt S x i with
    | none => .bad
    | some none => .ok [] S
    | some (some d) => match bindT S d e0 t with
      | none => .bad
      | some e1 => (c e1 S).bind fun b S1 => if b = true then (elt e1 S1).bind fun y S2 => (lcV t c elt e0 x k (i + 1) S2).bind fun ys S3 => .ok (y :: ys) S3 else lcV t c elt e0 x k (i + 1) S1
def rLcV (fin : List D → Store → Res D) (a : RE) (t : Tg) (vs : List Nat) (c : RT) (elt : RE) (k : Nat) : RE := fun e S => (rLive a e S).bind fun x S1 => if k ≤ sizeLine then (lcV t c elt (wipeE e vs) x k 0 S1).calm.bind fin else .bad
section
variable {X : Cx} {C : Nat → Addr} {W : WX} {elt tg iter : Expr} {ifs : List Expr} {scope : Scope} {own : List (Str × Nat)} {pos : Pos} {ra : RE} {t : Tg} {rc : RT} {re : RE} {fin : List D → Store → Res D}
theorem lcV_read (k : Nat) (hfin : FinOk fin) (sg : L2.St) (H : Hp) (Q : VK) (vs : List Nat) (hv : ∀ i ∈ t.ixs, i ∈ vs) (h : tE X.K C W (rLcV fin ra t vs rc re k) sg H Q) :
    tLc (tR X.K C (WkV X.K C) W (rLive ra)) (gTg X.K C t)
      (tT X.K C (fun _ _ _ _ => False) rc) (tE X.K C (fun _ _ _ _ => False) re) vs sg H Q := by
  refine (tR.seq1 (R := WkV X.K C) (fun e x S1 => if k ≤ sizeLine then (lcV t rc re (wipeE e vs) x k 0 S1).calm.bind fin else .bad) h fun _ _ => rfl).mono fun J H1 ⟨e, S, io, x, dn, sl, wk, post⟩ => ?_
  split at post
  · rename_i hz
    intro p hp
    let Done : List D → Store → Prop := fun ys S2 => Post X.K C (RepR X.K C) W sg io H1 (fin ys S2) Q
    refine ⟨fun i m H' => m + i = k ∧ ∃ S' io' acc ys, (∀ (n : Nat) (a : Addr), io.l[n]? = some a → io'.l[n]? = some a) ∧ io'.h = io.h ∧ Same (Fz io H1) (Fz (io'.hide p (.lst acc)) H') ∧
        Den X.K C (io'.hide p (.lst acc)) S' H' ∧ Reps X.K C io' (Fz (io'.hide p (.lst acc)) H') ys acc ∧ acc.length ≤ i ∧ ∃ zs S2, lcV t rc re (wipeE e vs) x m i S' = .ok zs S2 ∧ Done (ys ++ zs) S2,
      ⟨k, rfl, S, io, [], [], fun _ _ h => h, rfl, by rw [Fz_hide hp]; exact fun _ _ h => h, dn.hide hp rfl, .nil, Nat.le_refl _, ?_⟩, fun i m H' ⟨hm, S', io', acc, ys, h1, h2, h3, d', rs, hl, zs, S2, hlc, hd⟩ => ?_⟩
    · cases q : lcV t rc re (wipeE e vs) x k 0 S with
      | ok zs S2 => rw [q] at post; exact ⟨zs, S2, rfl, post⟩
      | err x S2 => rw [q] at post; exact post.elim
      | bad => rw [q] at post; exact post.elim
    obtain ⟨stop, step⟩ := wk (io'.hide p (.lst acc)) H' S' h1 h3 d' i
    cases m with
    | zero => cases hlc
    | succ m =>
    unfold lcV at hlc
    cases hq : itemAt S' x i with
    | none => rw [hq] at hlc; cases hlc
    | some o =>
    rw [hq] at hlc
    cases o with
    | none =>
      cases hlc
      rw [List.append_nil] at hd
      exact .inl ⟨stop hq, hfin X.K C W sg io io' H1 H' S' p ys acc Q h1 h2 h3 d' rs hd⟩
    | some d =>
      obtain ⟨go, yld⟩ := step d hq
      refine .inr ⟨go, fun H2 => ∃ S' io' acc ys, (∀ (n : Nat) (a : Addr), io.l[n]? = some a → io'.l[n]? = some a) ∧ io'.h = io.h ∧ Same (Fz io H1) (Fz (io'.hide p (.lst acc)) H2) ∧
        Den X.K C (io'.hide p (.lst acc)) S' H2 ∧ Reps X.K C io' (Fz (io'.hide p (.lst acc)) H2) ys acc ∧ acc.length ≤ i + 1 ∧ ∃ zs S2, lcV t rc re (wipeE e vs) x m (i + 1) S' = .ok zs S2 ∧ Done (ys ++ zs) S2, fun H2 h2 => ⟨m, by omega, by omega, h2⟩, fun v0 H2 y => ?_⟩
      obtain ⟨x2, d2, r2⟩ := yld v0 H2 y
      cases hb : bindT S' d (wipeE e vs) t with
      | none => simp only [hb] at hlc; cases hlc
      | some e1 =>
        simp only [hb] at hlc
        have hs2 : Slots X.K C (io'.hide p (.lst acc)) (Fz (io'.hide p (.lst acc)) H2) (wipeE e vs) (wipe sg vs) := by
          have s0 := sl.wipe vs
          refine ⟨s0.len, fun j q hq => ?_⟩
          obtain ⟨v, v1, v2⟩ := s0.get j q hq
          exact ⟨v, v1, (v2.mono (io' := io'.hide p (.lst acc)) h1 h3).mono (fun _ _ z => z) x2.same⟩
        refine ⟨wipeE e vs, S', io'.hide p (.lst acc), d, e1, d2, hs2, r2, hb, fun sg3 s3 ag => ⟨?_, e1, S', io'.hide p (.lst acc), d2, s3, ?_⟩⟩
        · rw [ag vs hv]
          have : ∀ s : L2.St, wipe (wipe s vs) vs = wipe s vs := fun s => by
            apply List.ext_getElem?
            intro j
            rw [wipe_get, wipe_get, wipe_length]
            by_cases hj : j ∈ vs <;> simp [hj]
          exact this sg
        cases hc : rc e1 S' with
        | err y Sy => rw [hc] at hlc; cases hlc
        | bad => rw [hc] at hlc; cases hlc
        | ok k S3 =>
          rw [hc] at hlc
          intro b H3 io3 x3 d3 eb
          cases eb
          have hh3 : io3.h = (p, HO.lst acc) :: io'.h := x3.hid
          have e3 : io3 = (⟨io3.l, io'.h⟩ : Io).hide p (.lst acc) := by unfold Io.hide; rw [← hh3]
          cases k with
          | false =>
            replace hlc : lcV t rc re (wipeE e vs) x m (i + 1) S3 = .ok zs S2 := hlc
            rw [if_neg Bool.false_ne_true]
            have px := x2.trans x3
            refine ⟨S3, ⟨io3.l, io'.h⟩, acc, ys, fun n a hn => px.pre n a (h1 n a hn), h2, ?_, ?_, ?_, by omega, zs, S2, hlc, hd⟩
            · rw [← e3]; exact h3.trans px.same
            · rw [← e3]; exact d3
            · rw [← e3]; exact rs.mono (io := io') (io' := ⟨io3.l, io'.h⟩) px.pre px.same
          | true =>
            replace hlc : ((re e1 S3).bind fun y S2 => (lcV t rc re (wipeE e vs) x m (i + 1) S2).bind fun ys S3 => Res.ok (y :: ys) S3) = .ok zs S2 := hlc
            rw [if_pos rfl]
            refine ⟨e1, S3, io3, d3, s3.ext x3, ?_⟩
            cases he : re e1 S3 with
            | err y Sy => rw [he] at hlc; cases hlc
            | bad => rw [he] at hlc; cases hlc
            | ok y1 S4 =>
              rw [he] at hlc
              replace hlc : ((lcV t rc re (wipeE e vs) x m (i + 1) S4).bind fun ys S3 => Res.ok (y1 :: ys) S3) = .ok zs S2 := hlc
              intro v H4 io4 x4 d4 r4
              have hh4 : io4.h = (p, HO.lst acc) :: io'.h := x4.hid.trans hh3
              have e4 : io4 = (⟨io4.l, io'.h⟩ : Io).hide p (.lst acc) := by unfold Io.hide; rw [← hh4]
              have px := (x2.trans x3).trans x4
              have hD : H4 p = some (.lst acc) := (d4.hid (p, .lst acc) (by rw [hh4]; exact List.mem_cons_self)).1
              refine ⟨acc, hD, by omega, ?_⟩
              cases hr : lcV t rc re (wipeE e vs) x m (i + 1) S4 with
              | err q Sq => rw [hr] at hlc; cases hlc
              | bad => rw [hr] at hlc; cases hlc
              | ok zs' S5 =>
                rw [hr] at hlc
                cases hlc
                have fz : Fz ((⟨io4.l, io'.h⟩ : Io).hide p (.lst (acc ++ [v]))) (upd H4 p (.lst (acc ++ [v]))) = Fz io4 H4 := by
                  rw [Fz_hide_put (o := .lst acc), ← e4]
                refine ⟨S4, ⟨io4.l, io'.h⟩, acc ++ [v], ys ++ [y1], fun n a hn => px.pre n a (h1 n a hn), h2, ?_, ?_, ?_, by simp; omega, zs', S2, hr, by rw [List.append_assoc]; exact hd⟩
                · rw [fz]; exact h3.trans px.same
                · rw [e4] at d4
                  exact d4.rehide rfl
                · rw [fz]
                  exact (rs.mono (io := io') (io' := ⟨io4.l, io'.h⟩) px.pre px.same).append (.cons (r4.mono (io := io4) (io' := ⟨io4.l, io'.h⟩) (fun _ _ z => z) fun _ _ z => z) .nil)
  · exact post.elim
theorem ee_lcV (k : Nat) {vs : List Nat} (hfin : FinOk fin) (hc : X.calm = true) (hN : X.N.Nodup) (hi : PI X tg iter (tR X.K C (WkV X.K C) W (rLive ra))) (ok : BlkOk X.N X.env.scope scope own) (hw : own.map (·.2) = vs) (hv : ∀ i ∈ t.ixs, i ∈ vs)
    (hg : ∀ (s : Shared) (H : Hp) (A : Addr) (cl : List (Str × Addr)) (fp : List Addr), GD (X.blk s H scope (compEnvC scope cl A X.env) fp) C tg t)
    (ht : ∀ (s : Shared) (H : Hp) (A : Addr) (cl : List (Str × Addr)) (fp : List Addr), PTs (X.blk s H scope (compEnvC scope cl A X.env) fp) ifs (tT X.K C (fun _ _ _ _ => False) rc))
    (he : ∀ (s : Shared) (H : Hp) (A : Addr) (cl : List (Str × Addr)) (fp : List Addr), PE (X.blk s H scope (compEnvC scope cl A X.env) fp) elt (tE X.K C (fun _ _ _ _ => False) re)) (hs : ∀ x, foldedSetIterable iter X.env x = pure x := by intro _; rfl) :
    PE X (.ListComp elt [⟨tg, iter, ifs, 0⟩] scope pos) (tE X.K C W (rLcV fin ra t vs rc re k)) := by
  subst hw
  exact (pe_lc (g := gTg X.K C t) hc hN hi ok hg ht he hs).imp fun sg H Q h => lcV_read k hfin sg H Q _ hv h
theorem s_setLcV (i k : Nat) {vs : List Nat} {y : Str} {py spos : Pos} (hfin : FinOk fin) (hc : X.calm = true) (hN : X.N.Nodup) (hsw : swapsWith (.ListComp elt [⟨tg, iter, ifs, 0⟩] scope pos) (some (.Name y py)) spos.line X.env = pure true)
    (hi : PI X tg iter (tR X.K C (WkV X.K C) W (rLive ra))) (ok : BlkOk X.N X.env.scope scope own) (hw : own.map (·.2) = vs) (hv : ∀ i ∈ t.ixs, i ∈ vs)
    (hg : ∀ (s : Shared) (H : Hp) (A : Addr) (cl : List (Str × Addr)) (fp : List Addr), GD (X.blk s H scope (compEnvC scope cl A X.env) fp) C tg t)
    (ht : ∀ (s : Shared) (H : Hp) (A : Addr) (cl : List (Str × Addr)) (fp : List Addr), PTs (X.blk s H scope (compEnvC scope cl A X.env) fp) ifs (tT X.K C (fun _ _ _ _ => False) rc))
    (he : ∀ (s : Shared) (H : Hp) (A : Addr) (cl : List (Str × Addr)) (fp : List Addr), PE (X.blk s H scope (compEnvC scope cl A X.env) fp) elt (tE X.K C (fun _ _ _ _ => False) re)) (hs : ∀ x, foldedSetIterable iter X.env x = pure x := by intro _; rfl)
    (hy : X.N[i]? = some y := by rfl) (hyl : X.env.scope.names.lookup y = some .local := by rfl) :
    PS X (.Assign [.Name y py] (.ListComp elt [⟨tg, iter, ifs, 0⟩] scope pos) spos) (tS X.K C W (sSet i (rLcV fin ra t vs rc re k))) := by
  subst hw
  exact (ps_setLc (g := gTg X.K C t) hc hN hy hyl hsw hi ok hg ht he hs).imp fun Dn sg H h => lcV_read k hfin sg H _ _ hv ((tS.seq (R := RepR X.K C) (fun e d S1 => .nx (e.set i (some d)) S1) h fun _ _ => rfl).mono fun v H1 ⟨e, S, io, k1, d, s, q, p⟩ => p _ H1 io (Ext.refl _ _) d (s.set i q))
end
/-! ### two lists glued to a list of the store -/
def rAddM (a b : RE) : RE := fun e S => (a e S).bind fun x S1 => (b e S1).bind fun y S2 => match asL S2 x, asL S2 y with
  | some xs, some ys => if xs.length + ys.length ≤ sizeLine then .ok (.loc S2.length) (S2 ++ [.lst (xs ++ ys)]) else .bad
  | _, _ => .bad
section
variable {X : Cx} {C : Nat → Addr} {W : WX} {a b : Expr} {ra rb : RE} {pos : Pos}
theorem ee_addM (ha : PE X a (tE X.K C W ra)) (hb : PE X b (tE X.K C W rb)) : PE X (.BinOp a .Add b pos) (tE X.K C W (rAddM ra rb)) :=
  (pe_op op_catL ha hb).imp fun sg H Q h => (tR.seq2 repM (fun _ x y S2 => match asL S2 x, asL S2 y with
  | some xs, some ys => if xs.length + ys.length ≤ sizeLine then .ok (.loc S2.length) (S2 ++ [.lst (xs ++ ys)]) else .bad
  | _, _ => .bad) h fun _ _ => rfl).mono fun x H1 h1 => h1.mono fun y H2 ⟨e, S, io, x1, y1, dn, s, r1, r2, p⟩ => by
    split at p
    · rename_i xs ys e1 e2
      split at p
      · rename_i hz
        obtain ⟨p1, v1, rfl, h1, r1⟩ := asL_rep e1 dn r1
        obtain ⟨p2, v2, rfl, h2, r2⟩ := asL_rep e2 dn r2
        have l1 := r1.length
        have l2 := r2.length
        refine ⟨_, _, _, _, rfl, rfl, h1, h2, by omega, fun q hq => ?_⟩
        obtain ⟨x1, d1, r1⟩ := new_lstM dn (r1.append r2) hq
        exact p _ _ _ x1 d1 r1
      · exact p.elim
    · exact p.elim
end
end Ev
namespace Ev
open PySem PySem.Spec L2
section
variable {e : Env} {S : Store} {A B : Type}
@[simp] theorem bind_ok (a : A) (S : Store) (f : A → Store → Res B) : (Res.ok a S).bind f = f a S := (rfl)
@[simp] theorem bind_err (x : Exn) (S : Store) (f : A → Store → Res B) : (Res.err x S).bind f = .err x S := (rfl)
@[simp] theorem fl_ok (a : A) (S : Store) (f : A → Store → Fl) : (Res.ok a S).fl e f = f a S := (rfl)
@[simp] theorem fl_err (x : Exn) (S : Store) (f : A → Store → Fl) : (Res.err x S).fl e f = .er x e S := (rfl)
@[simp] theorem then_nx (k : RS) : (Fl.nx e S).andThen k = k e S := (rfl)
@[simp] theorem then_rt (d : D) (k : RS) : (Fl.rt d S).andThen k = .rt d S := (rfl)
@[simp] theorem then_er (x : Exn) (k : RS) : (Fl.er x e S).andThen k = .er x e S := (rfl)
@[simp] theorem bind_bad (f : A → Store → Res B) : (Res.bad : Res A).bind f = .bad := (rfl)
@[simp] theorem fl_bad (f : A → Store → Fl) : (Res.bad : Res A).fl e f = .bad := (rfl)
@[simp] theorem then_bad (k : RS) : (Fl.bad).andThen k = .bad := (rfl)
@[simp] theorem ofO_none : (ofO none S : Res A) = .bad := (rfl)
@[simp] theorem res_nx : (Fl.nx e S).res = .ok .non S := (rfl)
@[simp] theorem res_rt (d : D) : (Fl.rt d S).res = .ok d S := (rfl)
@[simp] theorem res_er (x : Exn) : (Fl.er x e S).res = .err x S := (rfl)
@[simp] theorem res_ite {c : Prop} [Decidable c] (a b : Fl) : (if c then a else b).res = if c then a.res else b.res := by split <;> rfl
@[simp] theorem then_ite {c : Prop} [Decidable c] (a b : Fl) (k : RS) : (if c then a else b).andThen k = if c then a.andThen k else b.andThen k := by split <;> rfl
@[simp] theorem bind_ite {c : Prop} [Decidable c] (a b : Res A) (k : A → Store → Res B) : (if c then a else b).bind k = if c then a.bind k else b.bind k := by split <;> rfl
@[simp] theorem fl_ite {c : Prop} [Decidable c] (a b : Res A) (k : A → Store → Fl) : (if c then a else b).fl e k = if c then a.fl e k else b.fl e k := by split <;> rfl
@[simp] theorem ofO_some (a : A) : ofO (some a) S = .ok a S := (rfl)
@[simp] theorem rCon_eq (d : D) : rCon d e S = .ok d S := (rfl)
@[simp] theorem rVar_eq (i : Nat) : rVar i e S = match e[i]? with | some (some d) => .ok d S | _ => .bad := (rfl)
@[simp] theorem rBin_eq (f : Store → D → D → Option D) (a b : RE) : rBin f a b e S = (a e S).bind fun x S1 => (b e S1).bind fun y S2 => ofO (f S2 x y) S2 := (rfl)
@[simp] theorem rUn_eq (f : Store → D → Option D) (a : RE) : rUn f a e S = (a e S).bind fun x S1 => ofO (f S1 x) S1 := (rfl)
@[simp] theorem rCal_eq (f : Store → List D → Option D) (a : RA) : rCal f a e S = (a e S).bind fun xs S1 => ofO (f S1 xs) S1 := (rfl)
@[simp] theorem rCall_eq (g : List D → Store → Res D) (a : RA) : rCall g a e S = (a e S).bind fun xs S1 => g xs S1 := (rfl)
@[simp] theorem rCallK_eq (g : List D → Store → Res D) (src : List Src) (as ks : RA) : rCallK g src as ks e S = (as e S).bind fun ds S1 => (ks e S1).bind fun es S2 => match pick ds es src with | some zs => g zs S2 | none => .bad := (rfl)
@[simp] theorem pick_nil (us ws : List D) : pick us ws [] = some [] := (rfl)
@[simp] theorem pick_cons (us ws : List D) (q : Src) (r : List Src) : pick us ws (q :: r) = (pick1 us ws q).bind fun x => (pick us ws r).bind fun xs => some (x :: xs) := (rfl)
@[simp] theorem pick1_p (us ws : List D) (i : Nat) : pick1 us ws (.p i) = us[i]? := (rfl)
@[simp] theorem pick1_k (us ws : List D) (i : Nat) : pick1 us ws (.k i) = ws[i]? := (rfl)
@[simp] theorem pick1_c (us ws : List D) (d : D) : pick1 us ws (.c d) = some d := (rfl)
@[simp] theorem rNil_eq : rNil e S = .ok [] S := (rfl)
@[simp] theorem rCons_eq (a : RE) (r : RA) : rCons a r e S = (a e S).bind fun x S1 => (r e S1).bind fun xs S2 => .ok (x :: xs) S2 := (rfl)
@[simp] theorem rTup_eq (r : RA) : rTup r e S = (r e S).bind fun xs S1 => .ok (.tup xs) S1 := (rfl)
@[simp] theorem rLst_eq (r : RA) : rLst r e S = (r e S).bind fun xs S1 => .ok (.lst xs) S1 := (rfl)
@[simp] theorem rLstM_eq (r : RA) : rLstM r e S = (r e S).bind fun xs S1 => .ok (.loc S1.length) (S1 ++ [.lst xs]) := (rfl)
@[simp] theorem rAddM_eq (a b : RE) : rAddM a b e S = (a e S).bind fun x S1 => (b e S1).bind fun y S2 => match asL S2 x, asL S2 y with
  | some xs, some ys => if xs.length + ys.length ≤ sizeLine then .ok (.loc S2.length) (S2 ++ [.lst (xs ++ ys)]) else .bad
  | _, _ => .bad := (rfl)
@[simp] theorem rDct0_eq : rDct0 e S = .ok (.dct [] []) S := (rfl)
@[simp] theorem rAnd_eq (a b : RE) : rAnd a b e S = (a e S).bind fun x S1 => (ofO (truthD S1 x) S1).bind fun k S2 => if k = true then b e S2 else .ok x S2 := (rfl)
@[simp] theorem rOr_eq (a b : RE) : rOr a b e S = (a e S).bind fun x S1 => (ofO (truthD S1 x) S1).bind fun k S2 => if k = true then .ok x S2 else b e S2 := (rfl)
@[simp] theorem rNot_eq (a : RE) : rNot a e S = (a e S).bind fun x S1 => (ofO (truthD S1 x) S1).bind fun k S2 => .ok (.bl (!k)) S2 := (rfl)
@[simp] theorem rIf_eq (t : RT) (a b : RE) : rIf t a b e S = (t e S).bind fun k S1 => if k = true then a e S1 else b e S1 := (rfl)
@[simp] theorem rTest_eq (a : RE) : rTest a e S = (a e S).bind fun x S1 => ofO (asB x) S1 := (rfl)
@[simp] theorem rTruth_eq (a : RE) : rTruth a e S = (a e S).bind fun x S1 => ofO (truthD S1 x) S1 := (rfl)
@[simp] theorem rAndT_eq (a b : RT) : rAndT a b e S = (a e S).bind fun k S1 => if k = true then b e S1 else .ok false S1 := (rfl)
@[simp] theorem rOrT_eq (a b : RT) : rOrT a b e S = (a e S).bind fun k S1 => if k = true then .ok true S1 else b e S1 := (rfl)
@[simp] theorem rNotT_eq (a : RT) : rNotT a e S = (a e S).bind fun k S1 => .ok (!k) S1 := (rfl)
@[simp] theorem rChain_eq (a : RE) (k : RC) : rChain a k e S = (a e S).bind fun x S1 => k x e S1 := (rfl)
@[simp] theorem rLast_eq (f : Store → D → D → Option D) (b : RE) (x : D) : rLast f b x e S = (b e S).bind fun y S1 => ofO (f S1 x y) S1 := (rfl)
@[simp] theorem rLink_eq (f : Store → D → D → Option D) (b : RE) (k : RC) (x : D) : rLink f b k x e S = (b e S).bind fun y S1 => (ofO ((f S1 x y).bind asB) S1).bind fun t S2 => if t = true then k y e S2 else .ok (.bl false) S2 := (rfl)
@[simp] theorem rSl_eq (a : RE) (lo hi : RO) : rSl a lo hi e S = (a e S).bind fun x S1 => (lo e S1).bind fun l S2 => (hi e S2).bind fun h S3 => ofO (slD S3 x l h) S3 := (rfl)
@[simp] theorem rNoP_eq : rNoP e S = .ok none S := (rfl)
@[simp] theorem rPart_eq (a : RE) : rPart a e S = (a e S).bind fun x S1 => (ofO (asI x) S1).bind fun i S2 => .ok (some i) S2 := (rfl)
@[simp] theorem sNil_eq : sNil e S = .nx e S := (rfl)
@[simp] theorem sSeq_eq (a b : RS) : sSeq a b e S = (a e S).andThen b := (rfl)
@[simp] theorem sIf_eq (t : RT) (a b : RS) : sIf t a b e S = (t e S).fl e fun k S1 => if k = true then a e S1 else b e S1 := (rfl)
@[simp] theorem sRet_eq (a : RE) : sRet a e S = (a e S).fl e fun d S1 => .rt d S1 := (rfl)
@[simp] theorem sRetN_eq : sRetN e S = .rt .non S := (rfl)
@[simp] theorem sExp_eq (a : RE) : sExp a e S = (a e S).fl e fun _ S1 => .nx e S1 := (rfl)
@[simp] theorem sSet_eq (i : Nat) (a : RE) : sSet i a e S = (a e S).fl e fun d S1 => .nx (e.set i (some d)) S1 := (rfl)
@[simp] theorem sAsg_eq (t : Tg) (a : RE) : sAsg t a e S = (a e S).fl e fun d S1 => match bindT S1 d e t with | some e' => .nx e' S1 | none => .bad := (rfl)
@[simp] theorem sPar_eq (is : List Nat) (as : RA) : sPar is as e S = (as e S).fl e fun ds S1 => if ds.length = is.length then .nx (setAll is ds e) S1 else .bad := (rfl)
@[simp] theorem sPutIx_eq (a o i : RE) : sPutIx a o i e S = (a e S).fl e fun v S1 => (o e S1).fl e fun x S2 => (i e S2).fl e fun y S3 => match putIx S3 x y v with | some S4 => .nx e S4 | none => .bad := (rfl)
@[simp] theorem sAug_eq (i : Nat) (f : Store → D → D → Option D) (a : RE) : sAug i f a e S = match e[i]? with
  | some (some x) => (a e S).fl e fun y S1 => match f S1 x y with
    | some z => .nx (e.set i (some z)) S1
    | none => .bad
  | _ => .bad := (rfl)
@[simp] theorem sFor_eq (it : RA) (t : Tg) (body : RS) : sFor it t body e S = (it e S).fl e fun ds S1 => forL t body ds e S1 := (rfl)
@[simp] theorem rLive_eq (a : RE) : rLive a e S = (a e S).bind fun d S1 => if okIt S1 d = true then .ok d S1 else .bad := (rfl)
@[simp] theorem sForV_eq (a : RE) (t : Tg) (body : RS) (k : Nat) : sForV a t body k e S = (rLive a e S).fl e fun x S1 => forV t body x k 0 e S1 := (rfl)
@[simp] theorem rIt_eq (a : RE) : rIt a e S = (a e S).bind fun d S1 => ofO (itemsD d) S1 := (rfl)
@[simp] theorem rRan_eq (f : List D → Option (List D)) (as : RA) : rRan f as e S = (as e S).bind fun ds S1 => ofO (f ds) S1 := (rfl)
@[simp] theorem sRaise0_eq (c : Nat) : sRaise0 c e S = .er ⟨c, [], []⟩ e S := (rfl)
@[simp] theorem sTryAs_eq (sub : Nat → Option Bool) (i : Nat) (body suite : RS) : sTryAs sub i body suite e S = match body e S with
  | .er x e1 S1 => catchAs sub i suite x e1 S1
  | f => f := (rfl)
@[simp] theorem sTryOnly_eq (sub : Nat → Option Bool) (body suite : RS) : sTryOnly sub body suite e S = match body e S with
  | .er x e1 S1 => catchOnly sub suite x e1 S1
  | f => f := (rfl)
@[simp] theorem setAll_cons {A : Type} (i : Nat) (is : List Nat) (d : A) (ds : List A) (e : List (Option A)) : setAll (i :: is) (d :: ds) e = setAll is ds (e.set i (some d)) := (rfl)
@[simp] theorem setAll_nil {A : Type} (ds : List A) (e : List (Option A)) : setAll [] ds e = e := by cases ds <;> rfl
@[simp] theorem bindT_nm (d : D) (i : Nat) : bindT S d e (.nm i) = some (e.set i (some d)) := (rfl)
@[simp] theorem bindT_tp (d : D) (is : List Nat) : bindT S d e (.tp is) = (parts S d).bind fun ds => if ds.length = is.length then some (setAll is ds e) else none := (rfl)
@[simp] theorem parts_tup (xs : List D) : parts S (.tup xs) = some xs := (rfl)
@[simp] theorem parts_lst (xs : List D) : parts S (.lst xs) = some xs := (rfl)
@[simp] theorem itemsD_tup (xs : List D) : itemsD (.tup xs) = some xs := (rfl)
@[simp] theorem itemsD_lst (xs : List D) : itemsD (.lst xs) = some xs := (rfl)
@[simp] theorem asB_bl (b : Bool) : asB (.bl b) = some b := (rfl)
@[simp] theorem asI_int (i : Int) : asI (.int i) = some i := (rfl)
@[simp] theorem truthD_bl (b : Bool) : truthD S (.bl b) = some b := (rfl)
@[simp] theorem truthD_int (i : Int) : truthD S (.int i) = some (i != 0) := (rfl)
@[simp] theorem truthD_non : truthD S .non = some false := (rfl)
@[simp] theorem asL_lst (xs : List D) : asL S (.lst xs) = some xs := (rfl)
@[simp] theorem asL_loc (n : Nat) : asL S (.loc n) = match S[n]? with | some (.lst xs) => some xs | _ => none := (rfl)
@[simp] theorem addD_int (i j : Int) : addD S (.int i) (.int j) = some (.int (i + j)) := (rfl)
@[simp] theorem i2_int (c : Int → Int → Bool) (g : Int → Int → D) (i j : Int) : i2 c g S (.int i) (.int j) = if c i j = true then some (g i j) else none := (rfl)
@[simp] theorem subD_int (i j : Int) : subD S (.int i) (.int j) = some (.int (i - j)) := (rfl)
@[simp] theorem mulD_int (i j : Int) : mulD S (.int i) (.int j) = if mulOk i j = true then some (.int (i * j)) else none := (rfl)
@[simp] theorem divD_int (i j : Int) : divD S (.int i) (.int j) = if (decide (0 < j) && decide (j < 18446744073709551616)) = true then some (.int (i / j)) else none := (rfl)
@[simp] theorem modD_int (i j : Int) : modD S (.int i) (.int j) = if decide (0 < j) = true then some (.int (i % j)) else none := (rfl)
@[simp] theorem powD_int (i j : Int) : powD S (.int i) (.int j) = if powOk i j = true then some (.int (i ^ j.toNat)) else none := (rfl)
@[simp] theorem shlD_int (i j : Int) : shlD S (.int i) (.int j) = if powOk i j = true then some (.int (i * 2 ^ j.toNat)) else none := (rfl)
@[simp] theorem shrD_int (i j : Int) : shrD S (.int i) (.int j) = if decide (0 ≤ j) = true then some (.int (i / 2 ^ j.toNat)) else none := (rfl)
@[simp] theorem andD_int (i j : Int) : andD S (.int i) (.int j) = some (.int (Builtin.bitAnd i j)) := (rfl)
@[simp] theorem orD_int (i j : Int) : orD S (.int i) (.int j) = some (.int (Builtin.bitOr i j)) := (rfl)
@[simp] theorem xorD_int (i j : Int) : xorD S (.int i) (.int j) = some (.int (Builtin.bitXor i j)) := (rfl)
@[simp] theorem ltD_int (i j : Int) : ltD S (.int i) (.int j) = some (.bl (decide (i < j))) := (rfl)
@[simp] theorem leD_int (i j : Int) : leD S (.int i) (.int j) = some (.bl (decide (i ≤ j))) := (rfl)
@[simp] theorem gtD_int (i j : Int) : gtD S (.int i) (.int j) = some (.bl (decide (j < i))) := (rfl)
@[simp] theorem geD_int (i j : Int) : geD S (.int i) (.int j) = some (.bl (decide (j ≤ i))) := (rfl)
@[simp] theorem negD_int (i : Int) : negD S (.int i) = some (.int (-i)) := (rfl)
@[simp] theorem absD_int (i : Int) : absD S [.int i] = some (.int (if i < 0 then -i else i)) := (rfl)
@[simp] theorem intD_int (i : Int) : intD S [.int i] = some (.int i) := (rfl)
@[simp] theorem intD_bl (b : Bool) : intD S [.bl b] = some (.int (if b = true then 1 else 0)) := by cases b <;> rfl
@[simp] theorem maxD2_int (i j : Int) : maxD2 S [.int i, .int j] = some (.int (if j > i then j else i)) := (rfl)
@[simp] theorem minD2_int (i j : Int) : minD2 S [.int i, .int j] = some (.int (if j < i then j else i)) := (rfl)
@[simp] theorem listT_lst (xs : List D) : listT S [.lst xs] = some (.lst xs) := (rfl)
@[simp] theorem listT_tup (xs : List D) : listT S [.tup xs] = some (.lst xs) := (rfl)
@[simp] theorem listT_str (x : Str) : listT S [.str x] = if x.length ≤ sizeLine then some (.lst (signsD x)) else none := (rfl)
@[simp] theorem listT_loc (n : Nat) : listT S [.loc n] = (asL S (.loc n)).bind fun xs => some (.lst xs) := (rfl)
@[simp] theorem lenD_lst (xs : List D) : lenD S [.lst xs] = some (.int xs.length) := (rfl)
@[simp] theorem lenD_tup (xs : List D) : lenD S [.tup xs] = some (.int xs.length) := (rfl)
theorem isiD_of {T t : String} {d : D} {b : Bool} (h1 : tyD S d = some t) (h2 : kitB t T = some b) : isiD T S d = some (.bl b) := by
  unfold isiD; rw [h1, Option.bind_some, h2, Option.bind_some]
@[simp] theorem isi_int_non : isiD "int" S .non = some (.bl false) := isiD_of rfl (by decide +kernel)
@[simp] theorem isi_int_bl (b : Bool) : isiD "int" S (.bl b) = some (.bl true) := isiD_of rfl (by decide +kernel)
@[simp] theorem isi_int_int (i : Int) : isiD "int" S (.int i) = some (.bl true) := isiD_of rfl (by decide +kernel)
@[simp] theorem isi_int_str (x : Str) : isiD "int" S (.str x) = some (.bl false) := isiD_of rfl (by decide +kernel)
@[simp] theorem isi_int_tup (xs : List D) : isiD "int" S (.tup xs) = some (.bl false) := isiD_of rfl (by decide +kernel)
@[simp] theorem isi_int_lst (xs : List D) : isiD "int" S (.lst xs) = some (.bl false) := isiD_of rfl (by decide +kernel)
@[simp] theorem isi_int_dct (ks : List Key) (xs : List D) : isiD "int" S (.dct ks xs) = some (.bl false) := isiD_of rfl (by decide +kernel)
@[simp] theorem isi_bool_non : isiD "bool" S .non = some (.bl false) := isiD_of rfl (by decide +kernel)
@[simp] theorem isi_bool_bl (b : Bool) : isiD "bool" S (.bl b) = some (.bl true) := isiD_of rfl (by decide +kernel)
@[simp] theorem isi_bool_int (i : Int) : isiD "bool" S (.int i) = some (.bl false) := isiD_of rfl (by decide +kernel)
@[simp] theorem isi_bool_str (x : Str) : isiD "bool" S (.str x) = some (.bl false) := isiD_of rfl (by decide +kernel)
@[simp] theorem isi_bool_tup (xs : List D) : isiD "bool" S (.tup xs) = some (.bl false) := isiD_of rfl (by decide +kernel)
@[simp] theorem isi_bool_lst (xs : List D) : isiD "bool" S (.lst xs) = some (.bl false) := isiD_of rfl (by decide +kernel)
@[simp] theorem isi_bool_dct (ks : List Key) (xs : List D) : isiD "bool" S (.dct ks xs) = some (.bl false) := isiD_of rfl (by decide +kernel)
@[simp] theorem isi_str_non : isiD "str" S .non = some (.bl false) := isiD_of rfl (by decide +kernel)
@[simp] theorem isi_str_bl (b : Bool) : isiD "str" S (.bl b) = some (.bl false) := isiD_of rfl (by decide +kernel)
@[simp] theorem isi_str_int (i : Int) : isiD "str" S (.int i) = some (.bl false) := isiD_of rfl (by decide +kernel)
@[simp] theorem isi_str_str (x : Str) : isiD "str" S (.str x) = some (.bl true) := isiD_of rfl (by decide +kernel)
@[simp] theorem isi_str_tup (xs : List D) : isiD "str" S (.tup xs) = some (.bl false) := isiD_of rfl (by decide +kernel)
@[simp] theorem isi_str_lst (xs : List D) : isiD "str" S (.lst xs) = some (.bl false) := isiD_of rfl (by decide +kernel)
@[simp] theorem isi_str_dct (ks : List Key) (xs : List D) : isiD "str" S (.dct ks xs) = some (.bl false) := isiD_of rfl (by decide +kernel)
@[simp] theorem isi_tuple_non : isiD "tuple" S .non = some (.bl false) := isiD_of rfl (by decide +kernel)
@[simp] theorem isi_tuple_bl (b : Bool) : isiD "tuple" S (.bl b) = some (.bl false) := isiD_of rfl (by decide +kernel)
@[simp] theorem isi_tuple_int (i : Int) : isiD "tuple" S (.int i) = some (.bl false) := isiD_of rfl (by decide +kernel)
@[simp] theorem isi_tuple_str (x : Str) : isiD "tuple" S (.str x) = some (.bl false) := isiD_of rfl (by decide +kernel)
@[simp] theorem isi_tuple_tup (xs : List D) : isiD "tuple" S (.tup xs) = some (.bl true) := isiD_of rfl (by decide +kernel)
@[simp] theorem isi_tuple_lst (xs : List D) : isiD "tuple" S (.lst xs) = some (.bl false) := isiD_of rfl (by decide +kernel)
@[simp] theorem isi_tuple_dct (ks : List Key) (xs : List D) : isiD "tuple" S (.dct ks xs) = some (.bl false) := isiD_of rfl (by decide +kernel)
@[simp] theorem isi_list_non : isiD "list" S .non = some (.bl false) := isiD_of rfl (by decide +kernel)
@[simp] theorem isi_list_bl (b : Bool) : isiD "list" S (.bl b) = some (.bl false) := isiD_of rfl (by decide +kernel)
@[simp] theorem isi_list_int (i : Int) : isiD "list" S (.int i) = some (.bl false) := isiD_of rfl (by decide +kernel)
@[simp] theorem isi_list_str (x : Str) : isiD "list" S (.str x) = some (.bl false) := isiD_of rfl (by decide +kernel)
@[simp] theorem isi_list_tup (xs : List D) : isiD "list" S (.tup xs) = some (.bl false) := isiD_of rfl (by decide +kernel)
@[simp] theorem isi_list_lst (xs : List D) : isiD "list" S (.lst xs) = some (.bl true) := isiD_of rfl (by decide +kernel)
@[simp] theorem isi_list_dct (ks : List Key) (xs : List D) : isiD "list" S (.dct ks xs) = some (.bl false) := isiD_of rfl (by decide +kernel)
@[simp] theorem isi_dict_non : isiD "dict" S .non = some (.bl false) := isiD_of rfl (by decide +kernel)
@[simp] theorem isi_dict_bl (b : Bool) : isiD "dict" S (.bl b) = some (.bl false) := isiD_of rfl (by decide +kernel)
@[simp] theorem isi_dict_int (i : Int) : isiD "dict" S (.int i) = some (.bl false) := isiD_of rfl (by decide +kernel)
@[simp] theorem isi_dict_str (x : Str) : isiD "dict" S (.str x) = some (.bl false) := isiD_of rfl (by decide +kernel)
@[simp] theorem isi_dict_tup (xs : List D) : isiD "dict" S (.tup xs) = some (.bl false) := isiD_of rfl (by decide +kernel)
@[simp] theorem isi_dict_lst (xs : List D) : isiD "dict" S (.lst xs) = some (.bl false) := isiD_of rfl (by decide +kernel)
@[simp] theorem isi_dict_dct (ks : List Key) (xs : List D) : isiD "dict" S (.dct ks xs) = some (.bl true) := isiD_of rfl (by decide +kernel)
@[simp] theorem eqD_eq (a b : D) : eqD S a b = (eqB S a b).bind fun k => some (.bl k) := (rfl)
@[simp] theorem neD_eq (a b : D) : neD S a b = (eqB S a b).bind fun k => some (.bl (!k)) := (rfl)
@[simp] theorem eqB_ii (i j : Int) : eqB S (.int i) (.int j) = some (i == j) := by simp [eqB, deepN, pyD, PyData.eqv]
@[simp] theorem eqB_ss (i j : Str) : eqB S (.str i) (.str j) = some (i == j) := by simp [eqB, deepN, pyD, PyData.eqv]
@[simp] theorem eqB_tt (xs ys : List D) : eqB S (.tup xs) (.tup ys) = (pyAll (pyD S 59) xs).bind fun p => (pyAll (pyD S 59) ys).bind fun q => some (PyData.eqvAll p q) := by
  unfold eqB deepN
  simp only [pyD]
  cases pyAll (pyD S 59) xs <;> cases pyAll (pyD S 59) ys <;> simp [PyData.eqv]
@[simp] theorem eqB_ll (xs ys : List D) : eqB S (.lst xs) (.lst ys) = (pyAll (pyD S 59) xs).bind fun p => (pyAll (pyD S 59) ys).bind fun q => some (PyData.eqvAll p q) := by
  unfold eqB deepN
  simp only [pyD]
  cases pyAll (pyD S 59) xs <;> cases pyAll (pyD S 59) ys <;> simp [PyData.eqv]
@[simp] theorem pyAll_nil (f : D → Option PyData) : pyAll f [] = some [] := (rfl)
@[simp] theorem pyAll_cons' (f : D → Option PyData) (x : D) (xs : List D) : pyAll f (x :: xs) = (f x).bind fun y => (pyAll f xs).bind fun ys => some (y :: ys) := (rfl)
@[simp] theorem pyD_int (n : Nat) (i : Int) : pyD S n (.int i) = some (.int i) := by cases n <;> rfl
@[simp] theorem pyD_str (n : Nat) (i : Str) : pyD S n (.str i) = some (.str i) := by cases n <;> rfl
@[simp] theorem pyD_bl (n : Nat) (i : Bool) : pyD S n (.bl i) = some (.bool i) := by cases n <;> rfl
@[simp] theorem pyD_non (n : Nat) : pyD S n .non = some .none := by cases n <;> rfl
@[simp] theorem isN_non : isN S .non .non = some (.bl true) := (rfl)
@[simp] theorem isN_exn (c : Nat) (ns : List Str) (xs : List D) : isN S (.exn c ns xs) .non = some (.bl false) := (rfl)
end
theorem forL_inv {t : Tg} {body : RS} (P : Env → Store → Prop) : ∀ (ds : List D) {e : Env} {S : Store}, (∀ d ∈ ds, ∀ e S, P e S → ∃ e1, bindT S d e t = some e1 ∧ ∃ e2 S2, body e1 S = .nx e2 S2 ∧ P e2 S2) → P e S → ∃ e' S', forL t body ds e S = .nx e' S' ∧ P e' S'
  | [], e, S, _, h => ⟨e, S, rfl, h⟩
  | d :: ds, e, S, hs, h => by
    obtain ⟨e1, h1, e2, S2, h2, h3⟩ := hs d List.mem_cons_self e S h
    obtain ⟨e', S', h4, h5⟩ := forL_inv P ds (fun d hd => hs d (List.mem_cons_of_mem _ hd)) h3
    exact ⟨e', S', by simp [forL, h1, h2, h4], h5⟩
theorem forL_try {t : Tg} {body : RS} (P : Env → Store → Prop) (R : D → Store → Prop) : ∀ (ds : List D) {e : Env} {S : Store}, (∀ d ∈ ds, ∀ e S, P e S → ∃ e1, bindT S d e t = some e1 ∧ ((∃ e2 S2, body e1 S = .nx e2 S2 ∧ P e2 S2) ∨ ∃ x S2, body e1 S = .rt x S2 ∧ R x S2)) → P e S →
    (∃ e' S', forL t body ds e S = .nx e' S' ∧ P e' S') ∨ ∃ x S', forL t body ds e S = .rt x S' ∧ R x S'
  | [], e, S, _, h => .inl ⟨e, S, rfl, h⟩
  | d :: ds, e, S, hs, h => by
    obtain ⟨e1, h1, h2⟩ := hs d List.mem_cons_self e S h
    rcases h2 with ⟨e2, S2, h2, h3⟩ | ⟨x, S2, h2, h3⟩
    · rcases forL_try P R ds (fun d hd => hs d (List.mem_cons_of_mem _ hd)) h3 with ⟨e', S', h4, h5⟩ | ⟨x, S', h4, h5⟩
      · exact .inl ⟨e', S', by simp [forL, h1, h2, h4], h5⟩
      · exact .inr ⟨x, S', by simp [forL, h1, h2, h4], h5⟩
    · exact .inr ⟨x, S2, by simp [forL, h1, h2], h3⟩
/-- a loop, by what has been gone through -/
theorem forL_pre {t : Tg} {body : RS} (P : List D → Env → Store → Prop) : ∀ (ds pre : List D) {e : Env} {S : Store}, (∀ p d q, pre ++ ds = p ++ d :: q → ∀ e S, P p e S → ∃ e1, bindT S d e t = some e1 ∧ ∃ e2 S2, body e1 S = .nx e2 S2 ∧ P (p ++ [d]) e2 S2) → P pre e S → ∃ e' S', forL t body ds e S = .nx e' S' ∧ P (pre ++ ds) e' S'
  | [], pre, e, S, _, h => ⟨e, S, rfl, by rw [List.append_nil]; exact h⟩
  | d :: ds, pre, e, S, hs, h => by
    obtain ⟨e1, h1, e2, S2, h2, h3⟩ := hs pre d ds rfl e S h
    obtain ⟨e', S', h4, h5⟩ := forL_pre P ds (pre ++ [d]) (fun p x q eq => hs p x q (by rw [← eq, List.append_assoc]; rfl)) h3
    refine ⟨e', S', by simp [forL, h1, h2, h4], ?_⟩
    rw [List.append_assoc] at h5
    exact h5
/-- a loop that folds -/
theorem forL_fold {A B : Type} {t : Tg} {body : RS} (g : A → D) (f : B → A → B) (P : B → Env → Store → Prop) : ∀ (as : List A) {b : B} {e : Env} {S : Store}, (∀ a ∈ as, ∀ b e S, P b e S → ∃ e1, bindT S (g a) e t = some e1 ∧ ∃ e2 S2, body e1 S = .nx e2 S2 ∧ P (f b a) e2 S2) → P b e S → ∃ e' S', forL t body (as.map g) e S = .nx e' S' ∧ P (as.foldl f b) e' S'
  | [], b, e, S, _, h => ⟨e, S, rfl, h⟩
  | a :: as, b, e, S, hs, h => by
    obtain ⟨e1, h1, e2, S2, h2, h3⟩ := hs a List.mem_cons_self b e S h
    obtain ⟨e', S', h4, h5⟩ := forL_fold g f P as (fun x hx => hs x (List.mem_cons_of_mem _ hx)) h3
    exact ⟨e', S', by simp [forL, h1, h2, h4], h5⟩
/-- a comprehension over a list of the store, which stays -/
theorem lcV_map {A : Type} {t : Tg} {c : RT} {elt : RE} {e0 : Env} {x : D} {S : Store} (h : A → D) (E : A → Env) (p : A → Bool) (f : A → D) (as : List A) (hx : ∀ i, itemAt S x i = some ((as.map h)[i]?)) (hs : ∀ a ∈ as, bindT S (h a) e0 t = some (E a) ∧ c (E a) S = .ok (p a) S ∧ (p a = true → elt (E a) S = .ok (f a) S)) :
    ∀ (k i : Nat), as.length < i + k → i ≤ as.length → lcV t c elt e0 x k i S = .ok (((as.drop i).filter p).map f) S
  | 0, i, h1, h2 => by omega
  | k + 1, i, h1, h2 => by
    unfold lcV
    rw [hx i, List.getElem?_map]
    by_cases hi : i < as.length
    · obtain ⟨b1, b2, b3⟩ := hs as[i] (List.getElem_mem hi)
      have ih := lcV_map h E p f as hx hs k (i + 1) (by omega) (by omega)
      rw [List.getElem?_eq_getElem hi, List.drop_eq_getElem_cons hi, List.filter_cons]
      dsimp only [Option.map_some]
      rw [b1]
      dsimp only
      rw [b2, bind_ok]
      cases hp : p as[i] with
      | true => rw [if_pos rfl, if_pos rfl, b3 hp, bind_ok, ih, bind_ok, List.map_cons]
      | false => rw [if_neg Bool.false_ne_true, if_neg Bool.false_ne_true, ih]
    · rw [List.getElem?_eq_none (by omega), List.drop_of_length_le (by omega)]
      rfl
/-- a loop that comes back at the first item for which c holds -/
theorem forL_search {t : Tg} {body : RS} (P : Env → Prop) (c : D → Bool) (r : D) {S : Store} : ∀ (ds : List D) {e : Env}, (∀ d ∈ ds, ∀ e, P e → ∃ e1, bindT S d e t = some e1 ∧ (c d = true → body e1 S = .rt r S) ∧ (c d = false → ∃ e2, body e1 S = .nx e2 S ∧ P e2)) → P e →
    (ds.any c = true ∧ forL t body ds e S = .rt r S) ∨ (ds.any c = false ∧ ∃ e', forL t body ds e S = .nx e' S ∧ P e')
  | [], e, _, h => .inr ⟨rfl, e, rfl, h⟩
  | d :: ds, e, hs, h => by
    obtain ⟨e1, h1, h2, h3⟩ := hs d List.mem_cons_self e h
    cases hc : c d with
    | true => exact .inl ⟨by simp [hc], by simp [forL, h1, h2 hc]⟩
    | false =>
      obtain ⟨e2, h4, h5⟩ := h3 hc
      rcases forL_search P c r ds (fun d hd => hs d (List.mem_cons_of_mem _ hd)) h5 with ⟨a, b⟩ | ⟨a, e', b, p⟩
      · exact .inl ⟨by simp [hc, a], by simp [forL, h1, h4, b]⟩
      · exact .inr ⟨by simp [hc, a], e', by simp [forL, h1, h4, b], p⟩
theorem forV_inv {t : Tg} {body : RS} {x : D} (P : Env → Store → Prop) (xs : List D) (hP : ∀ e S, P e S → ∀ i, itemAt S x i = some xs[i]?) (hs : ∀ d ∈ xs, ∀ e S, P e S → ∃ e1, bindT S d e t = some e1 ∧ ∃ e2 S2, body e1 S = .nx e2 S2 ∧ P e2 S2) :
    ∀ (k i : Nat) (e : Env) (S : Store), xs.length < i + k → i ≤ xs.length → P e S → ∃ e' S', forV t body x k i e S = .nx e' S' ∧ P e' S'
  | 0, i, e, S, h, h2, _ => by omega
  | k + 1, i, e, S, h, h2, hp => by
    have it := hP e S hp i
    by_cases hi : i < xs.length
    · rw [List.getElem?_eq_getElem hi] at it
      obtain ⟨e1, b1, e2, S2, b2, p2⟩ := hs xs[i] (List.getElem_mem hi) e S hp
      obtain ⟨e', S', h3, p3⟩ := forV_inv P xs hP hs k (i + 1) e2 S2 (by omega) (by omega) p2
      exact ⟨e', S', by simp [forV, it, b1, b2, h3], p3⟩
    · rw [List.getElem?_eq_none (by omega)] at it
      exact ⟨e, S, by simp [forV, it], hp⟩
@[simp] theorem ran1_int (j : Int) : ran1 [.int j] = if -(2 ^ 62) ≤ j ∧ j < 2 ^ 62 then some (rangeD 0 j.toNat) else none := (rfl)
@[simp] theorem ran2_int (i j : Int) : ran2 [.int i, .int j] = if -(2 ^ 62) ≤ i ∧ i < 2 ^ 62 ∧ -(2 ^ 62) ≤ j ∧ j < 2 ^ 62 then some (rangeD i (j - i).toNat) else none := (rfl)
/-- range(max(1, min(len(script), n))) -/
theorem ran_cells (l n : Nat) (h : n ≤ 63) (hn : 1 ≤ n) : ∃ m, m ≤ n ∧ ran1 [.int (if (if (n : Int) < (l : Int) then (n : Int) else (l : Int)) > 1 then (if (n : Int) < (l : Int) then (n : Int) else (l : Int)) else 1)] = some (rangeD 0 m) := by
  refine ⟨(if (if (n : Int) < (l : Int) then (n : Int) else (l : Int)) > 1 then (if (n : Int) < (l : Int) then (n : Int) else (l : Int)) else 1).toNat, ?_, ?_⟩
  · split <;> split <;> omega
  · rw [ran1_int, if_pos]
    split <;> split <;> omega
theorem mem_rangeD {lo : Int} {n : Nat} {d : D} (h : d ∈ rangeD lo n) : ∃ i : Nat, i < n ∧ d = .int (lo + i) := by
  unfold rangeD at h
  obtain ⟨i, h1, h2⟩ := List.mem_map.mp h
  exact ⟨i, List.mem_range.mp h1, h2.symm⟩
theorem atI_mem {A : Type} {xs : List A} {r : Int} (h : 0 ≤ r) (h2 : r < xs.length) : ∃ d, atI xs r = some d ∧ d ∈ xs := by
  have h3 : r.toNat < xs.length := by omega
  exact ⟨xs[r.toNat], by simp [atI, ixN, h, h2, h3], List.getElem_mem h3⟩
end Ev
namespace Lw
open PySem PySem.Spec L2 Ev
def topS (i : Nat) : Stmt := PySem.Challenge.pw_sealedreach_k14_whole_whatever_is_made_l.main.body.getD i (.Pass ⟨0, 0, 0, 0⟩)
abbrev cl_ReachError : Nat := 0
abbrev cl_NoFields : Nat := 1
abbrev s_is_whole : Stmt := topS 7
theorem sc_is_whole : FnScope ["thing"] ["thing"] (defScope s_is_whole) := ⟨rfl, rfl, rfl, by decide +kernel, rfl, by decide +kernel, by decide +kernel⟩
abbrev s_least_in_bits : Stmt := topS 8
theorem sc_least_in_bits : FnScope ["low", "high", "step", "first"] ["low", "high"] (defScope s_least_in_bits) := ⟨rfl, rfl, rfl, by decide +kernel, rfl, by decide +kernel, by decide +kernel⟩
abbrev s_from_bits : Stmt := topS 9
theorem sc_from_bits : FnScope ["step", "first", "count"] ["step", "first", "count"] (defScope s_from_bits) := ⟨rfl, rfl, rfl, by decide +kernel, rfl, by decide +kernel, by decide +kernel⟩
abbrev s_least_held : Stmt := topS 10
theorem sc_least_held : FnScope ["low", "high", "step", "first", "count"] ["low", "high"] (defScope s_least_held) := ⟨rfl, rfl, rfl, by decide +kernel, rfl, by decide +kernel, by decide +kernel⟩
abbrev s_is_word : Stmt := topS 16
theorem sc_is_word : FnScope ["thing"] ["thing"] (defScope s_is_word) := ⟨rfl, rfl, rfl, by decide +kernel, rfl, by decide +kernel, by decide +kernel⟩
abbrev s_is_rights : Stmt := topS 17
theorem sc_is_rights : FnScope ["thing", "right"] ["thing"] (defScope s_is_rights) := ⟨rfl, rfl, rfl, by decide +kernel, rfl, by decide +kernel, by decide +kernel⟩
abbrev s_are_lawful : Stmt := topS 18
theorem sc_are_lawful : FnScope ["rights", "groups", "right"] ["rights"] (defScope s_are_lawful) := ⟨rfl, rfl, rfl, by decide +kernel, rfl, by decide +kernel, by decide +kernel⟩
abbrev s_rights_in : Stmt := topS 19
theorem sc_rights_in : FnScope ["bits", "place", "right"] ["bits"] (defScope s_rights_in) := ⟨rfl, rfl, rfl, by decide +kernel, rfl, by decide +kernel, by decide +kernel⟩
abbrev s_fields_of : Stmt := topS 20
theorem sc_fields_of : FnScope ["word", "bits", "first", "count", "step", "low", "high"] ["word"] (defScope s_fields_of) := ⟨rfl, rfl, rfl, by decide +kernel, rfl, by decide +kernel, by decide +kernel⟩
abbrev s_is_lawful : Stmt := topS 21
theorem sc_is_lawful : FnScope ["thing", "fields"] ["thing"] (defScope s_is_lawful) := ⟨rfl, rfl, rfl, by decide +kernel, rfl, by decide +kernel, by decide +kernel⟩
abbrev s_are_fields : Stmt := topS 22
theorem sc_are_fields : FnScope ["thing", "place", "low", "high", "at", "rights", "kind"] ["thing"] (defScope s_are_fields) := ⟨rfl, rfl, rfl, by decide +kernel, rfl, by decide +kernel, by decide +kernel⟩
abbrev s_word_of : Stmt := topS 23
theorem sc_word_of : FnScope ["fields", "marked", "low", "high", "at", "rights", "kind", "step", "first", "count", "bits", "right"] ["fields", "marked"] (defScope s_word_of) := ⟨rfl, rfl, rfl, by decide +kernel, rfl, by decide +kernel, by decide +kernel⟩
abbrev s_bare : Stmt := topS 29
theorem sc_bare : FnScope ["word"] ["word"] (defScope s_bare) := ⟨rfl, rfl, rfl, by decide +kernel, rfl, by decide +kernel, by decide +kernel⟩
abbrev s_is_open : Stmt := topS 30
theorem sc_is_open : FnScope ["word"] ["word"] (defScope s_is_open) := ⟨rfl, rfl, rfl, by decide +kernel, rfl, by decide +kernel, by decide +kernel⟩
abbrev s_kinds_within : Stmt := topS 31
theorem sc_kinds_within : FnScope ["one", "other"] ["one", "other"] (defScope s_kinds_within) := ⟨rfl, rfl, rfl, by decide +kernel, rfl, by decide +kernel, by decide +kernel⟩
abbrev s_lies_within : Stmt := topS 32
theorem sc_lies_within : FnScope ["one", "other", "low", "high", "at", "rights", "kind", "other_low", "other_high", "other_at", "other_rights", "other_kind", "right"] ["one", "other"] (defScope s_lies_within) := ⟨rfl, rfl, rfl, by decide +kernel, rfl, by decide +kernel, by decide +kernel⟩
abbrev s_walked : Stmt := topS 33
theorem sc_walked : FnScope ["word", "number", "at", "bits"] ["word", "number"] (defScope s_walked) := ⟨rfl, rfl, rfl, by decide +kernel, rfl, by decide +kernel, by decide +kernel⟩
abbrev s_with_bounds : Stmt := topS 34
theorem sc_with_bounds : FnScope ["word", "low", "high", "own_low", "own_high", "at", "rights", "kind"] ["word", "low", "high"] (defScope s_with_bounds) := ⟨rfl, rfl, rfl, by decide +kernel, rfl, by decide +kernel, by decide +kernel⟩
abbrev s_narrowed : Stmt := topS 35
theorem sc_narrowed : FnScope ["word", "many", "exact", "low", "high", "at", "rights", "kind", "own_low", "own_high"] ["word", "many", "exact"] (defScope s_narrowed) := ⟨rfl, rfl, rfl, by decide +kernel, rfl, by decide +kernel, by decide +kernel⟩
abbrev s_with_rights : Stmt := topS 36
theorem sc_with_rights : FnScope ["word", "rights", "low", "high", "at", "own_rights", "kind"] ["word", "rights"] (defScope s_with_rights) := ⟨rfl, rfl, rfl, by decide +kernel, rfl, by decide +kernel, by decide +kernel⟩
abbrev s_lessened : Stmt := topS 37
theorem sc_lessened : FnScope ["word", "rights", "right"] ["word", "rights"] (defScope s_lessened) := ⟨rfl, rfl, rfl, by decide +kernel, rfl, by decide +kernel, by decide +kernel⟩
abbrev s_with_kind : Stmt := topS 38
theorem sc_with_kind : FnScope ["word", "kind", "low", "high", "at", "rights", "own_kind"] ["word", "kind"] (defScope s_with_kind) := ⟨rfl, rfl, rfl, by decide +kernel, rfl, by decide +kernel, by decide +kernel⟩
abbrev s_kind_told : Stmt := topS 39
theorem sc_kind_told : FnScope ["word", "right", "low", "high", "at", "rights", "kind"] ["word", "right"] (defScope s_kind_told) := ⟨rfl, rfl, rfl, by decide +kernel, rfl, by decide +kernel, by decide +kernel⟩
abbrev s_sealed : Stmt := topS 40
theorem sc_sealed : FnScope ["word", "other", "kind"] ["word", "other"] (defScope s_sealed) := ⟨rfl, rfl, rfl, by decide +kernel, rfl, by decide +kernel, by decide +kernel⟩
abbrev s_opened_by : Stmt := topS 41
theorem sc_opened_by : FnScope ["word", "other", "found", "right"] ["word", "other"] (defScope s_opened_by) := ⟨rfl, rfl, rfl, by decide +kernel, rfl, by decide +kernel, by decide +kernel⟩
abbrev s_opened : Stmt := topS 42
theorem sc_opened : FnScope ["word", "other", "kind"] ["word", "other"] (defScope s_opened) := ⟨rfl, rfl, rfl, by decide +kernel, rfl, by decide +kernel, by decide +kernel⟩
abbrev s_entry : Stmt := topS 43
theorem sc_entry : FnScope ["word"] ["word"] (defScope s_entry) := ⟨rfl, rfl, rfl, by decide +kernel, rfl, by decide +kernel, by decide +kernel⟩
abbrev s_law_pool : Stmt := topS 45
theorem sc_law_pool : FnScope ["_law_script", "_law_k", "_law_cell", "_law_size", "_law_mixed"] ["_law_script", "_law_k"] (defScope s_law_pool) := ⟨rfl, rfl, rfl, by decide +kernel, rfl, by decide +kernel, by decide +kernel⟩
abbrev s_law_take : Stmt := topS 46
theorem sc_law_take : FnScope ["_law_pool_here", "_law_many", "_law_found"] ["_law_pool_here", "_law_many"] (defScope s_law_take) := ⟨rfl, rfl, rfl, by decide +kernel, rfl, by decide +kernel, by decide +kernel⟩
abbrev s_law_least : Stmt := topS 47
theorem sc_law_least : FnScope ["_law_low", "_law_high", "_law_step"] ["_law_low", "_law_high"] (defScope s_law_least) := ⟨rfl, rfl, rfl, by decide +kernel, rfl, by decide +kernel, by decide +kernel⟩
abbrev s_law_fields : Stmt := topS 48
theorem sc_law_fields : FnScope ["_law_word_here", "_law_bits", "_law_first", "_law_count", "_law_step", "_law_signs", "_law_rights_here", "_law_k"] ["_law_word_here"] (defScope s_law_fields) := ⟨rfl, rfl, rfl, by decide +kernel, rfl, by decide +kernel, by decide +kernel⟩
abbrev s_law_made : Stmt := topS 49
theorem sc_law_made : FnScope ["_law_low", "_law_high", "_law_at", "_law_rights_here", "_law_kind", "_law_step", "_law_bits", "_law_place", "_law_sign"] ["_law_low", "_law_high", "_law_at", "_law_rights_here", "_law_kind"] (defScope s_law_made) := ⟨rfl, rfl, rfl, by decide +kernel, rfl, by decide +kernel, by decide +kernel⟩
abbrev s_law_bounds : Stmt := topS 50
theorem sc_law_bounds : FnScope ["_law_pool_here", "_law_low", "_law_many", "_law_own_low", "_law_own_high", "_law_step"] ["_law_pool_here"] (defScope s_law_bounds) := ⟨rfl, rfl, rfl, by decide +kernel, rfl, by decide +kernel, by decide +kernel⟩
abbrev s_law_rights : Stmt := topS 51
theorem sc_law_rights : FnScope ["_law_pool_here", "_law_way", "_law_sign"] ["_law_pool_here"] (defScope s_law_rights) := ⟨rfl, rfl, rfl, by decide +kernel, rfl, by decide +kernel, by decide +kernel⟩
abbrev s_law_word : Stmt := topS 52
theorem sc_law_word : FnScope ["_law_pool_here", "_law_low", "_law_high", "_law_rights_here", "_law_at", "_law_kind", "_law_word_here"] ["_law_pool_here"] (defScope s_law_word) := ⟨rfl, rfl, rfl, by decide +kernel, rfl, by decide +kernel, by decide +kernel⟩
abbrev s_law_with_kind : Stmt := topS 53
theorem sc_law_with_kind : FnScope ["_law_word_here", "_law_kind", "_law_low", "_law_high", "_law_at", "_law_rights_here", "_law_own_kind"] ["_law_word_here", "_law_kind"] (defScope s_law_with_kind) := ⟨rfl, rfl, rfl, by decide +kernel, rfl, by decide +kernel, by decide +kernel⟩
abbrev s_law_done : Stmt := topS 54
theorem sc_law_done : FnScope ["_law_pool_here", "_law_word_here", "_law_other", "_law_way", "_law_number"] ["_law_pool_here", "_law_word_here", "_law_other"] (defScope s_law_done) := ⟨rfl, rfl, rfl, by decide +kernel, rfl, by decide +kernel, by decide +kernel⟩
abbrev s_law_above : Stmt := topS 55
theorem sc_law_above : FnScope ["_law_words", "_law_found", "_law_word_here", "_law_turn", "_law_kind", "_law_other", "_law_low", "_law_high", "_law_at", "_law_rights_here", "_law_own_kind", "_law_more"] ["_law_words"] (defScope s_law_above) := ⟨rfl, rfl, rfl, by decide +kernel, rfl, by decide +kernel, by decide +kernel⟩
abbrev s_law : Stmt := topS 56
theorem sc_law : FnScope ["_law_script", "_law_k", "_law_pool_here", "_law_words", "_law_turn", "_law_above_here", "_law_word_here", "_law_found", "_law_one"] ["_law_script"] (defScope s_law) := ⟨rfl, rfl, rfl, by decide +kernel, rfl, by decide +kernel, by decide +kernel⟩
def m_is_whole : RS := (sRet (rAnd (rUn (isiD "int") (rVar 0)) (rNot (rUn (isiD "bool") (rVar 0)))))
def g_is_whole : List D → Store → Res D := runDef 1 m_is_whole
def lb1_least_in_bits : RS := (sAug 2 (i2 (fun _ _ => true) fun i j => .int (i + j)) (rCon (.int 1)))
def m_least_in_bits : RS := (sSeq (sSet 2 (rCon (.int 0)))
    (sSeq (whileN (rTest (rBin gtD (rBin subD (rUn negD (rBin shrD (rUn negD (rVar 1)) (rVar 2))) (rBin shrD (rVar 0) (rVar 2))) (rCon (.int 16))))
    lb1_least_in_bits 20)
    (sSeq (sSet 3 (rBin shrD (rVar 0) (rVar 2)))
    (sRet (rTup (rCons (rVar 2) (rCons (rVar 3) (rCons (rBin subD (rUn negD (rBin shrD (rUn negD (rVar 1)) (rVar 2))) (rVar 3)) rNil))))))))
def g_least_in_bits : List D → Store → Res D := runDef 4 m_least_in_bits
def m_from_bits : RS := (sRet (rTup (rCons (rBin shlD (rVar 1) (rVar 0)) (rCons (rBin shlD (rBin addD (rVar 1) (rVar 2)) (rVar 0)) rNil))))
def g_from_bits : List D → Store → Res D := runDef 3 m_from_bits
def m_least_held : RS := (sSeq (sAsg (.tp [2, 3, 4]) (rCall g_least_in_bits (rCons (rVar 0) (rCons (rVar 1) rNil))))
    (sRet (rCall g_from_bits (rCons (rVar 2) (rCons (rVar 3) (rCons (rVar 4) rNil))))))
def g_least_held : List D → Store → Res D := runDef 5 m_least_held
def m_is_word : RS := (sSeq (sIf (rOrT (rNotT (rTruth (rUn (isiD "tuple") (rVar 0)))) (rOrT (rTest (rBin neD (rCal lenD (rCons (rVar 0) rNil)) (rCon (.int 2)))) (rNotT (rTruth (rUn (isiD "bool") (rBin ixD (rVar 0) (rCon (.int 0))))))))
    (sRet (rCon (.bl false)))
    sNil)
    (sRet (rAnd (rCall g_is_whole (rCons (rBin ixD (rVar 0) (rCon (.int 1))) rNil)) (rChain (rCon (.int 0)) (rLink leD (rBin ixD (rVar 0) (rCon (.int 1))) (rLast ltD (rCon (.int 35184372088832))))))))
def g_is_word : List D → Store → Res D := runDef 1 m_is_word
def m_is_rights : RS := (sRet (rAnd (rUn (isiD "str") (rVar 0)) (rBin eqD (rVar 0) (rMth "str" joinD (rCon (.str "")) (rCons (rLc frzL (rIt (rCon (.str "rwlsnfxco"))) (.nm 1) [1] (rTest (rBin inD (rVar 1) (rVar 0))) (rVar 1)) rNil)))))
def g_is_rights : List D → Store → Res D := runDef 2 m_is_rights
def m_are_lawful : RS := (sSeq (sSet 1 (rLst (rCons (rCal anyD (rCons (rLc frzL (rIt (rVar 0)) (.nm 2) [2] rYes (rBin inD (rVar 2) (rCon (.str "rwlsn")))) rNil)) (rCons (rBin inD (rCon (.str "x")) (rVar 0)) (rCons (rOr (rBin inD (rCon (.str "c")) (rVar 0)) (rBin inD (rCon (.str "o")) (rVar 0))) rNil)))))
    (sRet (rBin leD (rMth "list" countL (rVar 1) (rCons (rCon (.bl true)) rNil)) (rCon (.int 1)))))
def g_are_lawful : List D → Store → Res D := runDef 3 m_are_lawful
def m_rights_in : RS := (sRet (rMth "str" joinD (rCon (.str "")) (rCons (rLc frzL (rRan enumD (rCons (rCon (.str "rwlsnfxco")) rNil)) (.tp [1, 2]) [1, 2] (rTest (rBin eqD (rBin andD (rBin shrD (rVar 0) (rBin addD (rCon (.int 32)) (rVar 1))) (rCon (.int 1))) (rCon (.int 1)))) (rVar 2)) rNil)))
def g_rights_in : List D → Store → Res D := runDef 3 m_rights_in
def m_fields_of : RS := (sSeq (sSet 1 (rBin ixD (rVar 0) (rCon (.int 1))))
    (sSeq (sPar [2, 3, 4] (rCons (rBin andD (rBin shrD (rVar 1) (rCon (.int 12))) (rCon (.int 4095))) (rCons (rBin addD (rBin andD (rBin shrD (rVar 1) (rCon (.int 24))) (rCon (.int 15))) (rCon (.int 1))) (rCons (rBin andD (rBin shrD (rVar 1) (rCon (.int 28))) (rCon (.int 15))) rNil))))
    (sSeq (sIf (rOrT (rTest (rBin gtD (rVar 4) (rCon (.int 8)))) (rOrT (rAndT (rTest (rBin gtD (rVar 4) (rCon (.int 0)))) (rTest (rBin leD (rVar 3) (rBin divD (rCon (.int 16)) (rCon (.int 2)))))) (rTest (rBin gtD (rBin shlD (rBin addD (rVar 2) (rVar 3)) (rVar 4)) (rCon (.int 4096))))))
    (sRet (rCon .non))
    sNil)
    (sSeq (sAsg (.tp [5, 6]) (rCall g_from_bits (rCons (rVar 4) (rCons (rVar 2) (rCons (rVar 3) rNil)))))
    (sRet (rTup (rCons (rVar 5) (rCons (rVar 6) (rCons (rBin modD (rVar 1) (rCon (.int 4096))) (rCons (rCall g_rights_in (rCons (rVar 1) rNil)) (rCons (rBin shrD (rVar 1) (rCon (.int 41))) rNil)))))))))))
def g_fields_of : List D → Store → Res D := runDef 7 m_fields_of
def m_is_lawful : RS := (sSeq (sIf (rNotT (rTruth (rCall g_is_word (rCons (rVar 0) rNil))))
    (sRet (rCon (.bl false)))
    sNil)
    (sSeq (sSet 1 (rCall g_fields_of (rCons (rVar 0) rNil)))
    (sRet (rOr (rNot (rBin ixD (rVar 0) (rCon (.int 0)))) (rAnd (rBin isNot (rVar 1) (rCon .non)) (rCall g_are_lawful (rCons (rBin ixD (rVar 1) (rCon (.int 3))) rNil)))))))
def g_is_lawful : List D → Store → Res D := runDef 2 m_is_lawful
def m_are_fields : RS := (sSeq (sIf (rOrT (rNotT (rTruth (rUn (isiD "tuple") (rVar 0)))) (rOrT (rTest (rBin neD (rCal lenD (rCons (rVar 0) rNil)) (rCon (.int 5)))) (rNotT (rTruth (rCal allD (rCons (rLc frzL (rIt (rTup (rCons (rCon (.int 0)) (rCons (rCon (.int 1)) (rCons (rCon (.int 2)) (rCons (rCon (.int 4)) rNil)))))) (.nm 1) [1] rYes (rCall g_is_whole (rCons (rBin ixD (rVar 0) (rVar 1)) rNil))) rNil))))))
    (sRet (rCon (.bl false)))
    sNil)
    (sSeq (sAsg (.tp [2, 3, 4, 5, 6]) (rVar 0))
    (sSeq (sIf (rOrT (rNotT (rTest (rChain (rCon (.int 0)) (rLink leD (rVar 2) (rLink ltD (rVar 3) (rLast leD (rCon (.int 4096)))))))) (rOrT (rNotT (rTest (rChain (rCon (.int 0)) (rLink leD (rVar 4) (rLast ltD (rCon (.int 4096))))))) (rNotT (rTest (rChain (rCon (.int 0)) (rLink leD (rVar 6) (rLast ltD (rCon (.int 16)))))))))
    (sRet (rCon (.bl false)))
    sNil)
    (sRet (rAnd (rCall g_is_rights (rCons (rVar 5) rNil)) (rAnd (rCall g_are_lawful (rCons (rVar 5) rNil)) (rBin eqD (rCall g_least_held (rCons (rVar 2) (rCons (rVar 3) rNil))) (rTup (rCons (rVar 2) (rCons (rVar 3) rNil))))))))))
def g_are_fields : List D → Store → Res D := runDef 7 m_are_fields
def m_word_of : RS := (sSeq (sIf (rNotT (rTruth (rCall g_are_fields (rCons (rVar 0) rNil))))
    (sRaise0 cl_NoFields)
    sNil)
    (sSeq (sAsg (.tp [2, 3, 4, 5, 6]) (rVar 0))
    (sSeq (sAsg (.tp [7, 8, 9]) (rCall g_least_in_bits (rCons (rVar 2) (rCons (rVar 3) rNil))))
    (sSeq (sSet 10 (rBin addD (rBin addD (rBin addD (rBin addD (rVar 4) (rBin shlD (rVar 8) (rCon (.int 12)))) (rBin shlD (rBin subD (rVar 9) (rCon (.int 1))) (rCon (.int 24)))) (rBin shlD (rVar 7) (rCon (.int 28)))) (rBin shlD (rVar 6) (rCon (.int 41)))))
    (sRet (rTup (rCons (rVar 1) (rCons (rBin addD (rVar 10) (rCal sumD (rCons (rLc frzL (rIt (rVar 5)) (.nm 11) [11] rYes (rBin shlD (rCon (.int 1)) (rBin addD (rCon (.int 32)) (rMth "str" indexS (rCon (.str "rwlsnfxco")) (rCons (rVar 11) rNil))))) rNil))) rNil))))))))
def g_word_of : List D → Store → Res D := runDef 12 m_word_of
def m_bare : RS := (sRet (rTup (rCons (rCon (.bl false)) (rCons (rBin ixD (rVar 0) (rCon (.int 1))) rNil))))
def g_bare : List D → Store → Res D := runDef 1 m_bare
def m_is_open : RS := (sRet (rAnd (rBin ixD (rVar 0) (rCon (.int 0))) (rBin eqD (rBin ixD (rCall g_fields_of (rCons (rVar 0) rNil)) (rCon (.int 4))) (rCon (.int 0)))))
def g_is_open : List D → Store → Res D := runDef 1 m_is_open
def m_kinds_within : RS := (sRet (rOr (rBin eqD (rVar 0) (rVar 1)) (rAnd (rBin eqD (rVar 1) (rCon (.int 0))) (rBin neD (rVar 0) (rCon (.int 2))))))
def g_kinds_within : List D → Store → Res D := runDef 2 m_kinds_within
def m_lies_within : RS := (sSeq (sAsg (.tp [2, 3, 4, 5, 6]) (rCall g_fields_of (rCons (rVar 0) rNil)))
    (sSeq (sAsg (.tp [7, 8, 9, 10, 11]) (rCall g_fields_of (rCons (rVar 1) rNil)))
    (sSeq (sIf (rOrT (rTest (rBin ltD (rVar 2) (rVar 7))) (rOrT (rTest (rBin gtD (rVar 3) (rVar 8))) (rNotT (rTruth (rCall g_kinds_within (rCons (rVar 6) (rCons (rVar 11) rNil)))))))
    (sRet (rCon (.bl false)))
    sNil)
    (sRet (rCal allD (rCons (rLc frzL (rIt (rVar 5)) (.nm 12) [12] rYes (rBin inD (rVar 12) (rVar 10))) rNil))))))
def g_lies_within : List D → Store → Res D := runDef 13 m_lies_within
def m_walked : RS := (sSeq (sSet 2 (rBin modD (rBin addD (rBin ixD (rVar 0) (rCon (.int 1))) (rVar 1)) (rCon (.int 4096))))
    (sSeq (sSet 3 (rBin addD (rBin subD (rBin ixD (rVar 0) (rCon (.int 1))) (rBin modD (rBin ixD (rVar 0) (rCon (.int 1))) (rCon (.int 4096)))) (rVar 2)))
    (sSeq (sIf (rNotT (rTruth (rBin ixD (rVar 0) (rCon (.int 0)))))
    (sRet (rTup (rCons (rCon (.bl false)) (rCons (rVar 3) rNil))))
    sNil)
    (sRet (rIf (rTruth (rCall g_is_open (rCons (rVar 0) rNil))) (rTup (rCons (rCon (.bl true)) (rCons (rVar 3) rNil))) (rCall g_bare (rCons (rVar 0) rNil)))))))
def g_walked : List D → Store → Res D := runDef 4 m_walked
def m_with_bounds : RS := (sSeq (sAsg (.tp [3, 4, 5, 6, 7]) (rCall g_fields_of (rCons (rVar 0) rNil)))
    (sRet (rCallK g_word_of [.p 0, .c (.bl true)] (rCons (rTup (rCons (rVar 1) (rCons (rVar 2) (rCons (rVar 5) (rCons (rVar 6) (rCons (rVar 7) rNil)))))) rNil) rNil)))
def g_with_bounds : List D → Store → Res D := runDef 8 m_with_bounds
def m_narrowed : RS := (sSeq (sIf (rNotT (rTruth (rCall g_is_open (rCons (rVar 0) rNil))))
    (sRet (rCall g_bare (rCons (rVar 0) rNil)))
    sNil)
    (sSeq (sAsg (.tp [3, 4, 5, 6, 7]) (rCall g_fields_of (rCons (rVar 0) rNil)))
    (sSeq (sIf (rOrT (rTest (rBin ltD (rVar 1) (rCon (.int 1)))) (rTest (rBin gtD (rBin addD (rVar 5) (rVar 1)) (rCon (.int 4096)))))
    (sRet (rCall g_bare (rCons (rVar 0) rNil)))
    sNil)
    (sSeq (sAsg (.tp [8, 9]) (rCall g_least_held (rCons (rVar 5) (rCons (rBin addD (rVar 5) (rVar 1)) rNil))))
    (sSeq (sIf (rOrT (rTest (rBin ltD (rVar 8) (rVar 3))) (rOrT (rTest (rBin gtD (rVar 9) (rVar 4))) (rAndT (rTruth (rVar 2)) (rTest (rBin neD (rTup (rCons (rVar 8) (rCons (rVar 9) rNil))) (rTup (rCons (rVar 5) (rCons (rBin addD (rVar 5) (rVar 1)) rNil))))))))
    (sRet (rCall g_bare (rCons (rVar 0) rNil)))
    sNil)
    (sRet (rCall g_with_bounds (rCons (rVar 0) (rCons (rVar 8) (rCons (rVar 9) rNil))))))))))
def g_narrowed : List D → Store → Res D := runDef 10 m_narrowed
def m_with_rights : RS := (sSeq (sAsg (.tp [2, 3, 4, 5, 6]) (rCall g_fields_of (rCons (rVar 0) rNil)))
    (sRet (rCallK g_word_of [.p 0, .c (.bl true)] (rCons (rTup (rCons (rVar 2) (rCons (rVar 3) (rCons (rVar 4) (rCons (rVar 1) (rCons (rVar 6) rNil)))))) rNil) rNil)))
def g_with_rights : List D → Store → Res D := runDef 7 m_with_rights
def m_lessened : RS := (sSeq (sIf (rNotT (rTruth (rCall g_is_open (rCons (rVar 0) rNil))))
    (sRet (rCall g_bare (rCons (rVar 0) rNil)))
    sNil)
    (sRet (rCall g_with_rights (rCons (rVar 0) (rCons (rMth "str" joinD (rCon (.str "")) (rCons (rLc frzL (rIt (rBin ixD (rCall g_fields_of (rCons (rVar 0) rNil)) (rCon (.int 3)))) (.nm 2) [2] (rTest (rBin inD (rVar 2) (rVar 1))) (rVar 2)) rNil)) rNil)))))
def g_lessened : List D → Store → Res D := runDef 3 m_lessened
def m_with_kind : RS := (sSeq (sAsg (.tp [2, 3, 4, 5, 6]) (rCall g_fields_of (rCons (rVar 0) rNil)))
    (sRet (rCallK g_word_of [.p 0, .c (.bl true)] (rCons (rTup (rCons (rVar 2) (rCons (rVar 3) (rCons (rVar 4) (rCons (rVar 5) (rCons (rVar 1) rNil)))))) rNil) rNil)))
def g_with_kind : List D → Store → Res D := runDef 7 m_with_kind
def m_kind_told : RS := (sSeq (sIf (rNotT (rTruth (rCall g_is_open (rCons (rVar 0) rNil))))
    (sRet (rCon .non))
    sNil)
    (sSeq (sAsg (.tp [2, 3, 4, 5, 6]) (rCall g_fields_of (rCons (rVar 0) rNil)))
    (sSeq (sIf (rOrT (rTest (rBin ninD (rVar 1) (rVar 5))) (rOrT (rNotT (rTest (rChain (rVar 2) (rLink leD (rVar 4) (rLast ltD (rVar 3)))))) (rNotT (rTest (rChain (rCon (.int 3)) (rLink leD (rVar 4) (rLast leD (rCon (.int 15)))))))))
    (sRet (rCon .non))
    sNil)
    (sRet (rVar 4)))))
def g_kind_told : List D → Store → Res D := runDef 7 m_kind_told
def m_sealed : RS := (sSeq (sSet 2 (rCall g_kind_told (rCons (rVar 1) (rCons (rCon (.str "c")) rNil))))
    (sSeq (sIf (rOrT (rNotT (rTruth (rCall g_is_open (rCons (rVar 0) rNil)))) (rTest (rBin isN (rVar 2) (rCon .non))))
    (sRet (rCall g_bare (rCons (rVar 0) rNil)))
    sNil)
    (sRet (rCall g_with_kind (rCons (rVar 0) (rCons (rVar 2) rNil))))))
def g_sealed : List D → Store → Res D := runDef 3 m_sealed
def m_opened_by : RS := (sSeq (sSet 2 (rCall g_with_kind (rCons (rVar 0) (rCons (rCon (.int 0)) rNil))))
    (sSeq (sIf (rTest (rBin inD (rCon (.str "f")) (rBin ixD (rCall g_fields_of (rCons (rVar 1) rNil)) (rCon (.int 3)))))
    (sRet (rVar 2))
    sNil)
    (sRet (rCall g_with_rights (rCons (rVar 2) (rCons (rMth "str" joinD (rCon (.str "")) (rCons (rLc frzL (rIt (rBin ixD (rCall g_fields_of (rCons (rVar 0) rNil)) (rCon (.int 3)))) (.nm 3) [3] (rTest (rBin neD (rVar 3) (rCon (.str "f")))) (rVar 3)) rNil)) rNil))))))
def g_opened_by : List D → Store → Res D := runDef 4 m_opened_by
def m_opened : RS := (sSeq (sSet 2 (rCall g_kind_told (rCons (rVar 1) (rCons (rCon (.str "o")) rNil))))
    (sSeq (sIf (rOrT (rNotT (rTruth (rBin ixD (rVar 0) (rCon (.int 0))))) (rOrT (rTest (rBin isN (rVar 2) (rCon .non))) (rTest (rBin neD (rBin ixD (rCall g_fields_of (rCons (rVar 0) rNil)) (rCon (.int 4))) (rVar 2)))))
    (sRet (rCall g_bare (rCons (rVar 0) rNil)))
    sNil)
    (sRet (rCall g_opened_by (rCons (rVar 0) (rCons (rVar 1) rNil))))))
def g_opened : List D → Store → Res D := runDef 3 m_opened
def m_entry : RS := (sSeq (sIf (rOrT (rNotT (rTruth (rCall g_is_open (rCons (rVar 0) rNil)))) (rTest (rBin ninD (rCon (.str "x")) (rBin ixD (rCall g_fields_of (rCons (rVar 0) rNil)) (rCon (.int 3))))))
    (sRet (rCall g_bare (rCons (rVar 0) rNil)))
    sNil)
    (sRet (rCall g_with_kind (rCons (rVar 0) (rCons (rCon (.int 1)) rNil)))))
def g_entry : List D → Store → Res D := runDef 1 m_entry
def m_law_pool : RS := (sSeq (sSet 2 (rBin addD (rBin mulD (rCon (.int 7)) (rCal sumD (rCons (rSl (rVar 0) rNoP (rPart (rCon (.int 63)))) rNil))) (rVar 1)))
    (sSeq (sIf (rTest (rBin ltD (rVar 1) (rCal lenD (rCons (rVar 0) rNil))))
    (sSet 2 (rBin ixD (rVar 0) (rVar 1)))
    sNil)
    (sSeq (sSet 3 (rCal absD (rCons (rVar 2) rNil)))
    (sSeq (sSet 4 (rBin modD (rBin mulD (rBin addD (rBin addD (rBin addD (rBin modD (rVar 3) (rCon (.int 2147483629))) (rBin mulD (rBin mulD (rCon (.int 7919)) (rVar 1)) (rVar 1))) (rBin mulD (rCon (.int 31)) (rVar 1))) (rCon (.int 17))) (rCon (.int 48271))) (rCon (.int 2147483647))))
    (sRet (rLstM (rCons (rBin mulD (rVar 3) (rCal intD (rCons (rBin geD (rVar 3) (rBin powD (rCon (.int 10)) (rCon (.int 18)))) rNil))) (rCons (rBin modD (rBin mulD (rVar 4) (rVar 4)) (rCon (.int 2147483629))) rNil))))))))
def g_law_pool : List D → Store → Res D := runDef 5 m_law_pool
def m_law_take : RS := (sSeq (sIf (rTest (rBin gtD (rBin ixD (rVar 0) (rCon (.int 0))) (rCon (.int 0))))
    (sSeq (sSet 2 (rBin modD (rBin ixD (rVar 0) (rCon (.int 0))) (rVar 1)))
    (sSeq (sPutIx (rBin divD (rBin ixD (rVar 0) (rCon (.int 0))) (rVar 1)) (rVar 0) (rCon (.int 0)))
    (sRet (rVar 2))))
    sNil)
    (sSeq (sPutIx (rBin modD (rBin addD (rBin mulD (rBin ixD (rVar 0) (rCon (.int 1))) (rCon (.int 48271))) (rCon (.int 11))) (rCon (.int 2147483647))) (rVar 0) (rCon (.int 1)))
    (sRet (rBin modD (rBin divD (rBin modD (rBin mulD (rBin ixD (rVar 0) (rCon (.int 1))) (rBin ixD (rVar 0) (rCon (.int 1)))) (rCon (.int 2147483629))) (rCon (.int 16))) (rVar 1)))))
def g_law_take : List D → Store → Res D := runDef 3 m_law_take
def lb1_law_least : RS := (sSet 2 (rBin addD (rVar 2) (rCon (.int 1))))
def m_law_least : RS := (sSeq (sSet 2 (rCon (.int 0)))
    (sSeq (whileN (rTest (rBin gtD (rBin subD (rBin shrD (rBin subD (rVar 1) (rCon (.int 1))) (rVar 2)) (rBin shrD (rVar 0) (rVar 2))) (rCon (.int 15))))
    lb1_law_least 100)
    (sRet (rTup (rCons (rBin shlD (rBin shrD (rVar 0) (rVar 2)) (rVar 2)) (rCons (rBin shlD (rBin addD (rBin shrD (rBin subD (rVar 1) (rCon (.int 1))) (rVar 2)) (rCon (.int 1))) (rVar 2)) (rCons (rVar 2) rNil)))))))
def g_law_least : List D → Store → Res D := runDef 3 m_law_least
def m_law_fields : RS := (sSeq (sSet 1 (rBin ixD (rVar 0) (rCon (.int 1))))
    (sSeq (sPar [2, 3] (rCons (rBin andD (rBin shrD (rVar 1) (rCon (.int 12))) (rCon (.int 4095))) (rCons (rBin addD (rBin andD (rBin shrD (rVar 1) (rCon (.int 24))) (rCon (.int 15))) (rCon (.int 1))) rNil)))
    (sSeq (sSet 4 (rBin andD (rBin shrD (rVar 1) (rCon (.int 28))) (rCon (.int 15))))
    (sSeq (sIf (rOrT (rTest (rBin gtD (rVar 4) (rCon (.int 8)))) (rOrT (rAndT (rTest (rBin gtD (rVar 4) (rCon (.int 0)))) (rTest (rBin ltD (rVar 3) (rCon (.int 9))))) (rTest (rBin gtD (rBin shlD (rBin addD (rVar 2) (rVar 3)) (rVar 4)) (rCon (.int 4096))))))
    (sRet (rCon .non))
    sNil)
    (sSeq (sSet 5 (rCon (.str "rwlsnfxco")))
    (sSeq (sSet 6 (rMth "str" joinD (rCon (.str "")) (rCons (rLc frzL (rRan ran1 (rCons (rCon (.int 9)) rNil)) (.nm 7) [7] (rTest (rBin eqD (rBin andD (rBin shrD (rVar 1) (rBin addD (rCon (.int 32)) (rVar 7))) (rCon (.int 1))) (rCon (.int 1)))) (rBin ixD (rVar 5) (rVar 7))) rNil)))
    (sRet (rTup (rCons (rBin shlD (rVar 2) (rVar 4)) (rCons (rBin shlD (rBin addD (rVar 2) (rVar 3)) (rVar 4)) (rCons (rBin modD (rVar 1) (rCon (.int 4096))) (rCons (rVar 6) (rCons (rBin shrD (rVar 1) (rCon (.int 41))) rNil)))))))))))))
def g_law_fields : List D → Store → Res D := runDef 8 m_law_fields
def lb1_law_made : RS := (sSet 6 (rBin addD (rVar 6) (rBin shlD (rCal intD (rCons (rBin inD (rVar 8) (rVar 3)) rNil)) (rBin addD (rCon (.int 32)) (rVar 7)))))
def m_law_made : RS := (sSeq (sSet 5 (rBin ixD (rCall g_law_least (rCons (rVar 0) (rCons (rVar 1) rNil))) (rCon (.int 2))))
    (sSeq (sSet 6 (rBin addD (rBin addD (rBin addD (rVar 2) (rBin shlD (rBin shrD (rVar 0) (rVar 5)) (rCon (.int 12)))) (rBin shlD (rBin subD (rBin shrD (rBin subD (rVar 1) (rVar 0)) (rVar 5)) (rCon (.int 1))) (rCon (.int 24)))) (rBin shlD (rVar 5) (rCon (.int 28)))))
    (sSeq (sFor (rRan enumD (rCons (rCon (.str "rwlsnfxco")) rNil)) (.tp [7, 8])
    lb1_law_made)
    (sRet (rTup (rCons (rCon (.bl true)) (rCons (rBin addD (rVar 6) (rBin shlD (rVar 4) (rCon (.int 41)))) rNil)))))))
def g_law_made : List D → Store → Res D := runDef 9 m_law_made
def m_law_bounds : RS := (sSeq (sSet 1 (rBin ixD (rLst (rCons (rCon (.int 0)) (rCons (rCon (.int 1)) (rCons (rCon (.int 16)) (rCons (rCon (.int 2048)) (rCons (rCon (.int 4095)) (rCons (rCall g_law_take (rCons (rVar 0) (rCons (rCon (.int 4096)) rNil))) (rCons (rCall g_law_take (rCons (rVar 0) (rCons (rCon (.int 96)) rNil))) rNil)))))))) (rCall g_law_take (rCons (rVar 0) (rCons (rCon (.int 7)) rNil)))))
    (sSeq (sSet 2 (rBin ixD (rLst (rCons (rCon (.int 1)) (rCons (rCon (.int 2)) (rCons (rCon (.int 16)) (rCons (rCon (.int 17)) (rCons (rCon (.int 32)) (rCons (rCon (.int 33)) (rCons (rBin addD (rCon (.int 1)) (rCall g_law_take (rCons (rVar 0) (rCons (rCon (.int 64)) rNil)))) (rCons (rBin addD (rCon (.int 1)) (rCall g_law_take (rCons (rVar 0) (rCons (rCon (.int 4096)) rNil)))) rNil))))))))) (rCall g_law_take (rCons (rVar 0) (rCons (rCon (.int 8)) rNil)))))
    (sSeq (sAsg (.tp [3, 4, 5]) (rCall g_law_least (rCons (rVar 1) (rCons (rCal minD2 (rCons (rCon (.int 4096)) (rCons (rBin addD (rVar 1) (rVar 2)) rNil))) rNil))))
    (sRet (rTup (rCons (rVar 3) (rCons (rVar 4) rNil)))))))
def g_law_bounds : List D → Store → Res D := runDef 6 m_law_bounds
def m_law_rights : RS := (sSeq (sSet 1 (rCall g_law_take (rCons (rVar 0) (rCons (rCon (.int 8)) rNil))))
    (sSeq (sIf (rTest (rBin eqD (rVar 1) (rCon (.int 0))))
    (sRet (rBin ixD (rLst (rCons (rCon (.str "x")) (rCons (rCon (.str "fx")) rNil))) (rCall g_law_take (rCons (rVar 0) (rCons (rCon (.int 2)) rNil)))))
    sNil)
    (sSeq (sIf (rTest (rBin eqD (rVar 1) (rCon (.int 1))))
    (sRet (rBin ixD (rLst (rCons (rCon (.str "c")) (rCons (rCon (.str "o")) (rCons (rCon (.str "fco")) (rCons (rCon (.str "co")) (rCons (rCon (.str "fo")) rNil)))))) (rCall g_law_take (rCons (rVar 0) (rCons (rCon (.int 5)) rNil)))))
    sNil)
    (sSeq (sIf (rTest (rBin eqD (rVar 1) (rCon (.int 2))))
    (sRet (rBin ixD (rLst (rCons (rCon (.str "")) (rCons (rCon (.str "f")) rNil))) (rCall g_law_take (rCons (rVar 0) (rCons (rCon (.int 2)) rNil)))))
    sNil)
    (sSeq (sIf (rTest (rBin ltD (rVar 1) (rCon (.int 5))))
    (sRet (rBin ixD (rLst (rCons (rCon (.str "rwlsf")) (rCons (rCon (.str "rwlsn")) (rCons (rCon (.str "rwlsnf")) rNil)))) (rCall g_law_take (rCons (rVar 0) (rCons (rCon (.int 3)) rNil)))))
    sNil)
    (sRet (rMth "str" joinD (rCon (.str "")) (rCons (rLc frzL (rIt (rCon (.str "rwlsnf"))) (.nm 2) [2] (rTest (rBin gtD (rCall g_law_take (rCons (rVar 0) (rCons (rCon (.int 3)) rNil))) (rCon (.int 0)))) (rVar 2)) rNil))))))))
def g_law_rights : List D → Store → Res D := runDef 3 m_law_rights
def m_law_word : RS := (sSeq (sIf (rTest (rBin eqD (rCall g_law_take (rCons (rVar 0) (rCons (rCon (.int 5)) rNil))) (rCon (.int 0))))
    (sRet (rTup (rCons (rCon (.bl false)) (rCons (rBin ixD (rLst (rCons (rCon (.int 0)) (rCons (rCon (.int 1)) (rCons (rCon (.int 4095)) (rCons (rBin subD (rBin powD (rCon (.int 2)) (rCon (.int 45))) (rCon (.int 1))) (rCons (rCall g_law_take (rCons (rVar 0) (rCons (rBin powD (rCon (.int 2)) (rCon (.int 45))) rNil))) rNil)))))) (rCall g_law_take (rCons (rVar 0) (rCons (rCon (.int 5)) rNil)))) rNil))))
    sNil)
    (sSeq (sAsg (.tp [1, 2]) (rCall g_law_bounds (rCons (rVar 0) rNil)))
    (sSeq (sSet 3 (rCall g_law_rights (rCons (rVar 0) rNil)))
    (sSeq (sIf (rAndT (rOrT (rTest (rBin inD (rCon (.str "c")) (rVar 3))) (rTest (rBin inD (rCon (.str "o")) (rVar 3)))) (rTest (rBin gtD (rCall g_law_take (rCons (rVar 0) (rCons (rCon (.int 3)) rNil))) (rCon (.int 0)))))
    (sAsg (.tp [1, 2]) (rBin ixD (rLst (rCons (rTup (rCons (rCon (.int 3)) (rCons (rCon (.int 16)) rNil))) (rCons (rTup (rCons (rCon (.int 3)) (rCons (rCon (.int 4)) rNil))) (rCons (rTup (rCons (rCon (.int 5)) (rCons (rCon (.int 9)) rNil))) (rCons (rTup (rCons (rCon (.int 0)) (rCons (rCon (.int 16)) rNil))) (rCons (rTup (rCons (rCon (.int 2)) (rCons (rCon (.int 5)) rNil))) rNil)))))) (rCall g_law_take (rCons (rVar 0) (rCons (rCon (.int 5)) rNil)))))
    sNil)
    (sSeq (sSet 4 (rBin ixD (rLst (rCons (rVar 1) (rCons (rBin subD (rVar 2) (rCon (.int 1))) (rCons (rBin modD (rVar 2) (rCon (.int 4096))) (rCons (rBin addD (rVar 1) (rCall g_law_take (rCons (rVar 0) (rCons (rBin subD (rVar 2) (rVar 1)) rNil)))) (rCons (rCall g_law_take (rCons (rVar 0) (rCons (rCon (.int 4096)) rNil))) rNil)))))) (rCall g_law_take (rCons (rVar 0) (rCons (rCon (.int 5)) rNil)))))
    (sSeq (sSet 5 (rBin ixD (rLst (rCons (rCon (.int 0)) (rCons (rCon (.int 0)) (rCons (rCon (.int 0)) (rCons (rCon (.int 1)) (rCons (rCon (.int 2)) (rCons (rCon (.int 3)) (rCons (rCon (.int 4)) (rCons (rCon (.int 15)) (rCons (rCall g_law_take (rCons (rVar 0) (rCons (rCon (.int 16)) rNil))) rNil)))))))))) (rCall g_law_take (rCons (rVar 0) (rCons (rCon (.int 9)) rNil)))))
    (sSeq (sSet 6 (rCall g_law_made (rCons (rVar 1) (rCons (rVar 2) (rCons (rVar 4) (rCons (rVar 3) (rCons (rVar 5) rNil)))))))
    (sRet (rBin ixD (rLst (rCons (rVar 6) (rCons (rVar 6) (rCons (rVar 6) (rCons (rVar 6) (rCons (rTup (rCons (rCon (.bl false)) (rCons (rBin ixD (rVar 6) (rCon (.int 1))) rNil))) rNil)))))) (rCall g_law_take (rCons (rVar 0) (rCons (rCon (.int 5)) rNil))))))))))))
def g_law_word : List D → Store → Res D := runDef 7 m_law_word
def m_law_with_kind : RS := (sSeq (sAsg (.tp [2, 3, 4, 5, 6]) (rCall g_law_fields (rCons (rVar 0) rNil)))
    (sRet (rCall g_law_made (rCons (rVar 2) (rCons (rVar 3) (rCons (rVar 4) (rCons (rVar 5) (rCons (rVar 1) rNil))))))))
def g_law_with_kind : List D → Store → Res D := runDef 7 m_law_with_kind
def m_law_done : RS := (sSeq (sSet 3 (rCall g_law_take (rCons (rVar 0) (rCons (rCon (.int 8)) rNil))))
    (sSeq (sSet 4 (rBin ixD (rLst (rCons (rCall g_law_take (rCons (rVar 0) (rCons (rCon (.int 4096)) rNil))) (rCons (rCall g_law_take (rCons (rVar 0) (rCons (rCon (.int 40)) rNil))) rNil))) (rCall g_law_take (rCons (rVar 0) (rCons (rCon (.int 2)) rNil)))))
    (sSeq (sIf (rTest (rBin ltD (rVar 3) (rCon (.int 2))))
    (sRet (rCall g_walked (rCons (rVar 1) (rCons (rVar 4) rNil))))
    sNil)
    (sSeq (sIf (rTest (rBin ltD (rVar 3) (rCon (.int 4))))
    (sRet (rCallK g_narrowed [.p 0, .p 1, .k 0] (rCons (rVar 1) (rCons (rVar 4) rNil)) (rCons (rBin eqD (rCall g_law_take (rCons (rVar 0) (rCons (rCon (.int 2)) rNil))) (rCon (.int 0))) rNil)))
    sNil)
    (sSeq (sIf (rTest (rBin eqD (rVar 3) (rCon (.int 4))))
    (sRet (rCall g_lessened (rCons (rVar 1) (rCons (rCall g_law_rights (rCons (rVar 0) rNil)) rNil))))
    sNil)
    (sSeq (sIf (rTest (rBin eqD (rVar 3) (rCon (.int 5))))
    (sRet (rCall g_sealed (rCons (rVar 1) (rCons (rVar 2) rNil))))
    sNil)
    (sRet (rBin ixD (rLst (rCons (rCall g_opened (rCons (rVar 1) (rCons (rVar 2) rNil))) (rCons (rCall g_entry (rCons (rVar 1) rNil)) rNil))) (rBin subD (rVar 3) (rCon (.int 6)))))))))))
def g_law_done : List D → Store → Res D := runDef 5 m_law_done
def lb1_law_above : RS := (sSeq (sAsg (.tp [6, 7, 8, 9, 10]) (rCall g_law_fields (rCons (rVar 5) rNil)))
    (sSeq (sSet 11 (rCall g_law_with_kind (rCons (rVar 2) (rCons (rCon (.int 0)) rNil))))
    (sIf (rAndT (rTest (rBin gtD (rVar 4) (rCon (.int 2)))) (rAndT (rTest (rBin eqD (rVar 10) (rCon (.int 0)))) (rAndT (rTest (rBin inD (rCon (.str "o")) (rVar 9))) (rAndT (rTest (rChain (rVar 6) (rLink leD (rVar 4) (rLast ltD (rVar 7))))) (rTest (rBin ninD (rVar 11) (rVar 1)))))))
    (sExp (rMth "list" appendL (rVar 1) (rCons (rVar 11) rNil)))
    sNil)))
def lb2_law_above : RS := (sSeq (sSet 4 (rBin ixD (rCall g_law_fields (rCons (rVar 2) rNil)) (rCon (.int 4))))
    (sFor (rIt (rCal listT (rCons (rVar 1) rNil))) (.nm 5)
    lb1_law_above))
def lb3_law_above : RS := (sFor (rIt (rCal listT (rCons (rVar 1) rNil))) (.nm 2)
    lb2_law_above)
def m_law_above : RS := (sSeq (sSet 1 (rLcV mutL (rVar 0) (.nm 2) [2] (rTruth (rBin ixD (rVar 2) (rCon (.int 0)))) (rVar 2) 1000))
    (sSeq (sFor (rRan ran1 (rCons (rCal lenD (rCons (rVar 0) rNil)) rNil)) (.nm 3)
    lb3_law_above)
    (sRet (rVar 1))))
def g_law_above : List D → Store → Res D := runDef 12 m_law_above
def lb1_law : RS := (sSeq (sSet 6 (rBin ixD (rVar 3) (rCall g_law_take (rCons (rVar 2) (rCons (rCal lenD (rCons (rVar 3) rNil)) rNil)))))
    (sSeq (sSet 7 (rCall g_law_done (rCons (rVar 2) (rCons (rVar 6) (rCons (rBin ixD (rVar 3) (rCall g_law_take (rCons (rVar 2) (rCons (rCal lenD (rCons (rVar 3) rNil)) rNil)))) rNil)))))
    (sSeq (sIf (rOrT (rTest (rBin isNot (rCall g_is_lawful (rCons (rVar 7) rNil)) (rCon (.bl true)))) (rAndT (rTruth (rBin ixD (rVar 7) (rCon (.int 0)))) (rNotT (rTruth (rBin ixD (rVar 6) (rCon (.int 0)))))))
    (sRet (rCon (.bl false)))
    sNil)
    (sSeq (sIf (rAndT (rTruth (rBin ixD (rVar 7) (rCon (.int 0)))) (rTest (rBin eqD (rLcV frzL (rVar 5) (.nm 8) [8] (rTruth (rCall g_lies_within (rCons (rVar 7) (rCons (rVar 8) rNil)))) (rVar 8) 1000) (rLst rNil))))
    (sRet (rCon (.bl false)))
    sNil)
    (sExp (rMth "list" appendL (rVar 3) (rCons (rVar 7) rNil)))))))
def lb2_law : RS := (sSeq (sSet 2 (rCall g_law_pool (rCons (rVar 0) (rCons (rVar 1) rNil))))
    (sSeq (sSet 3 (rAddM (rLc frzL (rRan ran1 (rCons (rCon (.int 5)) rNil)) (.nm 4) [4] rYes (rCall g_law_word (rCons (rVar 2) rNil))) (rLst (rCons (rCall g_law_made (rCons (rCon (.int 3)) (rCons (rCon (.int 5)) (rCons (rCon (.int 4)) (rCons (rCon (.str "fco")) (rCons (rCon (.int 0)) rNil)))))) rNil))))
    (sSeq (sSet 5 (rCall g_law_above (rCons (rVar 3) rNil)))
    (sFor (rRan ran1 (rCons (rCon (.int 40)) rNil)) (.nm 4)
    lb1_law))))
def m_law : RS := (sSeq (sFor (rRan ran1 (rCons (rCal maxD2 (rCons (rCon (.int 1)) (rCons (rCal minD2 (rCons (rCal lenD (rCons (rVar 0) rNil)) (rCons (rCon (.int 6)) rNil))) rNil))) rNil)) (.nm 1)
    lb2_law)
    (sRet (rCon (.bl true))))
def g_law : List D → Store → Res D := runDef 9 m_law
structure Txt (K : PySem.W.Frag) (mg : Str → Option Value) (C A : Nat → Addr) (fd : Nat → FuncData) : Prop where
  f_is_whole : Fun K "is_whole" "is_whole" s_is_whole (A 0) (fd 0)
  b_is_whole : Binds K (fd 0) ["thing"] []
  g_is_whole : mg "is_whole" = some (.ref (A 0))
  f_least_in_bits : Fun K "least_in_bits" "least_in_bits" s_least_in_bits (A 1) (fd 1)
  b_least_in_bits : Binds K (fd 1) ["low", "high"] []
  g_least_in_bits : mg "least_in_bits" = some (.ref (A 1))
  f_from_bits : Fun K "from_bits" "from_bits" s_from_bits (A 2) (fd 2)
  b_from_bits : Binds K (fd 2) ["step", "first", "count"] []
  g_from_bits : mg "from_bits" = some (.ref (A 2))
  f_least_held : Fun K "least_held" "least_held" s_least_held (A 3) (fd 3)
  b_least_held : Binds K (fd 3) ["low", "high"] []
  g_least_held : mg "least_held" = some (.ref (A 3))
  f_is_word : Fun K "is_word" "is_word" s_is_word (A 4) (fd 4)
  b_is_word : Binds K (fd 4) ["thing"] []
  g_is_word : mg "is_word" = some (.ref (A 4))
  f_is_rights : Fun K "is_rights" "is_rights" s_is_rights (A 5) (fd 5)
  b_is_rights : Binds K (fd 5) ["thing"] []
  g_is_rights : mg "is_rights" = some (.ref (A 5))
  f_are_lawful : Fun K "are_lawful" "are_lawful" s_are_lawful (A 6) (fd 6)
  b_are_lawful : Binds K (fd 6) ["rights"] []
  g_are_lawful : mg "are_lawful" = some (.ref (A 6))
  f_rights_in : Fun K "rights_in" "rights_in" s_rights_in (A 7) (fd 7)
  b_rights_in : Binds K (fd 7) ["bits"] []
  g_rights_in : mg "rights_in" = some (.ref (A 7))
  f_fields_of : Fun K "fields_of" "fields_of" s_fields_of (A 8) (fd 8)
  b_fields_of : Binds K (fd 8) ["word"] []
  g_fields_of : mg "fields_of" = some (.ref (A 8))
  f_is_lawful : Fun K "is_lawful" "is_lawful" s_is_lawful (A 9) (fd 9)
  b_is_lawful : Binds K (fd 9) ["thing"] []
  g_is_lawful : mg "is_lawful" = some (.ref (A 9))
  f_are_fields : Fun K "are_fields" "are_fields" s_are_fields (A 10) (fd 10)
  b_are_fields : Binds K (fd 10) ["thing"] []
  g_are_fields : mg "are_fields" = some (.ref (A 10))
  f_word_of : FunD K "word_of" "word_of" (defArgs s_word_of) (defBody s_word_of) (defScope s_word_of) [] [("marked", .bl true)] (A 11) (fd 11)
  g_word_of : mg "word_of" = some (.ref (A 11))
  f_bare : Fun K "bare" "bare" s_bare (A 12) (fd 12)
  b_bare : Binds K (fd 12) ["word"] []
  g_bare : mg "bare" = some (.ref (A 12))
  f_is_open : Fun K "is_open" "is_open" s_is_open (A 13) (fd 13)
  b_is_open : Binds K (fd 13) ["word"] []
  g_is_open : mg "is_open" = some (.ref (A 13))
  f_kinds_within : Fun K "kinds_within" "kinds_within" s_kinds_within (A 14) (fd 14)
  b_kinds_within : Binds K (fd 14) ["one", "other"] []
  g_kinds_within : mg "kinds_within" = some (.ref (A 14))
  f_lies_within : Fun K "lies_within" "lies_within" s_lies_within (A 15) (fd 15)
  b_lies_within : Binds K (fd 15) ["one", "other"] []
  g_lies_within : mg "lies_within" = some (.ref (A 15))
  f_walked : Fun K "walked" "walked" s_walked (A 16) (fd 16)
  b_walked : Binds K (fd 16) ["word", "number"] []
  g_walked : mg "walked" = some (.ref (A 16))
  f_with_bounds : Fun K "with_bounds" "with_bounds" s_with_bounds (A 17) (fd 17)
  b_with_bounds : Binds K (fd 17) ["word", "low", "high"] []
  g_with_bounds : mg "with_bounds" = some (.ref (A 17))
  f_narrowed : FunD K "narrowed" "narrowed" (defArgs s_narrowed) (defBody s_narrowed) (defScope s_narrowed) [] [("exact", .bl false)] (A 18) (fd 18)
  g_narrowed : mg "narrowed" = some (.ref (A 18))
  f_with_rights : Fun K "with_rights" "with_rights" s_with_rights (A 19) (fd 19)
  b_with_rights : Binds K (fd 19) ["word", "rights"] []
  g_with_rights : mg "with_rights" = some (.ref (A 19))
  f_lessened : Fun K "lessened" "lessened" s_lessened (A 20) (fd 20)
  b_lessened : Binds K (fd 20) ["word", "rights"] []
  g_lessened : mg "lessened" = some (.ref (A 20))
  f_with_kind : Fun K "with_kind" "with_kind" s_with_kind (A 21) (fd 21)
  b_with_kind : Binds K (fd 21) ["word", "kind"] []
  g_with_kind : mg "with_kind" = some (.ref (A 21))
  f_kind_told : Fun K "kind_told" "kind_told" s_kind_told (A 22) (fd 22)
  b_kind_told : Binds K (fd 22) ["word", "right"] []
  g_kind_told : mg "kind_told" = some (.ref (A 22))
  f_sealed : Fun K "sealed" "sealed" s_sealed (A 23) (fd 23)
  b_sealed : Binds K (fd 23) ["word", "other"] []
  g_sealed : mg "sealed" = some (.ref (A 23))
  f_opened_by : Fun K "opened_by" "opened_by" s_opened_by (A 24) (fd 24)
  b_opened_by : Binds K (fd 24) ["word", "other"] []
  g_opened_by : mg "opened_by" = some (.ref (A 24))
  f_opened : Fun K "opened" "opened" s_opened (A 25) (fd 25)
  b_opened : Binds K (fd 25) ["word", "other"] []
  g_opened : mg "opened" = some (.ref (A 25))
  f_entry : Fun K "entry" "entry" s_entry (A 26) (fd 26)
  b_entry : Binds K (fd 26) ["word"] []
  g_entry : mg "entry" = some (.ref (A 26))
  f_law_pool : Fun K "_law_pool" "_law_pool" s_law_pool (A 27) (fd 27)
  b_law_pool : Binds K (fd 27) ["_law_script", "_law_k"] []
  g_law_pool : mg "_law_pool" = some (.ref (A 27))
  f_law_take : Fun K "_law_take" "_law_take" s_law_take (A 28) (fd 28)
  b_law_take : Binds K (fd 28) ["_law_pool_here", "_law_many"] []
  g_law_take : mg "_law_take" = some (.ref (A 28))
  f_law_least : Fun K "_law_least" "_law_least" s_law_least (A 29) (fd 29)
  b_law_least : Binds K (fd 29) ["_law_low", "_law_high"] []
  g_law_least : mg "_law_least" = some (.ref (A 29))
  f_law_fields : Fun K "_law_fields" "_law_fields" s_law_fields (A 30) (fd 30)
  b_law_fields : Binds K (fd 30) ["_law_word_here"] []
  g_law_fields : mg "_law_fields" = some (.ref (A 30))
  f_law_made : Fun K "_law_made" "_law_made" s_law_made (A 31) (fd 31)
  b_law_made : Binds K (fd 31) ["_law_low", "_law_high", "_law_at", "_law_rights_here", "_law_kind"] []
  g_law_made : mg "_law_made" = some (.ref (A 31))
  f_law_bounds : Fun K "_law_bounds" "_law_bounds" s_law_bounds (A 32) (fd 32)
  b_law_bounds : Binds K (fd 32) ["_law_pool_here"] []
  g_law_bounds : mg "_law_bounds" = some (.ref (A 32))
  f_law_rights : Fun K "_law_rights" "_law_rights" s_law_rights (A 33) (fd 33)
  b_law_rights : Binds K (fd 33) ["_law_pool_here"] []
  g_law_rights : mg "_law_rights" = some (.ref (A 33))
  f_law_word : Fun K "_law_word" "_law_word" s_law_word (A 34) (fd 34)
  b_law_word : Binds K (fd 34) ["_law_pool_here"] []
  g_law_word : mg "_law_word" = some (.ref (A 34))
  f_law_with_kind : Fun K "_law_with_kind" "_law_with_kind" s_law_with_kind (A 35) (fd 35)
  b_law_with_kind : Binds K (fd 35) ["_law_word_here", "_law_kind"] []
  g_law_with_kind : mg "_law_with_kind" = some (.ref (A 35))
  f_law_done : Fun K "_law_done" "_law_done" s_law_done (A 36) (fd 36)
  b_law_done : Binds K (fd 36) ["_law_pool_here", "_law_word_here", "_law_other"] []
  g_law_done : mg "_law_done" = some (.ref (A 36))
  f_law_above : Fun K "_law_above" "_law_above" s_law_above (A 37) (fd 37)
  b_law_above : Binds K (fd 37) ["_law_words"] []
  g_law_above : mg "_law_above" = some (.ref (A 37))
  f_law : Fun K "law" "law" s_law (A 38) (fd 38)
  b_law : Binds K (fd 38) ["_law_script"] []
  g_law : mg "law" = some (.ref (A 38))
  c_CELLS : ∃ t, mg "CELLS" = some (.int 4096 t)
  c_MOST_COUNT : ∃ t, mg "MOST_COUNT" = some (.int 16 t)
  c_MOST_STEP : ∃ t, mg "MOST_STEP" = some (.int 8 t)
  c_RIGHTS : ∃ t, mg "RIGHTS" = some (.str "rwlsnfxco" t)
  c_WORDS : ∃ t, mg "WORDS" = some (.int 35184372088832 t)
  c_KINDS : ∃ t, mg "KINDS" = some (.int 16 t)
  c_CELL_GROUP : ∃ t, mg "CELL_GROUP" = some (.str "rwlsn" t)
  c_GATE : ∃ t, mg "GATE" = some (.int 2 t)
  c_ENTRY : ∃ t, mg "ENTRY" = some (.int 1 t)
  c_LEAST_KIND : ∃ t, mg "LEAST_KIND" = some (.int 3 t)
  c_MOST_KIND : ∃ t, mg "MOST_KIND" = some (.int 15 t)
  z_abs : mg "abs" = none
  z_all : mg "all" = none
  z_any : mg "any" = none
  z_bool : mg "bool" = none
  z_enumerate : mg "enumerate" = none
  z_int : mg "int" = none
  z_isinstance : mg "isinstance" = none
  z_len : mg "len" = none
  z_list : mg "list" = none
  z_max : mg "max" = none
  z_min : mg "min" = none
  z_range : mg "range" = none
  z_str : mg "str" = none
  z_sum : mg "sum" = none
  z_tuple : mg "tuple" = none
  k_ReachError : mg "ReachError" = some (.ref (C 0))
  k_NoFields : mg "NoFields" = some (.ref (C 1))
  x_NoFields : PySem.W.excIn K (C 1) [.type "ValueError", .type "Exception", .type "BaseException", .type "object"] "ValueError.__new__" = true
  p_NoFields : PySem.W.keepIn K (.ref (C 1)) = true
  u_NoFields : PySem.W.subIn K (.ref (C 1)) (.type "BaseException") = some true
  y_NoFields : PySem.W.typeIn K (.ref (C 1)) = some (.type "type")
section
variable {P : Program} {w : World} {K : PySem.W.Frag} {mg : Str → Option Value} {base : Heap} {C A : Nat → Addr} {fd : Nat → FuncData}
theorem ok_is_whole (T : Txt K mg C A fd) : FnOk P w K mg base (L2.CX P w) 1 (A 0) (fd 0) ["thing"] (spOf K C 1 g_is_whole) :=
  fn_ev T.f_is_whole sc_is_whole fun cdv Ar outer s H E hr tk po =>
    (es_one (s_ret (ee_and (ee_isi (ee_var 0) rfl T.z_isinstance rfl T.z_int (by decide +kernel)) (ee_one (ee_not (ee_isi (ee_var 0) rfl T.z_isinstance rfl T.z_bool (by decide +kernel)))))))
theorem ok_least_in_bits (T : Txt K mg C A fd) : FnOk P w K mg base (L2.CX P w) 1 (A 1) (fd 1) ["low", "high"] (spOf K C 2 g_least_in_bits) :=
  fn_ev T.f_least_in_bits sc_least_in_bits fun cdv Ar outer s H E hr tk po =>
    (es_cons (s_set 2 sc_least_in_bits.nd ee_int)
    (es_cons (s_while 20 po (et_cmp gtD_ok (ee_op subD_ok (ee_un negD_ok (ee_op shrD_ok (ee_un negD_ok (ee_var 1)) (ee_var 2))) (ee_op shrD_ok (ee_var 0) (ee_var 2))) (ee_gI T.c_MOST_COUNT) (nomark _))
    (es_one (s_aug 2 sc_least_in_bits.nd iaddD_ok ee_int)))
    (es_cons (s_set 3 sc_least_in_bits.nd (ee_op shrD_ok (ee_var 0) (ee_var 2)))
    (es_one (s_ret (ee_tup (ea_cons (ee_var 2) (ea_cons (ee_var 3) (ea_cons (ee_op subD_ok (ee_un negD_ok (ee_op shrD_ok (ee_un negD_ok (ee_var 1)) (ee_var 2))) (ee_var 3)) ea_nil))) (al_cons (al_cons (al_cons al_nil)))))))))
theorem ok_from_bits (T : Txt K mg C A fd) : FnOk P w K mg base (L2.CX P w) 1 (A 2) (fd 2) ["step", "first", "count"] (spOf K C 3 g_from_bits) :=
  fn_ev T.f_from_bits sc_from_bits fun cdv Ar outer s H E hr tk po =>
    (es_one (s_ret (ee_tup (ea_cons (ee_op shlD_ok (ee_var 1) (ee_var 0)) (ea_cons (ee_op shlD_ok (ee_op addD_ok (ee_var 1) (ee_var 2)) (ee_var 0)) ea_nil)) (al_cons (al_cons al_nil)))))
theorem ok_least_held (T : Txt K mg C A fd) : FnOk P w K mg base (L2.CX P w) 2 (A 3) (fd 3) ["low", "high"] (spOf K C 2 g_least_held) :=
  fn_ev T.f_least_held sc_least_held fun cdv Ar outer s H E hr tk po =>
    (es_cons (s_asg (ee_callC (Cal.ok (ok_least_in_bits T) (hr.mono (by decide))) rfl T.g_least_in_bits T.f_least_in_bits.kp T.b_least_in_bits tk (ea_cons (ee_var 0) (ea_cons (ee_var 1) ea_nil)) (al_cons (al_cons al_nil))) (g_tp rfl (gs_cons 2 sc_least_held.nd (gs_cons 3 sc_least_held.nd (gs_cons 4 sc_least_held.nd gs_nil)))))
    (es_one (s_ret (ee_callC (Cal.ok (ok_from_bits T) (hr.mono (by decide))) rfl T.g_from_bits T.f_from_bits.kp T.b_from_bits tk (ea_cons (ee_var 2) (ea_cons (ee_var 3) (ea_cons (ee_var 4) ea_nil))) (al_cons (al_cons (al_cons al_nil)))))))
theorem ok_is_word (T : Txt K mg C A fd) : FnOk P w K mg base (L2.CX P w) 2 (A 4) (fd 4) ["thing"] (spOf K C 1 g_is_word) :=
  fn_ev T.f_is_word sc_is_word fun cdv Ar outer s H E hr tk po =>
    (es_cons (s_if (PW.pt (et_or (et_not (et_val (ee_isi (ee_var 0) rfl T.z_isinstance rfl T.z_tuple (by decide +kernel)))) (et_or (et_cmp (neD_ok hr.units) (ee_callB lenD_ok rfl T.z_len (by decide +kernel) (ea_cons (ee_var 0) ea_nil)) ee_int (nomark _)) (et_or1 (et_not (et_val (ee_isi (ee_ix (ee_var 0) ee_int) rfl T.z_isinstance rfl T.z_bool (by decide +kernel))))))))
    (es_one (s_ret ee_bl))
    es_nil)
    (es_one (s_ret (ee_and (ee_callC (Cal.ok (ok_is_whole T) (hr.mono (by decide))) rfl T.g_is_whole T.f_is_whole.kp T.b_is_whole tk (ea_cons (ee_ix (ee_var 0) ee_int) ea_nil) (al_cons al_nil)) (ee_one (ee_chain ee_int (ch_link leD_ok (ee_ix (ee_var 0) ee_int) (ch_last ltD_ok (ee_gI T.c_WORDS)))))))))
theorem ok_is_rights (T : Txt K mg C A fd) : FnOk P w K mg base (L2.CX P w) 1 (A 5) (fd 5) ["thing"] (spOf K C 1 g_is_rights) :=
  fn_ev T.f_is_rights sc_is_rights fun cdv Ar outer s H E hr tk po =>
    (es_one (s_ret (ee_and (ee_isi (ee_var 0) rfl T.z_isinstance rfl T.z_str (by decide +kernel)) (ee_one (ee_cmp (eqD_ok hr.units) (ee_var 0) (ee_mth F.plainAttrs_str F.slot_str_join F.type_str_join joinD_ok ee_str (ea_cons (ee_lc frzL_ok rfl sc_is_rights.nd (ei_seq (ee_gS T.c_RIGHTS)) (blkOk_by (N := ["thing", "right"]) (sc := defScope s_is_rights) (own := [("right", 1)]) (by first | decide +kernel | rfl)) rfl (by decide) (fun _ _ _ _ _ => (g_nm 1 sc_is_rights.nd)) (fun _ _ _ _ _ => (et_if1 (et_cmp (inD_ok hr.units) (ee_var 1) (ee_var 0) (by rfl)))) (fun _ _ _ _ _ => (ee_var 1))) ea_nil)) (nomark _))))))
theorem ok_are_lawful (T : Txt K mg C A fd) : FnOk P w K mg base (L2.CX P w) 1 (A 6) (fd 6) ["rights"] (spOf K C 1 g_are_lawful) :=
  fn_ev T.f_are_lawful sc_are_lawful fun cdv Ar outer s H E hr tk po =>
    (es_cons (s_set 1 sc_are_lawful.nd (ee_lst (ea_cons (ee_callB (anyD_ok rfl) rfl T.z_any (by decide +kernel) (ea_cons (ee_lc frzL_ok rfl sc_are_lawful.nd (ei_seq (ee_var 0)) (blkOk_by (N := ["rights", "groups", "right"]) (sc := defScope s_are_lawful) (own := [("right", 2)]) (by first | decide +kernel | rfl)) rfl (by decide) (fun _ _ _ _ _ => (g_nm 2 sc_are_lawful.nd)) (fun _ _ _ _ _ => et_yes) (fun _ _ _ _ _ => (ee_cmp (inD_ok hr.units) (ee_var 2) (ee_gS T.c_CELL_GROUP) (by rfl)))) ea_nil)) (ea_cons (ee_cmp (inD_ok hr.units) ee_str (ee_var 0) (by rfl)) (ea_cons (ee_or (ee_cmp (inD_ok hr.units) ee_str (ee_var 0) (by rfl)) (ee_one (ee_cmp (inD_ok hr.units) ee_str (ee_var 0) (by rfl)))) ea_nil))) (al_cons (al_cons (al_cons al_nil)))))
    (es_one (s_ret (ee_cmp leD_ok (ee_mth F.plainAttrs_list F.slot_list_count F.type_list_count (countL_ok hr.units) (ee_var 1) (ea_cons ee_bl ea_nil)) ee_int (nomark _)))))
theorem ok_rights_in (T : Txt K mg C A fd) : FnOk P w K mg base (L2.CX P w) 1 (A 7) (fd 7) ["bits"] (spOf K C 1 g_rights_in) :=
  fn_ev T.f_rights_in sc_rights_in fun cdv Ar outer s H E hr tk po =>
    (es_one (s_ret (ee_mth F.plainAttrs_str F.slot_str_join F.type_str_join joinD_ok ee_str (ea_cons (ee_lc frzL_ok rfl sc_rights_in.nd (ei_enum rfl T.z_enumerate (ea_cons (ee_gS T.c_RIGHTS) ea_nil)) (blkOk_by (N := ["bits", "place", "right"]) (sc := defScope s_rights_in) (own := [("place", 1), ("right", 2)]) (by first | decide +kernel | rfl)) rfl (by decide) (fun _ _ _ _ _ => (g_tp rfl (gs_cons 1 sc_rights_in.nd (gs_cons 2 sc_rights_in.nd gs_nil)))) (fun _ _ _ _ _ => (et_if1 (et_cmp (eqD_ok hr.units) (ee_op andD_ok (ee_op shrD_ok (ee_var 0) (ee_op addD_ok ee_int (ee_var 1))) ee_int) ee_int (nomark _)))) (fun _ _ _ _ _ => (ee_var 2))) ea_nil))))
theorem ok_fields_of (T : Txt K mg C A fd) : FnOk P w K mg base (L2.CX P w) 2 (A 8) (fd 8) ["word"] (spOf K C 1 g_fields_of) :=
  fn_ev T.f_fields_of sc_fields_of fun cdv Ar outer s H E hr tk po =>
    (es_cons (s_set 1 sc_fields_of.nd (ee_ix (ee_var 0) ee_int))
    (es_cons (s_par3 2 3 4 rfl sc_fields_of.nd (ea_cons (ee_op andD_ok (ee_op shrD_ok (ee_var 1) ee_int) ee_int) (ea_cons (ee_op addD_ok (ee_op andD_ok (ee_op shrD_ok (ee_var 1) ee_int) ee_int) ee_int) (ea_cons (ee_op andD_ok (ee_op shrD_ok (ee_var 1) ee_int) ee_int) ea_nil))))
    (es_cons (s_if (PW.pt (et_or (et_cmp gtD_ok (ee_var 4) (ee_gI T.c_MOST_STEP) (nomark _)) (et_or (PW.pt (et_and (et_cmp gtD_ok (ee_var 4) ee_int (nomark _)) (et_and1 (et_cmp leD_ok (ee_var 3) (ee_op divD_ok (ee_gI T.c_MOST_COUNT) ee_int) (nomark _))))) (et_or1 (et_cmp gtD_ok (ee_op shlD_ok (ee_op addD_ok (ee_var 2) (ee_var 3)) (ee_var 4)) (ee_gI T.c_CELLS) (nomark _))))))
    (es_one (s_ret ee_non))
    es_nil)
    (es_cons (s_asg (ee_callC (Cal.ok (ok_from_bits T) (hr.mono (by decide))) rfl T.g_from_bits T.f_from_bits.kp T.b_from_bits tk (ea_cons (ee_var 4) (ea_cons (ee_var 2) (ea_cons (ee_var 3) ea_nil))) (al_cons (al_cons (al_cons al_nil)))) (g_tp rfl (gs_cons 5 sc_fields_of.nd (gs_cons 6 sc_fields_of.nd gs_nil))))
    (es_one (s_ret (ee_tup (ea_cons (ee_var 5) (ea_cons (ee_var 6) (ea_cons (ee_op modD_ok (ee_var 1) (ee_gI T.c_CELLS)) (ea_cons (ee_callC (Cal.ok (ok_rights_in T) (hr.mono (by decide))) rfl T.g_rights_in T.f_rights_in.kp T.b_rights_in tk (ea_cons (ee_var 1) ea_nil) (al_cons al_nil)) (ea_cons (ee_op shrD_ok (ee_var 1) ee_int) ea_nil))))) (al_cons (al_cons (al_cons (al_cons (al_cons al_nil))))))))))))
theorem ok_is_lawful (T : Txt K mg C A fd) : FnOk P w K mg base (L2.CX P w) 3 (A 9) (fd 9) ["thing"] (spOf K C 1 g_is_lawful) :=
  fn_ev T.f_is_lawful sc_is_lawful fun cdv Ar outer s H E hr tk po =>
    (es_cons (s_if (et_not (et_val (ee_callC (Cal.ok (ok_is_word T) (hr.mono (by decide))) rfl T.g_is_word T.f_is_word.kp T.b_is_word tk (ea_cons (ee_var 0) ea_nil) (al_cons al_nil))))
    (es_one (s_ret ee_bl))
    es_nil)
    (es_cons (s_set 1 sc_is_lawful.nd (ee_callC (Cal.ok (ok_fields_of T) (hr.mono (by decide))) rfl T.g_fields_of T.f_fields_of.kp T.b_fields_of tk (ea_cons (ee_var 0) ea_nil) (al_cons al_nil)))
    (es_one (s_ret (ee_or (ee_not (ee_ix (ee_var 0) ee_int)) (ee_one (ee_and (ee_cmp isNot_ok (ee_var 1) ee_non (nomark _)) (ee_one (ee_callC (Cal.ok (ok_are_lawful T) (hr.mono (by decide))) rfl T.g_are_lawful T.f_are_lawful.kp T.b_are_lawful tk (ea_cons (ee_ix (ee_var 1) ee_int) ea_nil) (al_cons al_nil))))))))))
theorem ok_are_fields (T : Txt K mg C A fd) : FnOk P w K mg base (L2.CX P w) 3 (A 10) (fd 10) ["thing"] (spOf K C 1 g_are_fields) :=
  fn_ev T.f_are_fields sc_are_fields fun cdv Ar outer s H E hr tk po =>
    (es_cons (s_if (PW.pt (et_or (et_not (et_val (ee_isi (ee_var 0) rfl T.z_isinstance rfl T.z_tuple (by decide +kernel)))) (et_or (et_cmp (neD_ok hr.units) (ee_callB lenD_ok rfl T.z_len (by decide +kernel) (ea_cons (ee_var 0) ea_nil)) ee_int (nomark _)) (et_or1 (et_not (et_val (ee_callB (allD_ok rfl) rfl T.z_all (by decide +kernel) (ea_cons (ee_lc frzL_ok rfl sc_are_fields.nd (ei_seq (ee_tup (ea_cons ee_int (ea_cons ee_int (ea_cons ee_int (ea_cons ee_int ea_nil)))) (al_cons (al_cons (al_cons (al_cons al_nil)))))) (blkOk_by (N := ["thing", "place", "low", "high", "at", "rights", "kind"]) (sc := defScope s_are_fields) (own := [("place", 1)]) (by first | decide +kernel | rfl)) rfl (by decide) (fun _ _ _ _ _ => (g_nm 1 sc_are_fields.nd)) (fun _ _ _ _ _ => et_yes) (fun _ _ _ _ _ => (ee_callC (Cal.ok (ok_is_whole T) (hr.mono (by decide))) rfl T.g_is_whole T.f_is_whole.kp T.b_is_whole takes0 (ea_cons (ee_ix (ee_var 0) (ee_var 1)) ea_nil) (al_cons al_nil)))) ea_nil))))))))
    (es_one (s_ret ee_bl))
    es_nil)
    (es_cons (s_asg (ee_var 0) (g_tp rfl (gs_cons 2 sc_are_fields.nd (gs_cons 3 sc_are_fields.nd (gs_cons 4 sc_are_fields.nd (gs_cons 5 sc_are_fields.nd (gs_cons 6 sc_are_fields.nd gs_nil)))))))
    (es_cons (s_if (PW.pt (et_or (et_not (et_chain ee_int (ch_link leD_ok (ee_var 2) (ch_link ltD_ok (ee_var 3) (ch_last leD_ok (ee_gI T.c_CELLS)))))) (et_or (et_not (et_chain ee_int (ch_link leD_ok (ee_var 4) (ch_last ltD_ok (ee_gI T.c_CELLS))))) (et_or1 (et_not (et_chain ee_int (ch_link leD_ok (ee_var 6) (ch_last ltD_ok (ee_gI T.c_KINDS)))))))))
    (es_one (s_ret ee_bl))
    es_nil)
    (es_one (s_ret (ee_and (ee_callC (Cal.ok (ok_is_rights T) (hr.mono (by decide))) rfl T.g_is_rights T.f_is_rights.kp T.b_is_rights tk (ea_cons (ee_var 5) ea_nil) (al_cons al_nil)) (ee_and (ee_callC (Cal.ok (ok_are_lawful T) (hr.mono (by decide))) rfl T.g_are_lawful T.f_are_lawful.kp T.b_are_lawful tk (ea_cons (ee_var 5) ea_nil) (al_cons al_nil)) (ee_one (ee_cmp (eqD_ok hr.units) (ee_callC (Cal.ok (ok_least_held T) (hr.mono (by decide))) rfl T.g_least_held T.f_least_held.kp T.b_least_held tk (ea_cons (ee_var 2) (ea_cons (ee_var 3) ea_nil)) (al_cons (al_cons al_nil))) (ee_tup (ea_cons (ee_var 2) (ea_cons (ee_var 3) ea_nil)) (al_cons (al_cons al_nil))) (nomark _))))))))))
theorem bk_word_of_1_x (T : Txt K mg C A fd) : BindK K (fd 11) ["fields", "marked"] 1 [] [.p 0, .c (.bl true)] :=
  BindK.lack T.f_word_of (by simp) [("marked", .bl true)] (by simp) fun D doc pm an cdv ct us ws mv h1 h2 h3 rv => match us, ws, mv, h1, h2, h3, rv with | [u0], [], [m0], _, _, _, .cons r0 (.nil) => ⟨[u0, m0], ⟨_, _, _, _, _, _, rfl, rfl, rfl⟩, (.cons rfl (.cons r0 .nil))⟩
theorem ok_word_of (T : Txt K mg C A fd) : FnOk P w K mg base (L2.CX P w) 4 (A 11) (fd 11) ["fields", "marked"] (spOf K C 2 g_word_of) :=
  fnD_ev T.f_word_of sc_word_of fun cdv Ar outer s H E hr tk po =>
    (es_cons (s_if (et_not (et_val (ee_callC (Cal.ok (ok_are_fields T) (hr.mono (by decide))) rfl T.g_are_fields T.f_are_fields.kp T.b_are_fields tk (ea_cons (ee_var 0) ea_nil) (al_cons al_nil))))
    (es_one (s_raise0 cl_NoFields rfl tk PySem.F.excBase_ValueError T.x_NoFields T.k_NoFields T.p_NoFields (raises_own T.u_NoFields T.y_NoFields) rfl))
    es_nil)
    (es_cons (s_asg (ee_var 0) (g_tp rfl (gs_cons 2 sc_word_of.nd (gs_cons 3 sc_word_of.nd (gs_cons 4 sc_word_of.nd (gs_cons 5 sc_word_of.nd (gs_cons 6 sc_word_of.nd gs_nil)))))))
    (es_cons (s_asg (ee_callC (Cal.ok (ok_least_in_bits T) (hr.mono (by decide))) rfl T.g_least_in_bits T.f_least_in_bits.kp T.b_least_in_bits tk (ea_cons (ee_var 2) (ea_cons (ee_var 3) ea_nil)) (al_cons (al_cons al_nil))) (g_tp rfl (gs_cons 7 sc_word_of.nd (gs_cons 8 sc_word_of.nd (gs_cons 9 sc_word_of.nd gs_nil)))))
    (es_cons (s_set 10 sc_word_of.nd (ee_op addD_ok (ee_op addD_ok (ee_op addD_ok (ee_op addD_ok (ee_var 4) (ee_op shlD_ok (ee_var 8) ee_int)) (ee_op shlD_ok (ee_op subD_ok (ee_var 9) ee_int) ee_int)) (ee_op shlD_ok (ee_var 7) ee_int)) (ee_op shlD_ok (ee_var 6) ee_int)))
    (es_one (s_ret (ee_tup (ea_cons (ee_var 1) (ea_cons (ee_op addD_ok (ee_var 10) (ee_callB (sumD_ok rfl) rfl T.z_sum (by decide +kernel) (ea_cons (ee_lc frzL_ok rfl sc_word_of.nd (ei_seq (ee_var 5)) (blkOk_by (N := ["fields", "marked", "low", "high", "at", "rights", "kind", "step", "first", "count", "bits", "right"]) (sc := defScope s_word_of) (own := [("right", 11)]) (by first | decide +kernel | rfl)) rfl (by decide) (fun _ _ _ _ _ => (g_nm 11 sc_word_of.nd)) (fun _ _ _ _ _ => et_yes) (fun _ _ _ _ _ => (ee_op shlD_ok ee_int (ee_op addD_ok ee_int (ee_mth F.plainAttrs_str F.slot_str_index F.type_str_index indexS_ok (ee_gS T.c_RIGHTS) (ea_cons (ee_var 11) ea_nil)))))) ea_nil))) ea_nil)) (al_cons (al_cons al_nil)))))))))
theorem ok_bare (T : Txt K mg C A fd) : FnOk P w K mg base (L2.CX P w) 1 (A 12) (fd 12) ["word"] (spOf K C 1 g_bare) :=
  fn_ev T.f_bare sc_bare fun cdv Ar outer s H E hr tk po =>
    (es_one (s_ret (ee_tup (ea_cons ee_bl (ea_cons (ee_ix (ee_var 0) ee_int) ea_nil)) (al_cons (al_cons al_nil)))))
theorem ok_is_open (T : Txt K mg C A fd) : FnOk P w K mg base (L2.CX P w) 3 (A 13) (fd 13) ["word"] (spOf K C 1 g_is_open) :=
  fn_ev T.f_is_open sc_is_open fun cdv Ar outer s H E hr tk po =>
    (es_one (s_ret (ee_and (ee_ix (ee_var 0) ee_int) (ee_one (ee_cmp (eqD_ok hr.units) (ee_ix (ee_callC (Cal.ok (ok_fields_of T) (hr.mono (by decide))) rfl T.g_fields_of T.f_fields_of.kp T.b_fields_of tk (ea_cons (ee_var 0) ea_nil) (al_cons al_nil)) ee_int) ee_int (nomark _))))))
theorem ok_kinds_within (T : Txt K mg C A fd) : FnOk P w K mg base (L2.CX P w) 1 (A 14) (fd 14) ["one", "other"] (spOf K C 2 g_kinds_within) :=
  fn_ev T.f_kinds_within sc_kinds_within fun cdv Ar outer s H E hr tk po =>
    (es_one (s_ret (ee_or (ee_cmp (eqD_ok hr.units) (ee_var 0) (ee_var 1) (nomark _)) (ee_one (ee_and (ee_cmp (eqD_ok hr.units) (ee_var 1) ee_int (nomark _)) (ee_one (ee_cmp (neD_ok hr.units) (ee_var 0) (ee_gI T.c_GATE) (nomark _))))))))
theorem ok_lies_within (T : Txt K mg C A fd) : FnOk P w K mg base (L2.CX P w) 3 (A 15) (fd 15) ["one", "other"] (spOf K C 2 g_lies_within) :=
  fn_ev T.f_lies_within sc_lies_within fun cdv Ar outer s H E hr tk po =>
    (es_cons (s_asg (ee_callC (Cal.ok (ok_fields_of T) (hr.mono (by decide))) rfl T.g_fields_of T.f_fields_of.kp T.b_fields_of tk (ea_cons (ee_var 0) ea_nil) (al_cons al_nil)) (g_tp rfl (gs_cons 2 sc_lies_within.nd (gs_cons 3 sc_lies_within.nd (gs_cons 4 sc_lies_within.nd (gs_cons 5 sc_lies_within.nd (gs_cons 6 sc_lies_within.nd gs_nil)))))))
    (es_cons (s_asg (ee_callC (Cal.ok (ok_fields_of T) (hr.mono (by decide))) rfl T.g_fields_of T.f_fields_of.kp T.b_fields_of tk (ea_cons (ee_var 1) ea_nil) (al_cons al_nil)) (g_tp rfl (gs_cons 7 sc_lies_within.nd (gs_cons 8 sc_lies_within.nd (gs_cons 9 sc_lies_within.nd (gs_cons 10 sc_lies_within.nd (gs_cons 11 sc_lies_within.nd gs_nil)))))))
    (es_cons (s_if (PW.pt (et_or (et_cmp ltD_ok (ee_var 2) (ee_var 7) (nomark _)) (et_or (et_cmp gtD_ok (ee_var 3) (ee_var 8) (nomark _)) (et_or1 (et_not (et_val (ee_callC (Cal.ok (ok_kinds_within T) (hr.mono (by decide))) rfl T.g_kinds_within T.f_kinds_within.kp T.b_kinds_within tk (ea_cons (ee_var 6) (ea_cons (ee_var 11) ea_nil)) (al_cons (al_cons al_nil)))))))))
    (es_one (s_ret ee_bl))
    es_nil)
    (es_one (s_ret (ee_callB (allD_ok rfl) rfl T.z_all (by decide +kernel) (ea_cons (ee_lc frzL_ok rfl sc_lies_within.nd (ei_seq (ee_var 5)) (blkOk_by (N := ["one", "other", "low", "high", "at", "rights", "kind", "other_low", "other_high", "other_at", "other_rights", "other_kind", "right"]) (sc := defScope s_lies_within) (own := [("right", 12)]) (by first | decide +kernel | rfl)) rfl (by decide) (fun _ _ _ _ _ => (g_nm 12 sc_lies_within.nd)) (fun _ _ _ _ _ => et_yes) (fun _ _ _ _ _ => (ee_cmp (inD_ok hr.units) (ee_var 12) (ee_var 10) (by rfl)))) ea_nil)))))))
theorem ok_walked (T : Txt K mg C A fd) : FnOk P w K mg base (L2.CX P w) 4 (A 16) (fd 16) ["word", "number"] (spOf K C 2 g_walked) :=
  fn_ev T.f_walked sc_walked fun cdv Ar outer s H E hr tk po =>
    (es_cons (s_set 2 sc_walked.nd (ee_op modD_ok (ee_op addD_ok (ee_ix (ee_var 0) ee_int) (ee_var 1)) (ee_gI T.c_CELLS)))
    (es_cons (s_set 3 sc_walked.nd (ee_op addD_ok (ee_op subD_ok (ee_ix (ee_var 0) ee_int) (ee_op modD_ok (ee_ix (ee_var 0) ee_int) (ee_gI T.c_CELLS))) (ee_var 2)))
    (es_cons (s_if (et_not (et_val (ee_ix (ee_var 0) ee_int)))
    (es_one (s_ret (ee_tup (ea_cons ee_bl (ea_cons (ee_var 3) ea_nil)) (al_cons (al_cons al_nil)))))
    es_nil)
    (es_one (s_ret (ee_if (et_val (ee_callC (Cal.ok (ok_is_open T) (hr.mono (by decide))) rfl T.g_is_open T.f_is_open.kp T.b_is_open tk (ea_cons (ee_var 0) ea_nil) (al_cons al_nil))) (ee_tup (ea_cons ee_bl (ea_cons (ee_var 3) ea_nil)) (al_cons (al_cons al_nil))) (ee_callC (Cal.ok (ok_bare T) (hr.mono (by decide))) rfl T.g_bare T.f_bare.kp T.b_bare tk (ea_cons (ee_var 0) ea_nil) (al_cons al_nil))))))))
theorem ok_with_bounds (T : Txt K mg C A fd) : FnOk P w K mg base (L2.CX P w) 5 (A 17) (fd 17) ["word", "low", "high"] (spOf K C 3 g_with_bounds) :=
  fn_ev T.f_with_bounds sc_with_bounds fun cdv Ar outer s H E hr tk po =>
    (es_cons (s_asg (ee_callC (Cal.ok (ok_fields_of T) (hr.mono (by decide))) rfl T.g_fields_of T.f_fields_of.kp T.b_fields_of tk (ea_cons (ee_var 0) ea_nil) (al_cons al_nil)) (g_tp rfl (gs_cons 3 sc_with_bounds.nd (gs_cons 4 sc_with_bounds.nd (gs_cons 5 sc_with_bounds.nd (gs_cons 6 sc_with_bounds.nd (gs_cons 7 sc_with_bounds.nd gs_nil)))))))
    (es_one (s_ret (ee_callK (Cal.ok (ok_word_of T) (hr.mono (by decide))) rfl T.g_word_of T.f_word_of.kp (bk_word_of_1_x T) rfl tk (ea_cons (ee_tup (ea_cons (ee_var 1) (ea_cons (ee_var 2) (ea_cons (ee_var 5) (ea_cons (ee_var 6) (ea_cons (ee_var 7) ea_nil))))) (al_cons (al_cons (al_cons (al_cons (al_cons al_nil)))))) ea_nil) (al_cons al_nil) ek_nil al_nil))))
theorem bk_narrowed_2_exact (T : Txt K mg C A fd) : BindK K (fd 18) ["word", "many", "exact"] 2 ["exact"] [.p 0, .p 1, .k 0] :=
  BindK.plain T.f_narrowed fun kV doc pm an cdv ct us ws h1 h2 => match us, ws, h1, h2 with | [u0, u1], [w0], _, _ => ⟨[u0, u1, w0], rfl, (.cons rfl (.cons rfl (.cons rfl .nil)))⟩
theorem ok_narrowed (T : Txt K mg C A fd) : FnOk P w K mg base (L2.CX P w) 6 (A 18) (fd 18) ["word", "many", "exact"] (spOf K C 3 g_narrowed) :=
  fnD_ev T.f_narrowed sc_narrowed fun cdv Ar outer s H E hr tk po =>
    (es_cons (s_if (et_not (et_val (ee_callC (Cal.ok (ok_is_open T) (hr.mono (by decide))) rfl T.g_is_open T.f_is_open.kp T.b_is_open tk (ea_cons (ee_var 0) ea_nil) (al_cons al_nil))))
    (es_one (s_ret (ee_callC (Cal.ok (ok_bare T) (hr.mono (by decide))) rfl T.g_bare T.f_bare.kp T.b_bare tk (ea_cons (ee_var 0) ea_nil) (al_cons al_nil))))
    es_nil)
    (es_cons (s_asg (ee_callC (Cal.ok (ok_fields_of T) (hr.mono (by decide))) rfl T.g_fields_of T.f_fields_of.kp T.b_fields_of tk (ea_cons (ee_var 0) ea_nil) (al_cons al_nil)) (g_tp rfl (gs_cons 3 sc_narrowed.nd (gs_cons 4 sc_narrowed.nd (gs_cons 5 sc_narrowed.nd (gs_cons 6 sc_narrowed.nd (gs_cons 7 sc_narrowed.nd gs_nil)))))))
    (es_cons (s_if (PW.pt (et_or (et_cmp ltD_ok (ee_var 1) ee_int (nomark _)) (et_or1 (et_cmp gtD_ok (ee_op addD_ok (ee_var 5) (ee_var 1)) (ee_gI T.c_CELLS) (nomark _)))))
    (es_one (s_ret (ee_callC (Cal.ok (ok_bare T) (hr.mono (by decide))) rfl T.g_bare T.f_bare.kp T.b_bare tk (ea_cons (ee_var 0) ea_nil) (al_cons al_nil))))
    es_nil)
    (es_cons (s_asg (ee_callC (Cal.ok (ok_least_held T) (hr.mono (by decide))) rfl T.g_least_held T.f_least_held.kp T.b_least_held tk (ea_cons (ee_var 5) (ea_cons (ee_op addD_ok (ee_var 5) (ee_var 1)) ea_nil)) (al_cons (al_cons al_nil))) (g_tp rfl (gs_cons 8 sc_narrowed.nd (gs_cons 9 sc_narrowed.nd gs_nil))))
    (es_cons (s_if (PW.pt (et_or (et_cmp ltD_ok (ee_var 8) (ee_var 3) (nomark _)) (et_or (et_cmp gtD_ok (ee_var 9) (ee_var 4) (nomark _)) (et_or1 (PW.pt (et_and (et_val (ee_var 2)) (et_and1 (et_cmp (neD_ok hr.units) (ee_tup (ea_cons (ee_var 8) (ea_cons (ee_var 9) ea_nil)) (al_cons (al_cons al_nil))) (ee_tup (ea_cons (ee_var 5) (ea_cons (ee_op addD_ok (ee_var 5) (ee_var 1)) ea_nil)) (al_cons (al_cons al_nil))) (nomark _)))))))))
    (es_one (s_ret (ee_callC (Cal.ok (ok_bare T) (hr.mono (by decide))) rfl T.g_bare T.f_bare.kp T.b_bare tk (ea_cons (ee_var 0) ea_nil) (al_cons al_nil))))
    es_nil)
    (es_one (s_ret (ee_callC (Cal.ok (ok_with_bounds T) (hr.mono (by decide))) rfl T.g_with_bounds T.f_with_bounds.kp T.b_with_bounds tk (ea_cons (ee_var 0) (ea_cons (ee_var 8) (ea_cons (ee_var 9) ea_nil))) (al_cons (al_cons (al_cons al_nil)))))))))))
theorem ok_with_rights (T : Txt K mg C A fd) : FnOk P w K mg base (L2.CX P w) 5 (A 19) (fd 19) ["word", "rights"] (spOf K C 2 g_with_rights) :=
  fn_ev T.f_with_rights sc_with_rights fun cdv Ar outer s H E hr tk po =>
    (es_cons (s_asg (ee_callC (Cal.ok (ok_fields_of T) (hr.mono (by decide))) rfl T.g_fields_of T.f_fields_of.kp T.b_fields_of tk (ea_cons (ee_var 0) ea_nil) (al_cons al_nil)) (g_tp rfl (gs_cons 2 sc_with_rights.nd (gs_cons 3 sc_with_rights.nd (gs_cons 4 sc_with_rights.nd (gs_cons 5 sc_with_rights.nd (gs_cons 6 sc_with_rights.nd gs_nil)))))))
    (es_one (s_ret (ee_callK (Cal.ok (ok_word_of T) (hr.mono (by decide))) rfl T.g_word_of T.f_word_of.kp (bk_word_of_1_x T) rfl tk (ea_cons (ee_tup (ea_cons (ee_var 2) (ea_cons (ee_var 3) (ea_cons (ee_var 4) (ea_cons (ee_var 1) (ea_cons (ee_var 6) ea_nil))))) (al_cons (al_cons (al_cons (al_cons (al_cons al_nil)))))) ea_nil) (al_cons al_nil) ek_nil al_nil))))
theorem ok_lessened (T : Txt K mg C A fd) : FnOk P w K mg base (L2.CX P w) 6 (A 20) (fd 20) ["word", "rights"] (spOf K C 2 g_lessened) :=
  fn_ev T.f_lessened sc_lessened fun cdv Ar outer s H E hr tk po =>
    (es_cons (s_if (et_not (et_val (ee_callC (Cal.ok (ok_is_open T) (hr.mono (by decide))) rfl T.g_is_open T.f_is_open.kp T.b_is_open tk (ea_cons (ee_var 0) ea_nil) (al_cons al_nil))))
    (es_one (s_ret (ee_callC (Cal.ok (ok_bare T) (hr.mono (by decide))) rfl T.g_bare T.f_bare.kp T.b_bare tk (ea_cons (ee_var 0) ea_nil) (al_cons al_nil))))
    es_nil)
    (es_one (s_ret (ee_callC (Cal.ok (ok_with_rights T) (hr.mono (by decide))) rfl T.g_with_rights T.f_with_rights.kp T.b_with_rights tk (ea_cons (ee_var 0) (ea_cons (ee_mth F.plainAttrs_str F.slot_str_join F.type_str_join joinD_ok ee_str (ea_cons (ee_lc frzL_ok rfl sc_lessened.nd (ei_seq (ee_ix (ee_callC (Cal.ok (ok_fields_of T) (hr.mono (by decide))) rfl T.g_fields_of T.f_fields_of.kp T.b_fields_of tk (ea_cons (ee_var 0) ea_nil) (al_cons al_nil)) ee_int)) (blkOk_by (N := ["word", "rights", "right"]) (sc := defScope s_lessened) (own := [("right", 2)]) (by first | decide +kernel | rfl)) rfl (by decide) (fun _ _ _ _ _ => (g_nm 2 sc_lessened.nd)) (fun _ _ _ _ _ => (et_if1 (et_cmp (inD_ok hr.units) (ee_var 2) (ee_var 1) (by rfl)))) (fun _ _ _ _ _ => (ee_var 2))) ea_nil)) ea_nil)) (al_cons (al_cons al_nil))))))
theorem ok_with_kind (T : Txt K mg C A fd) : FnOk P w K mg base (L2.CX P w) 5 (A 21) (fd 21) ["word", "kind"] (spOf K C 2 g_with_kind) :=
  fn_ev T.f_with_kind sc_with_kind fun cdv Ar outer s H E hr tk po =>
    (es_cons (s_asg (ee_callC (Cal.ok (ok_fields_of T) (hr.mono (by decide))) rfl T.g_fields_of T.f_fields_of.kp T.b_fields_of tk (ea_cons (ee_var 0) ea_nil) (al_cons al_nil)) (g_tp rfl (gs_cons 2 sc_with_kind.nd (gs_cons 3 sc_with_kind.nd (gs_cons 4 sc_with_kind.nd (gs_cons 5 sc_with_kind.nd (gs_cons 6 sc_with_kind.nd gs_nil)))))))
    (es_one (s_ret (ee_callK (Cal.ok (ok_word_of T) (hr.mono (by decide))) rfl T.g_word_of T.f_word_of.kp (bk_word_of_1_x T) rfl tk (ea_cons (ee_tup (ea_cons (ee_var 2) (ea_cons (ee_var 3) (ea_cons (ee_var 4) (ea_cons (ee_var 5) (ea_cons (ee_var 1) ea_nil))))) (al_cons (al_cons (al_cons (al_cons (al_cons al_nil)))))) ea_nil) (al_cons al_nil) ek_nil al_nil))))
theorem ok_kind_told (T : Txt K mg C A fd) : FnOk P w K mg base (L2.CX P w) 4 (A 22) (fd 22) ["word", "right"] (spOf K C 2 g_kind_told) :=
  fn_ev T.f_kind_told sc_kind_told fun cdv Ar outer s H E hr tk po =>
    (es_cons (s_if (et_not (et_val (ee_callC (Cal.ok (ok_is_open T) (hr.mono (by decide))) rfl T.g_is_open T.f_is_open.kp T.b_is_open tk (ea_cons (ee_var 0) ea_nil) (al_cons al_nil))))
    (es_one (s_ret ee_non))
    es_nil)
    (es_cons (s_asg (ee_callC (Cal.ok (ok_fields_of T) (hr.mono (by decide))) rfl T.g_fields_of T.f_fields_of.kp T.b_fields_of tk (ea_cons (ee_var 0) ea_nil) (al_cons al_nil)) (g_tp rfl (gs_cons 2 sc_kind_told.nd (gs_cons 3 sc_kind_told.nd (gs_cons 4 sc_kind_told.nd (gs_cons 5 sc_kind_told.nd (gs_cons 6 sc_kind_told.nd gs_nil)))))))
    (es_cons (s_if (PW.pt (et_or (et_cmp (ninD_ok hr.units) (ee_var 1) (ee_var 5) (by rfl)) (et_or (et_not (et_chain (ee_var 2) (ch_link leD_ok (ee_var 4) (ch_last ltD_ok (ee_var 3))))) (et_or1 (et_not (et_chain (ee_gI T.c_LEAST_KIND) (ch_link leD_ok (ee_var 4) (ch_last leD_ok (ee_gI T.c_MOST_KIND)))))))))
    (es_one (s_ret ee_non))
    es_nil)
    (es_one (s_ret (ee_var 4))))))
theorem ok_sealed (T : Txt K mg C A fd) : FnOk P w K mg base (L2.CX P w) 6 (A 23) (fd 23) ["word", "other"] (spOf K C 2 g_sealed) :=
  fn_ev T.f_sealed sc_sealed fun cdv Ar outer s H E hr tk po =>
    (es_cons (s_set 2 sc_sealed.nd (ee_callC (Cal.ok (ok_kind_told T) (hr.mono (by decide))) rfl T.g_kind_told T.f_kind_told.kp T.b_kind_told tk (ea_cons (ee_var 1) (ea_cons ee_str ea_nil)) (al_cons (al_cons al_nil))))
    (es_cons (s_if (PW.pt (et_or (et_not (et_val (ee_callC (Cal.ok (ok_is_open T) (hr.mono (by decide))) rfl T.g_is_open T.f_is_open.kp T.b_is_open tk (ea_cons (ee_var 0) ea_nil) (al_cons al_nil)))) (et_or1 (et_cmp isN_ok (ee_var 2) ee_non (nomark _)))))
    (es_one (s_ret (ee_callC (Cal.ok (ok_bare T) (hr.mono (by decide))) rfl T.g_bare T.f_bare.kp T.b_bare tk (ea_cons (ee_var 0) ea_nil) (al_cons al_nil))))
    es_nil)
    (es_one (s_ret (ee_callC (Cal.ok (ok_with_kind T) (hr.mono (by decide))) rfl T.g_with_kind T.f_with_kind.kp T.b_with_kind tk (ea_cons (ee_var 0) (ea_cons (ee_var 2) ea_nil)) (al_cons (al_cons al_nil)))))))
theorem ok_opened_by (T : Txt K mg C A fd) : FnOk P w K mg base (L2.CX P w) 6 (A 24) (fd 24) ["word", "other"] (spOf K C 2 g_opened_by) :=
  fn_ev T.f_opened_by sc_opened_by fun cdv Ar outer s H E hr tk po =>
    (es_cons (s_set 2 sc_opened_by.nd (ee_callC (Cal.ok (ok_with_kind T) (hr.mono (by decide))) rfl T.g_with_kind T.f_with_kind.kp T.b_with_kind tk (ea_cons (ee_var 0) (ea_cons ee_int ea_nil)) (al_cons (al_cons al_nil))))
    (es_cons (s_if (et_cmp (inD_ok hr.units) ee_str (ee_ix (ee_callC (Cal.ok (ok_fields_of T) (hr.mono (by decide))) rfl T.g_fields_of T.f_fields_of.kp T.b_fields_of tk (ea_cons (ee_var 1) ea_nil) (al_cons al_nil)) ee_int) (by rfl))
    (es_one (s_ret (ee_var 2)))
    es_nil)
    (es_one (s_ret (ee_callC (Cal.ok (ok_with_rights T) (hr.mono (by decide))) rfl T.g_with_rights T.f_with_rights.kp T.b_with_rights tk (ea_cons (ee_var 2) (ea_cons (ee_mth F.plainAttrs_str F.slot_str_join F.type_str_join joinD_ok ee_str (ea_cons (ee_lc frzL_ok rfl sc_opened_by.nd (ei_seq (ee_ix (ee_callC (Cal.ok (ok_fields_of T) (hr.mono (by decide))) rfl T.g_fields_of T.f_fields_of.kp T.b_fields_of tk (ea_cons (ee_var 0) ea_nil) (al_cons al_nil)) ee_int)) (blkOk_by (N := ["word", "other", "found", "right"]) (sc := defScope s_opened_by) (own := [("right", 3)]) (by first | decide +kernel | rfl)) rfl (by decide) (fun _ _ _ _ _ => (g_nm 3 sc_opened_by.nd)) (fun _ _ _ _ _ => (et_if1 (et_cmp (neD_ok hr.units) (ee_var 3) ee_str (nomark _)))) (fun _ _ _ _ _ => (ee_var 3))) ea_nil)) ea_nil)) (al_cons (al_cons al_nil)))))))
theorem ok_opened (T : Txt K mg C A fd) : FnOk P w K mg base (L2.CX P w) 7 (A 25) (fd 25) ["word", "other"] (spOf K C 2 g_opened) :=
  fn_ev T.f_opened sc_opened fun cdv Ar outer s H E hr tk po =>
    (es_cons (s_set 2 sc_opened.nd (ee_callC (Cal.ok (ok_kind_told T) (hr.mono (by decide))) rfl T.g_kind_told T.f_kind_told.kp T.b_kind_told tk (ea_cons (ee_var 1) (ea_cons ee_str ea_nil)) (al_cons (al_cons al_nil))))
    (es_cons (s_if (PW.pt (et_or (et_not (et_val (ee_ix (ee_var 0) ee_int))) (et_or (et_cmp isN_ok (ee_var 2) ee_non (nomark _)) (et_or1 (et_cmp (neD_ok hr.units) (ee_ix (ee_callC (Cal.ok (ok_fields_of T) (hr.mono (by decide))) rfl T.g_fields_of T.f_fields_of.kp T.b_fields_of tk (ea_cons (ee_var 0) ea_nil) (al_cons al_nil)) ee_int) (ee_var 2) (nomark _))))))
    (es_one (s_ret (ee_callC (Cal.ok (ok_bare T) (hr.mono (by decide))) rfl T.g_bare T.f_bare.kp T.b_bare tk (ea_cons (ee_var 0) ea_nil) (al_cons al_nil))))
    es_nil)
    (es_one (s_ret (ee_callC (Cal.ok (ok_opened_by T) (hr.mono (by decide))) rfl T.g_opened_by T.f_opened_by.kp T.b_opened_by tk (ea_cons (ee_var 0) (ea_cons (ee_var 1) ea_nil)) (al_cons (al_cons al_nil)))))))
theorem ok_entry (T : Txt K mg C A fd) : FnOk P w K mg base (L2.CX P w) 6 (A 26) (fd 26) ["word"] (spOf K C 1 g_entry) :=
  fn_ev T.f_entry sc_entry fun cdv Ar outer s H E hr tk po =>
    (es_cons (s_if (PW.pt (et_or (et_not (et_val (ee_callC (Cal.ok (ok_is_open T) (hr.mono (by decide))) rfl T.g_is_open T.f_is_open.kp T.b_is_open tk (ea_cons (ee_var 0) ea_nil) (al_cons al_nil)))) (et_or1 (et_cmp (ninD_ok hr.units) ee_str (ee_ix (ee_callC (Cal.ok (ok_fields_of T) (hr.mono (by decide))) rfl T.g_fields_of T.f_fields_of.kp T.b_fields_of tk (ea_cons (ee_var 0) ea_nil) (al_cons al_nil)) ee_int) (by rfl)))))
    (es_one (s_ret (ee_callC (Cal.ok (ok_bare T) (hr.mono (by decide))) rfl T.g_bare T.f_bare.kp T.b_bare tk (ea_cons (ee_var 0) ea_nil) (al_cons al_nil))))
    es_nil)
    (es_one (s_ret (ee_callC (Cal.ok (ok_with_kind T) (hr.mono (by decide))) rfl T.g_with_kind T.f_with_kind.kp T.b_with_kind tk (ea_cons (ee_var 0) (ea_cons (ee_gI T.c_ENTRY) ea_nil)) (al_cons (al_cons al_nil))))))
theorem ok_law_pool (T : Txt K mg C A fd) : FnOk P w K mg base (L2.CX P w) 1 (A 27) (fd 27) ["_law_script", "_law_k"] (spOf K C 2 g_law_pool) :=
  fn_ev T.f_law_pool sc_law_pool fun cdv Ar outer s H E hr tk po =>
    (es_cons (s_set 2 sc_law_pool.nd (ee_op addD_ok (ee_op mulD_ok ee_int (ee_callB (sumD_ok rfl) rfl T.z_sum (by decide +kernel) (ea_cons (ee_sl (ee_var 0) eo_none (eo_some ee_int)) ea_nil))) (ee_var 1)))
    (es_cons (s_if (et_cmp ltD_ok (ee_var 1) (ee_callB lenD_ok rfl T.z_len (by decide +kernel) (ea_cons (ee_var 0) ea_nil)) (nomark _))
    (es_one (s_set 2 sc_law_pool.nd (ee_ix (ee_var 0) (ee_var 1))))
    es_nil)
    (es_cons (s_set 3 sc_law_pool.nd (ee_callB absD_ok rfl T.z_abs (by decide +kernel) (ea_cons (ee_var 2) ea_nil)))
    (es_cons (s_set 4 sc_law_pool.nd (ee_op modD_ok (ee_op mulD_ok (ee_op addD_ok (ee_op addD_ok (ee_op addD_ok (ee_op modD_ok (ee_var 3) ee_int) (ee_op mulD_ok (ee_op mulD_ok ee_int (ee_var 1)) (ee_var 1))) (ee_op mulD_ok ee_int (ee_var 1))) ee_int) ee_int) ee_int))
    (es_one (s_ret (ee_lstM (ea_cons (ee_op mulD_ok (ee_var 3) (ee_callTy intD_ok rfl T.z_int (by decide +kernel) (ea_cons (ee_cmp geD_ok (ee_var 3) (ee_op powD_ok ee_int ee_int) (nomark _)) ea_nil))) (ea_cons (ee_op modD_ok (ee_op mulD_ok (ee_var 4) (ee_var 4)) ee_int) ea_nil)) (al_cons (al_cons al_nil)))))))))
theorem ok_law_take (T : Txt K mg C A fd) : FnOk P w K mg base (L2.CX P w) 1 (A 28) (fd 28) ["_law_pool_here", "_law_many"] (spOf K C 2 g_law_take) :=
  fn_ev T.f_law_take sc_law_take fun cdv Ar outer s H E hr tk po =>
    (es_cons (s_if (et_cmp gtD_ok (ee_ix (ee_var 0) ee_int) ee_int (nomark _))
    (es_cons (s_set 2 sc_law_take.nd (ee_op modD_ok (ee_ix (ee_var 0) ee_int) (ee_var 1)))
    (es_cons (s_putIx (ee_op divD_ok (ee_ix (ee_var 0) ee_int) (ee_var 1)) (ee_var 0) ee_int)
    (es_one (s_ret (ee_var 2)))))
    es_nil)
    (es_cons (s_putIx (ee_op modD_ok (ee_op addD_ok (ee_op mulD_ok (ee_ix (ee_var 0) ee_int) ee_int) ee_int) ee_int) (ee_var 0) ee_int)
    (es_one (s_ret (ee_op modD_ok (ee_op divD_ok (ee_op modD_ok (ee_op mulD_ok (ee_ix (ee_var 0) ee_int) (ee_ix (ee_var 0) ee_int)) ee_int) ee_int) (ee_var 1))))))
theorem ok_law_least (T : Txt K mg C A fd) : FnOk P w K mg base (L2.CX P w) 1 (A 29) (fd 29) ["_law_low", "_law_high"] (spOf K C 2 g_law_least) :=
  fn_ev T.f_law_least sc_law_least fun cdv Ar outer s H E hr tk po =>
    (es_cons (s_set 2 sc_law_least.nd ee_int)
    (es_cons (s_while 100 po (et_cmp gtD_ok (ee_op subD_ok (ee_op shrD_ok (ee_op subD_ok (ee_var 1) ee_int) (ee_var 2)) (ee_op shrD_ok (ee_var 0) (ee_var 2))) ee_int (nomark _))
    (es_one (s_set 2 sc_law_least.nd (ee_op addD_ok (ee_var 2) ee_int))))
    (es_one (s_ret (ee_tup (ea_cons (ee_op shlD_ok (ee_op shrD_ok (ee_var 0) (ee_var 2)) (ee_var 2)) (ea_cons (ee_op shlD_ok (ee_op addD_ok (ee_op shrD_ok (ee_op subD_ok (ee_var 1) ee_int) (ee_var 2)) ee_int) (ee_var 2)) (ea_cons (ee_var 2) ea_nil))) (al_cons (al_cons (al_cons al_nil))))))))
theorem ok_law_fields (T : Txt K mg C A fd) : FnOk P w K mg base (L2.CX P w) 1 (A 30) (fd 30) ["_law_word_here"] (spOf K C 1 g_law_fields) :=
  fn_ev T.f_law_fields sc_law_fields fun cdv Ar outer s H E hr tk po =>
    (es_cons (s_set 1 sc_law_fields.nd (ee_ix (ee_var 0) ee_int))
    (es_cons (s_par2 2 3 rfl sc_law_fields.nd (ea_cons (ee_op andD_ok (ee_op shrD_ok (ee_var 1) ee_int) ee_int) (ea_cons (ee_op addD_ok (ee_op andD_ok (ee_op shrD_ok (ee_var 1) ee_int) ee_int) ee_int) ea_nil)))
    (es_cons (s_set 4 sc_law_fields.nd (ee_op andD_ok (ee_op shrD_ok (ee_var 1) ee_int) ee_int))
    (es_cons (s_if (PW.pt (et_or (et_cmp gtD_ok (ee_var 4) ee_int (nomark _)) (et_or (PW.pt (et_and (et_cmp gtD_ok (ee_var 4) ee_int (nomark _)) (et_and1 (et_cmp ltD_ok (ee_var 3) ee_int (nomark _))))) (et_or1 (et_cmp gtD_ok (ee_op shlD_ok (ee_op addD_ok (ee_var 2) (ee_var 3)) (ee_var 4)) ee_int (nomark _))))))
    (es_one (s_ret ee_non))
    es_nil)
    (es_cons (s_set 5 sc_law_fields.nd ee_str)
    (es_cons (s_set 6 sc_law_fields.nd (ee_mth F.plainAttrs_str F.slot_str_join F.type_str_join joinD_ok ee_str (ea_cons (ee_lc frzL_ok rfl sc_law_fields.nd (ei_range1 rfl T.z_range (ea_cons ee_int ea_nil)) (blkOk_by (N := ["_law_word_here", "_law_bits", "_law_first", "_law_count", "_law_step", "_law_signs", "_law_rights_here", "_law_k"]) (sc := defScope s_law_fields) (own := [("_law_k", 7)]) (by first | decide +kernel | rfl)) rfl (by decide) (fun _ _ _ _ _ => (g_nm 7 sc_law_fields.nd)) (fun _ _ _ _ _ => (et_if1 (et_cmp (eqD_ok hr.units) (ee_op andD_ok (ee_op shrD_ok (ee_var 1) (ee_op addD_ok ee_int (ee_var 7))) ee_int) ee_int (nomark _)))) (fun _ _ _ _ _ => (ee_ix (ee_var 5) (ee_var 7)))) ea_nil)))
    (es_one (s_ret (ee_tup (ea_cons (ee_op shlD_ok (ee_var 2) (ee_var 4)) (ea_cons (ee_op shlD_ok (ee_op addD_ok (ee_var 2) (ee_var 3)) (ee_var 4)) (ea_cons (ee_op modD_ok (ee_var 1) ee_int) (ea_cons (ee_var 6) (ea_cons (ee_op shrD_ok (ee_var 1) ee_int) ea_nil))))) (al_cons (al_cons (al_cons (al_cons (al_cons al_nil))))))))))))))
theorem ok_law_made (T : Txt K mg C A fd) : FnOk P w K mg base (L2.CX P w) 2 (A 31) (fd 31) ["_law_low", "_law_high", "_law_at", "_law_rights_here", "_law_kind"] (spOf K C 5 g_law_made) :=
  fn_ev T.f_law_made sc_law_made fun cdv Ar outer s H E hr tk po =>
    (es_cons (s_set 5 sc_law_made.nd (ee_ix (ee_callC (Cal.ok (ok_law_least T) (hr.mono (by decide))) rfl T.g_law_least T.f_law_least.kp T.b_law_least tk (ea_cons (ee_var 0) (ea_cons (ee_var 1) ea_nil)) (al_cons (al_cons al_nil))) ee_int))
    (es_cons (s_set 6 sc_law_made.nd (ee_op addD_ok (ee_op addD_ok (ee_op addD_ok (ee_var 2) (ee_op shlD_ok (ee_op shrD_ok (ee_var 0) (ee_var 5)) ee_int)) (ee_op shlD_ok (ee_op subD_ok (ee_op shrD_ok (ee_op subD_ok (ee_var 1) (ee_var 0)) (ee_var 5)) ee_int) ee_int)) (ee_op shlD_ok (ee_var 5) ee_int)))
    (es_cons (s_for po rfl (ei_enum rfl T.z_enumerate (ea_cons ee_str ea_nil)) (g_tp rfl (gs_cons 7 sc_law_made.nd (gs_cons 8 sc_law_made.nd gs_nil)))
    (es_one (s_set 6 sc_law_made.nd (ee_op addD_ok (ee_var 6) (ee_op shlD_ok (ee_callTy intD_ok rfl T.z_int (by decide +kernel) (ea_cons (ee_cmp (inD_ok hr.units) (ee_var 8) (ee_var 3) (by rfl)) ea_nil)) (ee_op addD_ok ee_int (ee_var 7)))))))
    (es_one (s_ret (ee_tup (ea_cons ee_bl (ea_cons (ee_op addD_ok (ee_var 6) (ee_op shlD_ok (ee_var 4) ee_int)) ea_nil)) (al_cons (al_cons al_nil))))))))
theorem ok_law_bounds (T : Txt K mg C A fd) : FnOk P w K mg base (L2.CX P w) 2 (A 32) (fd 32) ["_law_pool_here"] (spOf K C 1 g_law_bounds) :=
  fn_ev T.f_law_bounds sc_law_bounds fun cdv Ar outer s H E hr tk po =>
    (es_cons (s_set 1 sc_law_bounds.nd (ee_ix (ee_lst (ea_cons ee_int (ea_cons ee_int (ea_cons ee_int (ea_cons ee_int (ea_cons ee_int (ea_cons (ee_callC (Cal.ok (ok_law_take T) (hr.mono (by decide))) rfl T.g_law_take T.f_law_take.kp T.b_law_take tk (ea_cons (ee_var 0) (ea_cons ee_int ea_nil)) (al_cons (al_cons al_nil))) (ea_cons (ee_callC (Cal.ok (ok_law_take T) (hr.mono (by decide))) rfl T.g_law_take T.f_law_take.kp T.b_law_take tk (ea_cons (ee_var 0) (ea_cons ee_int ea_nil)) (al_cons (al_cons al_nil))) ea_nil))))))) (al_cons (al_cons (al_cons (al_cons (al_cons (al_cons (al_cons al_nil)))))))) (ee_callC (Cal.ok (ok_law_take T) (hr.mono (by decide))) rfl T.g_law_take T.f_law_take.kp T.b_law_take tk (ea_cons (ee_var 0) (ea_cons ee_int ea_nil)) (al_cons (al_cons al_nil)))))
    (es_cons (s_set 2 sc_law_bounds.nd (ee_ix (ee_lst (ea_cons ee_int (ea_cons ee_int (ea_cons ee_int (ea_cons ee_int (ea_cons ee_int (ea_cons ee_int (ea_cons (ee_op addD_ok ee_int (ee_callC (Cal.ok (ok_law_take T) (hr.mono (by decide))) rfl T.g_law_take T.f_law_take.kp T.b_law_take tk (ea_cons (ee_var 0) (ea_cons ee_int ea_nil)) (al_cons (al_cons al_nil)))) (ea_cons (ee_op addD_ok ee_int (ee_callC (Cal.ok (ok_law_take T) (hr.mono (by decide))) rfl T.g_law_take T.f_law_take.kp T.b_law_take tk (ea_cons (ee_var 0) (ea_cons ee_int ea_nil)) (al_cons (al_cons al_nil)))) ea_nil)))))))) (al_cons (al_cons (al_cons (al_cons (al_cons (al_cons (al_cons (al_cons al_nil))))))))) (ee_callC (Cal.ok (ok_law_take T) (hr.mono (by decide))) rfl T.g_law_take T.f_law_take.kp T.b_law_take tk (ea_cons (ee_var 0) (ea_cons ee_int ea_nil)) (al_cons (al_cons al_nil)))))
    (es_cons (s_asg (ee_callC (Cal.ok (ok_law_least T) (hr.mono (by decide))) rfl T.g_law_least T.f_law_least.kp T.b_law_least tk (ea_cons (ee_var 1) (ea_cons (ee_callB (minD2_ok rfl) rfl T.z_min (by decide +kernel) (ea_cons ee_int (ea_cons (ee_op addD_ok (ee_var 1) (ee_var 2)) ea_nil))) ea_nil)) (al_cons (al_cons al_nil))) (g_tp rfl (gs_cons 3 sc_law_bounds.nd (gs_cons 4 sc_law_bounds.nd (gs_cons 5 sc_law_bounds.nd gs_nil)))))
    (es_one (s_ret (ee_tup (ea_cons (ee_var 3) (ea_cons (ee_var 4) ea_nil)) (al_cons (al_cons al_nil))))))))
theorem ok_law_rights (T : Txt K mg C A fd) : FnOk P w K mg base (L2.CX P w) 2 (A 33) (fd 33) ["_law_pool_here"] (spOf K C 1 g_law_rights) :=
  fn_ev T.f_law_rights sc_law_rights fun cdv Ar outer s H E hr tk po =>
    (es_cons (s_set 1 sc_law_rights.nd (ee_callC (Cal.ok (ok_law_take T) (hr.mono (by decide))) rfl T.g_law_take T.f_law_take.kp T.b_law_take tk (ea_cons (ee_var 0) (ea_cons ee_int ea_nil)) (al_cons (al_cons al_nil))))
    (es_cons (s_if (et_cmp (eqD_ok hr.units) (ee_var 1) ee_int (nomark _))
    (es_one (s_ret (ee_ix (ee_lst (ea_cons ee_str (ea_cons ee_str ea_nil)) (al_cons (al_cons al_nil))) (ee_callC (Cal.ok (ok_law_take T) (hr.mono (by decide))) rfl T.g_law_take T.f_law_take.kp T.b_law_take tk (ea_cons (ee_var 0) (ea_cons ee_int ea_nil)) (al_cons (al_cons al_nil))))))
    es_nil)
    (es_cons (s_if (et_cmp (eqD_ok hr.units) (ee_var 1) ee_int (nomark _))
    (es_one (s_ret (ee_ix (ee_lst (ea_cons ee_str (ea_cons ee_str (ea_cons ee_str (ea_cons ee_str (ea_cons ee_str ea_nil))))) (al_cons (al_cons (al_cons (al_cons (al_cons al_nil)))))) (ee_callC (Cal.ok (ok_law_take T) (hr.mono (by decide))) rfl T.g_law_take T.f_law_take.kp T.b_law_take tk (ea_cons (ee_var 0) (ea_cons ee_int ea_nil)) (al_cons (al_cons al_nil))))))
    es_nil)
    (es_cons (s_if (et_cmp (eqD_ok hr.units) (ee_var 1) ee_int (nomark _))
    (es_one (s_ret (ee_ix (ee_lst (ea_cons ee_str (ea_cons ee_str ea_nil)) (al_cons (al_cons al_nil))) (ee_callC (Cal.ok (ok_law_take T) (hr.mono (by decide))) rfl T.g_law_take T.f_law_take.kp T.b_law_take tk (ea_cons (ee_var 0) (ea_cons ee_int ea_nil)) (al_cons (al_cons al_nil))))))
    es_nil)
    (es_cons (s_if (et_cmp ltD_ok (ee_var 1) ee_int (nomark _))
    (es_one (s_ret (ee_ix (ee_lst (ea_cons ee_str (ea_cons ee_str (ea_cons ee_str ea_nil))) (al_cons (al_cons (al_cons al_nil)))) (ee_callC (Cal.ok (ok_law_take T) (hr.mono (by decide))) rfl T.g_law_take T.f_law_take.kp T.b_law_take tk (ea_cons (ee_var 0) (ea_cons ee_int ea_nil)) (al_cons (al_cons al_nil))))))
    es_nil)
    (es_one (s_ret (ee_mth F.plainAttrs_str F.slot_str_join F.type_str_join joinD_ok ee_str (ea_cons (ee_lc frzL_ok rfl sc_law_rights.nd (ei_seq ee_str) (blkOk_by (N := ["_law_pool_here", "_law_way", "_law_sign"]) (sc := defScope s_law_rights) (own := [("_law_sign", 2)]) (by first | decide +kernel | rfl)) rfl (by decide) (fun _ _ _ _ _ => (g_nm 2 sc_law_rights.nd)) (fun _ _ _ _ _ => (et_if1 (et_cmp gtD_ok (ee_callC (Cal.ok (ok_law_take T) (hr.mono (by decide))) rfl T.g_law_take T.f_law_take.kp T.b_law_take takes0 (ea_cons (ee_var 0) (ea_cons ee_int ea_nil)) (al_cons (al_cons al_nil))) ee_int (nomark _)))) (fun _ _ _ _ _ => (ee_var 2))) ea_nil)))))))))
theorem ok_law_word (T : Txt K mg C A fd) : FnOk P w K mg base (L2.CX P w) 3 (A 34) (fd 34) ["_law_pool_here"] (spOf K C 1 g_law_word) :=
  fn_ev T.f_law_word sc_law_word fun cdv Ar outer s H E hr tk po =>
    (es_cons (s_if (et_cmp (eqD_ok hr.units) (ee_callC (Cal.ok (ok_law_take T) (hr.mono (by decide))) rfl T.g_law_take T.f_law_take.kp T.b_law_take tk (ea_cons (ee_var 0) (ea_cons ee_int ea_nil)) (al_cons (al_cons al_nil))) ee_int (nomark _))
    (es_one (s_ret (ee_tup (ea_cons ee_bl (ea_cons (ee_ix (ee_lst (ea_cons ee_int (ea_cons ee_int (ea_cons ee_int (ea_cons (ee_op subD_ok (ee_op powD_ok ee_int ee_int) ee_int) (ea_cons (ee_callC (Cal.ok (ok_law_take T) (hr.mono (by decide))) rfl T.g_law_take T.f_law_take.kp T.b_law_take tk (ea_cons (ee_var 0) (ea_cons (ee_op powD_ok ee_int ee_int) ea_nil)) (al_cons (al_cons al_nil))) ea_nil))))) (al_cons (al_cons (al_cons (al_cons (al_cons al_nil)))))) (ee_callC (Cal.ok (ok_law_take T) (hr.mono (by decide))) rfl T.g_law_take T.f_law_take.kp T.b_law_take tk (ea_cons (ee_var 0) (ea_cons ee_int ea_nil)) (al_cons (al_cons al_nil)))) ea_nil)) (al_cons (al_cons al_nil)))))
    es_nil)
    (es_cons (s_asg (ee_callC (Cal.ok (ok_law_bounds T) (hr.mono (by decide))) rfl T.g_law_bounds T.f_law_bounds.kp T.b_law_bounds tk (ea_cons (ee_var 0) ea_nil) (al_cons al_nil)) (g_tp rfl (gs_cons 1 sc_law_word.nd (gs_cons 2 sc_law_word.nd gs_nil))))
    (es_cons (s_set 3 sc_law_word.nd (ee_callC (Cal.ok (ok_law_rights T) (hr.mono (by decide))) rfl T.g_law_rights T.f_law_rights.kp T.b_law_rights tk (ea_cons (ee_var 0) ea_nil) (al_cons al_nil)))
    (es_cons (s_if (PW.pt (et_and (PW.pt (et_or (et_cmp (inD_ok hr.units) ee_str (ee_var 3) (by rfl)) (et_or1 (et_cmp (inD_ok hr.units) ee_str (ee_var 3) (by rfl))))) (et_and1 (et_cmp gtD_ok (ee_callC (Cal.ok (ok_law_take T) (hr.mono (by decide))) rfl T.g_law_take T.f_law_take.kp T.b_law_take tk (ea_cons (ee_var 0) (ea_cons ee_int ea_nil)) (al_cons (al_cons al_nil))) ee_int (nomark _)))))
    (es_one (s_asg (ee_ix (ee_lst (ea_cons (ee_tup (ea_cons ee_int (ea_cons ee_int ea_nil)) (al_cons (al_cons al_nil))) (ea_cons (ee_tup (ea_cons ee_int (ea_cons ee_int ea_nil)) (al_cons (al_cons al_nil))) (ea_cons (ee_tup (ea_cons ee_int (ea_cons ee_int ea_nil)) (al_cons (al_cons al_nil))) (ea_cons (ee_tup (ea_cons ee_int (ea_cons ee_int ea_nil)) (al_cons (al_cons al_nil))) (ea_cons (ee_tup (ea_cons ee_int (ea_cons ee_int ea_nil)) (al_cons (al_cons al_nil))) ea_nil))))) (al_cons (al_cons (al_cons (al_cons (al_cons al_nil)))))) (ee_callC (Cal.ok (ok_law_take T) (hr.mono (by decide))) rfl T.g_law_take T.f_law_take.kp T.b_law_take tk (ea_cons (ee_var 0) (ea_cons ee_int ea_nil)) (al_cons (al_cons al_nil)))) (g_tp rfl (gs_cons 1 sc_law_word.nd (gs_cons 2 sc_law_word.nd gs_nil)))))
    es_nil)
    (es_cons (s_set 4 sc_law_word.nd (ee_ix (ee_lst (ea_cons (ee_var 1) (ea_cons (ee_op subD_ok (ee_var 2) ee_int) (ea_cons (ee_op modD_ok (ee_var 2) ee_int) (ea_cons (ee_op addD_ok (ee_var 1) (ee_callC (Cal.ok (ok_law_take T) (hr.mono (by decide))) rfl T.g_law_take T.f_law_take.kp T.b_law_take tk (ea_cons (ee_var 0) (ea_cons (ee_op subD_ok (ee_var 2) (ee_var 1)) ea_nil)) (al_cons (al_cons al_nil)))) (ea_cons (ee_callC (Cal.ok (ok_law_take T) (hr.mono (by decide))) rfl T.g_law_take T.f_law_take.kp T.b_law_take tk (ea_cons (ee_var 0) (ea_cons ee_int ea_nil)) (al_cons (al_cons al_nil))) ea_nil))))) (al_cons (al_cons (al_cons (al_cons (al_cons al_nil)))))) (ee_callC (Cal.ok (ok_law_take T) (hr.mono (by decide))) rfl T.g_law_take T.f_law_take.kp T.b_law_take tk (ea_cons (ee_var 0) (ea_cons ee_int ea_nil)) (al_cons (al_cons al_nil)))))
    (es_cons (s_set 5 sc_law_word.nd (ee_ix (ee_lst (ea_cons ee_int (ea_cons ee_int (ea_cons ee_int (ea_cons ee_int (ea_cons ee_int (ea_cons ee_int (ea_cons ee_int (ea_cons ee_int (ea_cons (ee_callC (Cal.ok (ok_law_take T) (hr.mono (by decide))) rfl T.g_law_take T.f_law_take.kp T.b_law_take tk (ea_cons (ee_var 0) (ea_cons ee_int ea_nil)) (al_cons (al_cons al_nil))) ea_nil))))))))) (al_cons (al_cons (al_cons (al_cons (al_cons (al_cons (al_cons (al_cons (al_cons al_nil)))))))))) (ee_callC (Cal.ok (ok_law_take T) (hr.mono (by decide))) rfl T.g_law_take T.f_law_take.kp T.b_law_take tk (ea_cons (ee_var 0) (ea_cons ee_int ea_nil)) (al_cons (al_cons al_nil)))))
    (es_cons (s_set 6 sc_law_word.nd (ee_callC (Cal.ok (ok_law_made T) (hr.mono (by decide))) rfl T.g_law_made T.f_law_made.kp T.b_law_made tk (ea_cons (ee_var 1) (ea_cons (ee_var 2) (ea_cons (ee_var 4) (ea_cons (ee_var 3) (ea_cons (ee_var 5) ea_nil))))) (al_cons (al_cons (al_cons (al_cons (al_cons al_nil)))))))
    (es_one (s_ret (ee_ix (ee_lst (ea_cons (ee_var 6) (ea_cons (ee_var 6) (ea_cons (ee_var 6) (ea_cons (ee_var 6) (ea_cons (ee_tup (ea_cons ee_bl (ea_cons (ee_ix (ee_var 6) ee_int) ea_nil)) (al_cons (al_cons al_nil))) ea_nil))))) (al_cons (al_cons (al_cons (al_cons (al_cons al_nil)))))) (ee_callC (Cal.ok (ok_law_take T) (hr.mono (by decide))) rfl T.g_law_take T.f_law_take.kp T.b_law_take tk (ea_cons (ee_var 0) (ea_cons ee_int ea_nil)) (al_cons (al_cons al_nil)))))))))))))
theorem ok_law_with_kind (T : Txt K mg C A fd) : FnOk P w K mg base (L2.CX P w) 3 (A 35) (fd 35) ["_law_word_here", "_law_kind"] (spOf K C 2 g_law_with_kind) :=
  fn_ev T.f_law_with_kind sc_law_with_kind fun cdv Ar outer s H E hr tk po =>
    (es_cons (s_asg (ee_callC (Cal.ok (ok_law_fields T) (hr.mono (by decide))) rfl T.g_law_fields T.f_law_fields.kp T.b_law_fields tk (ea_cons (ee_var 0) ea_nil) (al_cons al_nil)) (g_tp rfl (gs_cons 2 sc_law_with_kind.nd (gs_cons 3 sc_law_with_kind.nd (gs_cons 4 sc_law_with_kind.nd (gs_cons 5 sc_law_with_kind.nd (gs_cons 6 sc_law_with_kind.nd gs_nil)))))))
    (es_one (s_ret (ee_callC (Cal.ok (ok_law_made T) (hr.mono (by decide))) rfl T.g_law_made T.f_law_made.kp T.b_law_made tk (ea_cons (ee_var 2) (ea_cons (ee_var 3) (ea_cons (ee_var 4) (ea_cons (ee_var 5) (ea_cons (ee_var 1) ea_nil))))) (al_cons (al_cons (al_cons (al_cons (al_cons al_nil)))))))))
theorem ok_law_done (T : Txt K mg C A fd) : FnOk P w K mg base (L2.CX P w) 8 (A 36) (fd 36) ["_law_pool_here", "_law_word_here", "_law_other"] (spOf K C 3 g_law_done) :=
  fn_ev T.f_law_done sc_law_done fun cdv Ar outer s H E hr tk po =>
    (es_cons (s_set 3 sc_law_done.nd (ee_callC (Cal.ok (ok_law_take T) (hr.mono (by decide))) rfl T.g_law_take T.f_law_take.kp T.b_law_take tk (ea_cons (ee_var 0) (ea_cons ee_int ea_nil)) (al_cons (al_cons al_nil))))
    (es_cons (s_set 4 sc_law_done.nd (ee_ix (ee_lst (ea_cons (ee_callC (Cal.ok (ok_law_take T) (hr.mono (by decide))) rfl T.g_law_take T.f_law_take.kp T.b_law_take tk (ea_cons (ee_var 0) (ea_cons ee_int ea_nil)) (al_cons (al_cons al_nil))) (ea_cons (ee_callC (Cal.ok (ok_law_take T) (hr.mono (by decide))) rfl T.g_law_take T.f_law_take.kp T.b_law_take tk (ea_cons (ee_var 0) (ea_cons ee_int ea_nil)) (al_cons (al_cons al_nil))) ea_nil)) (al_cons (al_cons al_nil))) (ee_callC (Cal.ok (ok_law_take T) (hr.mono (by decide))) rfl T.g_law_take T.f_law_take.kp T.b_law_take tk (ea_cons (ee_var 0) (ea_cons ee_int ea_nil)) (al_cons (al_cons al_nil)))))
    (es_cons (s_if (et_cmp ltD_ok (ee_var 3) ee_int (nomark _))
    (es_one (s_ret (ee_callC (Cal.ok (ok_walked T) (hr.mono (by decide))) rfl T.g_walked T.f_walked.kp T.b_walked tk (ea_cons (ee_var 1) (ea_cons (ee_var 4) ea_nil)) (al_cons (al_cons al_nil)))))
    es_nil)
    (es_cons (s_if (et_cmp ltD_ok (ee_var 3) ee_int (nomark _))
    (es_one (s_ret (ee_callK (Cal.ok (ok_narrowed T) (hr.mono (by decide))) rfl T.g_narrowed T.f_narrowed.kp (bk_narrowed_2_exact T) rfl tk (ea_cons (ee_var 1) (ea_cons (ee_var 4) ea_nil)) (al_cons (al_cons al_nil)) (ek_cons (ee_cmp (eqD_ok hr.units) (ee_callC (Cal.ok (ok_law_take T) (hr.mono (by decide))) rfl T.g_law_take T.f_law_take.kp T.b_law_take tk (ea_cons (ee_var 0) (ea_cons ee_int ea_nil)) (al_cons (al_cons al_nil))) ee_int (nomark _)) ek_nil) (al_cons al_nil))))
    es_nil)
    (es_cons (s_if (et_cmp (eqD_ok hr.units) (ee_var 3) ee_int (nomark _))
    (es_one (s_ret (ee_callC (Cal.ok (ok_lessened T) (hr.mono (by decide))) rfl T.g_lessened T.f_lessened.kp T.b_lessened tk (ea_cons (ee_var 1) (ea_cons (ee_callC (Cal.ok (ok_law_rights T) (hr.mono (by decide))) rfl T.g_law_rights T.f_law_rights.kp T.b_law_rights tk (ea_cons (ee_var 0) ea_nil) (al_cons al_nil)) ea_nil)) (al_cons (al_cons al_nil)))))
    es_nil)
    (es_cons (s_if (et_cmp (eqD_ok hr.units) (ee_var 3) ee_int (nomark _))
    (es_one (s_ret (ee_callC (Cal.ok (ok_sealed T) (hr.mono (by decide))) rfl T.g_sealed T.f_sealed.kp T.b_sealed tk (ea_cons (ee_var 1) (ea_cons (ee_var 2) ea_nil)) (al_cons (al_cons al_nil)))))
    es_nil)
    (es_one (s_ret (ee_ix (ee_lst (ea_cons (ee_callC (Cal.ok (ok_opened T) (hr.mono (by decide))) rfl T.g_opened T.f_opened.kp T.b_opened tk (ea_cons (ee_var 1) (ea_cons (ee_var 2) ea_nil)) (al_cons (al_cons al_nil))) (ea_cons (ee_callC (Cal.ok (ok_entry T) (hr.mono (by decide))) rfl T.g_entry T.f_entry.kp T.b_entry tk (ea_cons (ee_var 1) ea_nil) (al_cons al_nil)) ea_nil)) (al_cons (al_cons al_nil))) (ee_op subD_ok (ee_var 3) ee_int))))))))))
theorem ok_law_above (T : Txt K mg C A fd) : FnOk P w K mg base (L2.CX P w) 4 (A 37) (fd 37) ["_law_words"] (spOf K C 1 g_law_above) :=
  fn_ev T.f_law_above sc_law_above fun cdv Ar outer s H E hr tk po =>
    (es_cons (s_setLcV 1 1000 mutL_ok rfl sc_law_above.nd (sw_true rfl rfl rfl (by decide +kernel)) (ei_live (ee_var 0)) (blkOk_by (N := ["_law_words", "_law_found", "_law_word_here", "_law_turn", "_law_kind", "_law_other", "_law_low", "_law_high", "_law_at", "_law_rights_here", "_law_own_kind", "_law_more"]) (sc := defScope s_law_above) (own := [("_law_word_here", 2)]) (by first | decide +kernel | rfl)) rfl (by decide) (fun _ _ _ _ _ => (g_nm 2 sc_law_above.nd)) (fun _ _ _ _ _ => (et_if1 (et_val (ee_ix (ee_var 2) ee_int)))) (fun _ _ _ _ _ => (ee_var 2)))
    (es_cons (s_for po rfl (ei_range1 rfl T.z_range (ea_cons (ee_callB lenD_ok rfl T.z_len (by decide +kernel) (ea_cons (ee_var 0) ea_nil)) ea_nil)) (g_nm 3 sc_law_above.nd)
    (es_one (s_for po rfl (ei_seq (ee_callTy (listT_ok rfl) rfl T.z_list (by decide +kernel) (ea_cons (ee_var 1) ea_nil))) (g_nm 2 sc_law_above.nd)
    (es_cons (s_set 4 sc_law_above.nd (ee_ix (ee_callC (Cal.ok (ok_law_fields T) (hr.mono (by decide))) rfl T.g_law_fields T.f_law_fields.kp T.b_law_fields tk (ea_cons (ee_var 2) ea_nil) (al_cons al_nil)) ee_int))
    (es_one (s_for po rfl (ei_seq (ee_callTy (listT_ok rfl) rfl T.z_list (by decide +kernel) (ea_cons (ee_var 1) ea_nil))) (g_nm 5 sc_law_above.nd)
    (es_cons (s_asg (ee_callC (Cal.ok (ok_law_fields T) (hr.mono (by decide))) rfl T.g_law_fields T.f_law_fields.kp T.b_law_fields tk (ea_cons (ee_var 5) ea_nil) (al_cons al_nil)) (g_tp rfl (gs_cons 6 sc_law_above.nd (gs_cons 7 sc_law_above.nd (gs_cons 8 sc_law_above.nd (gs_cons 9 sc_law_above.nd (gs_cons 10 sc_law_above.nd gs_nil)))))))
    (es_cons (s_set 11 sc_law_above.nd (ee_callC (Cal.ok (ok_law_with_kind T) (hr.mono (by decide))) rfl T.g_law_with_kind T.f_law_with_kind.kp T.b_law_with_kind tk (ea_cons (ee_var 2) (ea_cons ee_int ea_nil)) (al_cons (al_cons al_nil))))
    (es_one (s_if (PW.pt (et_and (et_cmp gtD_ok (ee_var 4) ee_int (nomark _)) (et_and (et_cmp (eqD_ok hr.units) (ee_var 10) ee_int (nomark _)) (et_and (et_cmp (inD_ok hr.units) ee_str (ee_var 9) (by rfl)) (et_and (et_chain (ee_var 6) (ch_link leD_ok (ee_var 4) (ch_last ltD_ok (ee_var 7)))) (et_and1 (et_cmp (ninD_ok hr.units) (ee_var 11) (ee_var 1) (by rfl))))))))
    (es_one (s_exp (ee_mth F.plainAttrs_list F.slot_list_append F.type_list_append appendL_ok (ee_var 1) (ea_cons (ee_var 11) ea_nil))))
    es_nil))))))))))
    (es_one (s_ret (ee_var 1)))))
theorem ok_law (T : Txt K mg C A fd) : FnOk P w K mg base (L2.CX P w) 9 (A 38) (fd 38) ["_law_script"] (spOf K C 1 g_law) :=
  fn_ev T.f_law sc_law fun cdv Ar outer s H E hr tk po =>
    (es_cons (s_for po rfl (ei_range1 rfl T.z_range (ea_cons (ee_callB (maxD2_ok rfl) rfl T.z_max (by decide +kernel) (ea_cons ee_int (ea_cons (ee_callB (minD2_ok rfl) rfl T.z_min (by decide +kernel) (ea_cons (ee_callB lenD_ok rfl T.z_len (by decide +kernel) (ea_cons (ee_var 0) ea_nil)) (ea_cons ee_int ea_nil))) ea_nil))) ea_nil)) (g_nm 1 sc_law.nd)
    (es_cons (s_set 2 sc_law.nd (ee_callC (Cal.ok (ok_law_pool T) (hr.mono (by decide))) rfl T.g_law_pool T.f_law_pool.kp T.b_law_pool tk (ea_cons (ee_var 0) (ea_cons (ee_var 1) ea_nil)) (al_cons (al_cons al_nil))))
    (es_cons (s_set 3 sc_law.nd (ee_addM (ee_lc frzL_ok rfl sc_law.nd (ei_range1 rfl T.z_range (ea_cons ee_int ea_nil)) (blkOk_by (N := ["_law_script", "_law_k", "_law_pool_here", "_law_words", "_law_turn", "_law_above_here", "_law_word_here", "_law_found", "_law_one"]) (sc := defScope s_law) (own := [("_law_turn", 4)]) (by first | decide +kernel | rfl)) rfl (by decide) (fun _ _ _ _ _ => (g_nm 4 sc_law.nd)) (fun _ _ _ _ _ => et_yes) (fun _ _ _ _ _ => (ee_callC (Cal.ok (ok_law_word T) (hr.mono (by decide))) rfl T.g_law_word T.f_law_word.kp T.b_law_word takes0 (ea_cons (ee_var 2) ea_nil) (al_cons al_nil)))) (ee_lst (ea_cons (ee_callC (Cal.ok (ok_law_made T) (hr.mono (by decide))) rfl T.g_law_made T.f_law_made.kp T.b_law_made tk (ea_cons ee_int (ea_cons ee_int (ea_cons ee_int (ea_cons ee_str (ea_cons ee_int ea_nil))))) (al_cons (al_cons (al_cons (al_cons (al_cons al_nil)))))) ea_nil) (al_cons al_nil))))
    (es_cons (s_set 5 sc_law.nd (ee_callC (Cal.ok (ok_law_above T) (hr.mono (by decide))) rfl T.g_law_above T.f_law_above.kp T.b_law_above tk (ea_cons (ee_var 3) ea_nil) (al_cons al_nil)))
    (es_one (s_for po rfl (ei_range1 rfl T.z_range (ea_cons ee_int ea_nil)) (g_nm 4 sc_law.nd)
    (es_cons (s_set 6 sc_law.nd (ee_ix (ee_var 3) (ee_callC (Cal.ok (ok_law_take T) (hr.mono (by decide))) rfl T.g_law_take T.f_law_take.kp T.b_law_take tk (ea_cons (ee_var 2) (ea_cons (ee_callB lenD_ok rfl T.z_len (by decide +kernel) (ea_cons (ee_var 3) ea_nil)) ea_nil)) (al_cons (al_cons al_nil)))))
    (es_cons (s_set 7 sc_law.nd (ee_callC (Cal.ok (ok_law_done T) (hr.mono (by decide))) rfl T.g_law_done T.f_law_done.kp T.b_law_done tk (ea_cons (ee_var 2) (ea_cons (ee_var 6) (ea_cons (ee_ix (ee_var 3) (ee_callC (Cal.ok (ok_law_take T) (hr.mono (by decide))) rfl T.g_law_take T.f_law_take.kp T.b_law_take tk (ea_cons (ee_var 2) (ea_cons (ee_callB lenD_ok rfl T.z_len (by decide +kernel) (ea_cons (ee_var 3) ea_nil)) ea_nil)) (al_cons (al_cons al_nil)))) ea_nil))) (al_cons (al_cons (al_cons al_nil)))))
    (es_cons (s_if (PW.pt (et_or (et_cmp isNot_ok (ee_callC (Cal.ok (ok_is_lawful T) (hr.mono (by decide))) rfl T.g_is_lawful T.f_is_lawful.kp T.b_is_lawful tk (ea_cons (ee_var 7) ea_nil) (al_cons al_nil)) ee_bl (nomark _)) (et_or1 (PW.pt (et_and (et_val (ee_ix (ee_var 7) ee_int)) (et_and1 (et_not (et_val (ee_ix (ee_var 6) ee_int)))))))))
    (es_one (s_ret ee_bl))
    es_nil)
    (es_cons (s_if (PW.pt (et_and (et_val (ee_ix (ee_var 7) ee_int)) (et_and1 (et_cmp (eqD_ok hr.units) (ee_lcV 1000 frzL_ok rfl sc_law.nd (ei_live (ee_var 5)) (blkOk_by (N := ["_law_script", "_law_k", "_law_pool_here", "_law_words", "_law_turn", "_law_above_here", "_law_word_here", "_law_found", "_law_one"]) (sc := defScope s_law) (own := [("_law_one", 8)]) (by first | decide +kernel | rfl)) rfl (by decide) (fun _ _ _ _ _ => (g_nm 8 sc_law.nd)) (fun _ _ _ _ _ => (et_if1 (et_val (ee_callC (Cal.ok (ok_lies_within T) (hr.mono (by decide))) rfl T.g_lies_within T.f_lies_within.kp T.b_lies_within takes0 (ea_cons (ee_var 7) (ea_cons (ee_var 8) ea_nil)) (al_cons (al_cons al_nil)))))) (fun _ _ _ _ _ => (ee_var 8))) (ee_lst ea_nil al_nil) (nomark _)))))
    (es_one (s_ret ee_bl))
    es_nil)
    (es_one (s_exp (ee_mth F.plainAttrs_list F.slot_list_append F.type_list_append appendL_ok (ee_var 3) (ea_cons (ee_var 7) ea_nil))))))))))))))
    (es_one (s_ret ee_bl)))
end
theorem all_mk {l : PySem.W.OpenLaw} {w : World} {K : PySem.W.Frag} {h : Heap} {mg : Str → Option Value} {fa f0 f1 f2 f3 f4 f5 f6 f7 f8 f9 f10 f11 f12 f13 f14 f15 f16 f17 f18 f19 f20 f21 f22 f23 f24 f25 f26 f27 f28 f29 f30 f31 f32 f33 f34 f35 f36 f37 f38 c0 c1 : Addr} (X : K.In h) (G : h.Ns mainGlobals mg) (hfa : mg "law" = some (.ref fa))
    {od0 an0 : Option Addr} {sl0 : Array (Option Value)} {oc0 kV0 dc0 pm0 cd0 ct0 : Value}
    {od1 an1 : Option Addr} {sl1 : Array (Option Value)} {oc1 kV1 dc1 pm1 cd1 ct1 : Value}
    {od2 an2 : Option Addr} {sl2 : Array (Option Value)} {oc2 kV2 dc2 pm2 cd2 ct2 : Value}
    {od3 an3 : Option Addr} {sl3 : Array (Option Value)} {oc3 kV3 dc3 pm3 cd3 ct3 : Value}
    {od4 an4 : Option Addr} {sl4 : Array (Option Value)} {oc4 kV4 dc4 pm4 cd4 ct4 : Value}
    {od5 an5 : Option Addr} {sl5 : Array (Option Value)} {oc5 kV5 dc5 pm5 cd5 ct5 : Value}
    {od6 an6 : Option Addr} {sl6 : Array (Option Value)} {oc6 kV6 dc6 pm6 cd6 ct6 : Value}
    {od7 an7 : Option Addr} {sl7 : Array (Option Value)} {oc7 kV7 dc7 pm7 cd7 ct7 : Value}
    {od8 an8 : Option Addr} {sl8 : Array (Option Value)} {oc8 kV8 dc8 pm8 cd8 ct8 : Value}
    {od9 an9 : Option Addr} {sl9 : Array (Option Value)} {oc9 kV9 dc9 pm9 cd9 ct9 : Value}
    {od10 an10 : Option Addr} {sl10 : Array (Option Value)} {oc10 kV10 dc10 pm10 cd10 ct10 : Value}
    {od11 an11 : Option Addr} {sl11 : Array (Option Value)} {oc11  dc11 pm11 cd11 ct11 : Value}
    {kd11 : Addr}
    {od12 an12 : Option Addr} {sl12 : Array (Option Value)} {oc12 kV12 dc12 pm12 cd12 ct12 : Value}
    {od13 an13 : Option Addr} {sl13 : Array (Option Value)} {oc13 kV13 dc13 pm13 cd13 ct13 : Value}
    {od14 an14 : Option Addr} {sl14 : Array (Option Value)} {oc14 kV14 dc14 pm14 cd14 ct14 : Value}
    {od15 an15 : Option Addr} {sl15 : Array (Option Value)} {oc15 kV15 dc15 pm15 cd15 ct15 : Value}
    {od16 an16 : Option Addr} {sl16 : Array (Option Value)} {oc16 kV16 dc16 pm16 cd16 ct16 : Value}
    {od17 an17 : Option Addr} {sl17 : Array (Option Value)} {oc17 kV17 dc17 pm17 cd17 ct17 : Value}
    {od18 an18 : Option Addr} {sl18 : Array (Option Value)} {oc18  dc18 pm18 cd18 ct18 : Value}
    {kd18 : Addr}
    {od19 an19 : Option Addr} {sl19 : Array (Option Value)} {oc19 kV19 dc19 pm19 cd19 ct19 : Value}
    {od20 an20 : Option Addr} {sl20 : Array (Option Value)} {oc20 kV20 dc20 pm20 cd20 ct20 : Value}
    {od21 an21 : Option Addr} {sl21 : Array (Option Value)} {oc21 kV21 dc21 pm21 cd21 ct21 : Value}
    {od22 an22 : Option Addr} {sl22 : Array (Option Value)} {oc22 kV22 dc22 pm22 cd22 ct22 : Value}
    {od23 an23 : Option Addr} {sl23 : Array (Option Value)} {oc23 kV23 dc23 pm23 cd23 ct23 : Value}
    {od24 an24 : Option Addr} {sl24 : Array (Option Value)} {oc24 kV24 dc24 pm24 cd24 ct24 : Value}
    {od25 an25 : Option Addr} {sl25 : Array (Option Value)} {oc25 kV25 dc25 pm25 cd25 ct25 : Value}
    {od26 an26 : Option Addr} {sl26 : Array (Option Value)} {oc26 kV26 dc26 pm26 cd26 ct26 : Value}
    {od27 an27 : Option Addr} {sl27 : Array (Option Value)} {oc27 kV27 dc27 pm27 cd27 ct27 : Value}
    {od28 an28 : Option Addr} {sl28 : Array (Option Value)} {oc28 kV28 dc28 pm28 cd28 ct28 : Value}
    {od29 an29 : Option Addr} {sl29 : Array (Option Value)} {oc29 kV29 dc29 pm29 cd29 ct29 : Value}
    {od30 an30 : Option Addr} {sl30 : Array (Option Value)} {oc30 kV30 dc30 pm30 cd30 ct30 : Value}
    {od31 an31 : Option Addr} {sl31 : Array (Option Value)} {oc31 kV31 dc31 pm31 cd31 ct31 : Value}
    {od32 an32 : Option Addr} {sl32 : Array (Option Value)} {oc32 kV32 dc32 pm32 cd32 ct32 : Value}
    {od33 an33 : Option Addr} {sl33 : Array (Option Value)} {oc33 kV33 dc33 pm33 cd33 ct33 : Value}
    {od34 an34 : Option Addr} {sl34 : Array (Option Value)} {oc34 kV34 dc34 pm34 cd34 ct34 : Value}
    {od35 an35 : Option Addr} {sl35 : Array (Option Value)} {oc35 kV35 dc35 pm35 cd35 ct35 : Value}
    {od36 an36 : Option Addr} {sl36 : Array (Option Value)} {oc36 kV36 dc36 pm36 cd36 ct36 : Value}
    {od37 an37 : Option Addr} {sl37 : Array (Option Value)} {oc37 kV37 dc37 pm37 cd37 ct37 : Value}
    {od38 an38 : Option Addr} {sl38 : Array (Option Value)} {oc38 kV38 dc38 pm38 cd38 ct38 : Value}
    {t_CELLS : Tok}
    {t_MOST_COUNT : Tok}
    {t_MOST_STEP : Tok}
    {t_RIGHTS : Tok}
    {t_WORDS : Tok}
    {t_KINDS : Tok}
    {t_CELL_GROUP : Tok}
    {t_GATE : Tok}
    {t_ENTRY : Tok}
    {t_LEAST_KIND : Tok}
    {t_MOST_KIND : Tok}
    (a0 : PySem.W.nsIn K mainGlobals "is_whole" = some (some (.ref f0)))
    (l0 : K.lookup f0 = some ⟨oc0, od0, .func (PySem.W.fnOf "is_whole" "is_whole" (defArgs s_is_whole) (defBody s_is_whole) (defScope s_is_whole) .none kV0 dc0 pm0 an0 cd0 ct0), sl0⟩)
    (o0 : PySem.W.codeIn K cd0 "is_whole" = true)
    (p0 : PySem.W.keepIn K (.ref f0) = true)
    (a1 : PySem.W.nsIn K mainGlobals "least_in_bits" = some (some (.ref f1)))
    (l1 : K.lookup f1 = some ⟨oc1, od1, .func (PySem.W.fnOf "least_in_bits" "least_in_bits" (defArgs s_least_in_bits) (defBody s_least_in_bits) (defScope s_least_in_bits) .none kV1 dc1 pm1 an1 cd1 ct1), sl1⟩)
    (o1 : PySem.W.codeIn K cd1 "least_in_bits" = true)
    (p1 : PySem.W.keepIn K (.ref f1) = true)
    (a2 : PySem.W.nsIn K mainGlobals "from_bits" = some (some (.ref f2)))
    (l2 : K.lookup f2 = some ⟨oc2, od2, .func (PySem.W.fnOf "from_bits" "from_bits" (defArgs s_from_bits) (defBody s_from_bits) (defScope s_from_bits) .none kV2 dc2 pm2 an2 cd2 ct2), sl2⟩)
    (o2 : PySem.W.codeIn K cd2 "from_bits" = true)
    (p2 : PySem.W.keepIn K (.ref f2) = true)
    (a3 : PySem.W.nsIn K mainGlobals "least_held" = some (some (.ref f3)))
    (l3 : K.lookup f3 = some ⟨oc3, od3, .func (PySem.W.fnOf "least_held" "least_held" (defArgs s_least_held) (defBody s_least_held) (defScope s_least_held) .none kV3 dc3 pm3 an3 cd3 ct3), sl3⟩)
    (o3 : PySem.W.codeIn K cd3 "least_held" = true)
    (p3 : PySem.W.keepIn K (.ref f3) = true)
    (a4 : PySem.W.nsIn K mainGlobals "is_word" = some (some (.ref f4)))
    (l4 : K.lookup f4 = some ⟨oc4, od4, .func (PySem.W.fnOf "is_word" "is_word" (defArgs s_is_word) (defBody s_is_word) (defScope s_is_word) .none kV4 dc4 pm4 an4 cd4 ct4), sl4⟩)
    (o4 : PySem.W.codeIn K cd4 "is_word" = true)
    (p4 : PySem.W.keepIn K (.ref f4) = true)
    (a5 : PySem.W.nsIn K mainGlobals "is_rights" = some (some (.ref f5)))
    (l5 : K.lookup f5 = some ⟨oc5, od5, .func (PySem.W.fnOf "is_rights" "is_rights" (defArgs s_is_rights) (defBody s_is_rights) (defScope s_is_rights) .none kV5 dc5 pm5 an5 cd5 ct5), sl5⟩)
    (o5 : PySem.W.codeIn K cd5 "is_rights" = true)
    (p5 : PySem.W.keepIn K (.ref f5) = true)
    (a6 : PySem.W.nsIn K mainGlobals "are_lawful" = some (some (.ref f6)))
    (l6 : K.lookup f6 = some ⟨oc6, od6, .func (PySem.W.fnOf "are_lawful" "are_lawful" (defArgs s_are_lawful) (defBody s_are_lawful) (defScope s_are_lawful) .none kV6 dc6 pm6 an6 cd6 ct6), sl6⟩)
    (o6 : PySem.W.codeIn K cd6 "are_lawful" = true)
    (p6 : PySem.W.keepIn K (.ref f6) = true)
    (a7 : PySem.W.nsIn K mainGlobals "rights_in" = some (some (.ref f7)))
    (l7 : K.lookup f7 = some ⟨oc7, od7, .func (PySem.W.fnOf "rights_in" "rights_in" (defArgs s_rights_in) (defBody s_rights_in) (defScope s_rights_in) .none kV7 dc7 pm7 an7 cd7 ct7), sl7⟩)
    (o7 : PySem.W.codeIn K cd7 "rights_in" = true)
    (p7 : PySem.W.keepIn K (.ref f7) = true)
    (a8 : PySem.W.nsIn K mainGlobals "fields_of" = some (some (.ref f8)))
    (l8 : K.lookup f8 = some ⟨oc8, od8, .func (PySem.W.fnOf "fields_of" "fields_of" (defArgs s_fields_of) (defBody s_fields_of) (defScope s_fields_of) .none kV8 dc8 pm8 an8 cd8 ct8), sl8⟩)
    (o8 : PySem.W.codeIn K cd8 "fields_of" = true)
    (p8 : PySem.W.keepIn K (.ref f8) = true)
    (a9 : PySem.W.nsIn K mainGlobals "is_lawful" = some (some (.ref f9)))
    (l9 : K.lookup f9 = some ⟨oc9, od9, .func (PySem.W.fnOf "is_lawful" "is_lawful" (defArgs s_is_lawful) (defBody s_is_lawful) (defScope s_is_lawful) .none kV9 dc9 pm9 an9 cd9 ct9), sl9⟩)
    (o9 : PySem.W.codeIn K cd9 "is_lawful" = true)
    (p9 : PySem.W.keepIn K (.ref f9) = true)
    (a10 : PySem.W.nsIn K mainGlobals "are_fields" = some (some (.ref f10)))
    (l10 : K.lookup f10 = some ⟨oc10, od10, .func (PySem.W.fnOf "are_fields" "are_fields" (defArgs s_are_fields) (defBody s_are_fields) (defScope s_are_fields) .none kV10 dc10 pm10 an10 cd10 ct10), sl10⟩)
    (o10 : PySem.W.codeIn K cd10 "are_fields" = true)
    (p10 : PySem.W.keepIn K (.ref f10) = true)
    (a11 : PySem.W.nsIn K mainGlobals "word_of" = some (some (.ref f11)))
    (l11 : K.lookup f11 = some ⟨oc11, od11, .func (PySem.W.fnOf "word_of" "word_of" (defArgs s_word_of) (defBody s_word_of) (defScope s_word_of) .none (.ref kd11) dc11 pm11 an11 cd11 ct11), sl11⟩)
    (kw11_marked : PySem.W.nsIn K kd11 "marked" = some (some (.bool true)))
    (o11 : PySem.W.codeIn K cd11 "word_of" = true)
    (p11 : PySem.W.keepIn K (.ref f11) = true)
    (a12 : PySem.W.nsIn K mainGlobals "bare" = some (some (.ref f12)))
    (l12 : K.lookup f12 = some ⟨oc12, od12, .func (PySem.W.fnOf "bare" "bare" (defArgs s_bare) (defBody s_bare) (defScope s_bare) .none kV12 dc12 pm12 an12 cd12 ct12), sl12⟩)
    (o12 : PySem.W.codeIn K cd12 "bare" = true)
    (p12 : PySem.W.keepIn K (.ref f12) = true)
    (a13 : PySem.W.nsIn K mainGlobals "is_open" = some (some (.ref f13)))
    (l13 : K.lookup f13 = some ⟨oc13, od13, .func (PySem.W.fnOf "is_open" "is_open" (defArgs s_is_open) (defBody s_is_open) (defScope s_is_open) .none kV13 dc13 pm13 an13 cd13 ct13), sl13⟩)
    (o13 : PySem.W.codeIn K cd13 "is_open" = true)
    (p13 : PySem.W.keepIn K (.ref f13) = true)
    (a14 : PySem.W.nsIn K mainGlobals "kinds_within" = some (some (.ref f14)))
    (l14 : K.lookup f14 = some ⟨oc14, od14, .func (PySem.W.fnOf "kinds_within" "kinds_within" (defArgs s_kinds_within) (defBody s_kinds_within) (defScope s_kinds_within) .none kV14 dc14 pm14 an14 cd14 ct14), sl14⟩)
    (o14 : PySem.W.codeIn K cd14 "kinds_within" = true)
    (p14 : PySem.W.keepIn K (.ref f14) = true)
    (a15 : PySem.W.nsIn K mainGlobals "lies_within" = some (some (.ref f15)))
    (l15 : K.lookup f15 = some ⟨oc15, od15, .func (PySem.W.fnOf "lies_within" "lies_within" (defArgs s_lies_within) (defBody s_lies_within) (defScope s_lies_within) .none kV15 dc15 pm15 an15 cd15 ct15), sl15⟩)
    (o15 : PySem.W.codeIn K cd15 "lies_within" = true)
    (p15 : PySem.W.keepIn K (.ref f15) = true)
    (a16 : PySem.W.nsIn K mainGlobals "walked" = some (some (.ref f16)))
    (l16 : K.lookup f16 = some ⟨oc16, od16, .func (PySem.W.fnOf "walked" "walked" (defArgs s_walked) (defBody s_walked) (defScope s_walked) .none kV16 dc16 pm16 an16 cd16 ct16), sl16⟩)
    (o16 : PySem.W.codeIn K cd16 "walked" = true)
    (p16 : PySem.W.keepIn K (.ref f16) = true)
    (a17 : PySem.W.nsIn K mainGlobals "with_bounds" = some (some (.ref f17)))
    (l17 : K.lookup f17 = some ⟨oc17, od17, .func (PySem.W.fnOf "with_bounds" "with_bounds" (defArgs s_with_bounds) (defBody s_with_bounds) (defScope s_with_bounds) .none kV17 dc17 pm17 an17 cd17 ct17), sl17⟩)
    (o17 : PySem.W.codeIn K cd17 "with_bounds" = true)
    (p17 : PySem.W.keepIn K (.ref f17) = true)
    (a18 : PySem.W.nsIn K mainGlobals "narrowed" = some (some (.ref f18)))
    (l18 : K.lookup f18 = some ⟨oc18, od18, .func (PySem.W.fnOf "narrowed" "narrowed" (defArgs s_narrowed) (defBody s_narrowed) (defScope s_narrowed) .none (.ref kd18) dc18 pm18 an18 cd18 ct18), sl18⟩)
    (kw18_exact : PySem.W.nsIn K kd18 "exact" = some (some (.bool false)))
    (o18 : PySem.W.codeIn K cd18 "narrowed" = true)
    (p18 : PySem.W.keepIn K (.ref f18) = true)
    (a19 : PySem.W.nsIn K mainGlobals "with_rights" = some (some (.ref f19)))
    (l19 : K.lookup f19 = some ⟨oc19, od19, .func (PySem.W.fnOf "with_rights" "with_rights" (defArgs s_with_rights) (defBody s_with_rights) (defScope s_with_rights) .none kV19 dc19 pm19 an19 cd19 ct19), sl19⟩)
    (o19 : PySem.W.codeIn K cd19 "with_rights" = true)
    (p19 : PySem.W.keepIn K (.ref f19) = true)
    (a20 : PySem.W.nsIn K mainGlobals "lessened" = some (some (.ref f20)))
    (l20 : K.lookup f20 = some ⟨oc20, od20, .func (PySem.W.fnOf "lessened" "lessened" (defArgs s_lessened) (defBody s_lessened) (defScope s_lessened) .none kV20 dc20 pm20 an20 cd20 ct20), sl20⟩)
    (o20 : PySem.W.codeIn K cd20 "lessened" = true)
    (p20 : PySem.W.keepIn K (.ref f20) = true)
    (a21 : PySem.W.nsIn K mainGlobals "with_kind" = some (some (.ref f21)))
    (l21 : K.lookup f21 = some ⟨oc21, od21, .func (PySem.W.fnOf "with_kind" "with_kind" (defArgs s_with_kind) (defBody s_with_kind) (defScope s_with_kind) .none kV21 dc21 pm21 an21 cd21 ct21), sl21⟩)
    (o21 : PySem.W.codeIn K cd21 "with_kind" = true)
    (p21 : PySem.W.keepIn K (.ref f21) = true)
    (a22 : PySem.W.nsIn K mainGlobals "kind_told" = some (some (.ref f22)))
    (l22 : K.lookup f22 = some ⟨oc22, od22, .func (PySem.W.fnOf "kind_told" "kind_told" (defArgs s_kind_told) (defBody s_kind_told) (defScope s_kind_told) .none kV22 dc22 pm22 an22 cd22 ct22), sl22⟩)
    (o22 : PySem.W.codeIn K cd22 "kind_told" = true)
    (p22 : PySem.W.keepIn K (.ref f22) = true)
    (a23 : PySem.W.nsIn K mainGlobals "sealed" = some (some (.ref f23)))
    (l23 : K.lookup f23 = some ⟨oc23, od23, .func (PySem.W.fnOf "sealed" "sealed" (defArgs s_sealed) (defBody s_sealed) (defScope s_sealed) .none kV23 dc23 pm23 an23 cd23 ct23), sl23⟩)
    (o23 : PySem.W.codeIn K cd23 "sealed" = true)
    (p23 : PySem.W.keepIn K (.ref f23) = true)
    (a24 : PySem.W.nsIn K mainGlobals "opened_by" = some (some (.ref f24)))
    (l24 : K.lookup f24 = some ⟨oc24, od24, .func (PySem.W.fnOf "opened_by" "opened_by" (defArgs s_opened_by) (defBody s_opened_by) (defScope s_opened_by) .none kV24 dc24 pm24 an24 cd24 ct24), sl24⟩)
    (o24 : PySem.W.codeIn K cd24 "opened_by" = true)
    (p24 : PySem.W.keepIn K (.ref f24) = true)
    (a25 : PySem.W.nsIn K mainGlobals "opened" = some (some (.ref f25)))
    (l25 : K.lookup f25 = some ⟨oc25, od25, .func (PySem.W.fnOf "opened" "opened" (defArgs s_opened) (defBody s_opened) (defScope s_opened) .none kV25 dc25 pm25 an25 cd25 ct25), sl25⟩)
    (o25 : PySem.W.codeIn K cd25 "opened" = true)
    (p25 : PySem.W.keepIn K (.ref f25) = true)
    (a26 : PySem.W.nsIn K mainGlobals "entry" = some (some (.ref f26)))
    (l26 : K.lookup f26 = some ⟨oc26, od26, .func (PySem.W.fnOf "entry" "entry" (defArgs s_entry) (defBody s_entry) (defScope s_entry) .none kV26 dc26 pm26 an26 cd26 ct26), sl26⟩)
    (o26 : PySem.W.codeIn K cd26 "entry" = true)
    (p26 : PySem.W.keepIn K (.ref f26) = true)
    (a27 : PySem.W.nsIn K mainGlobals "_law_pool" = some (some (.ref f27)))
    (l27 : K.lookup f27 = some ⟨oc27, od27, .func (PySem.W.fnOf "_law_pool" "_law_pool" (defArgs s_law_pool) (defBody s_law_pool) (defScope s_law_pool) .none kV27 dc27 pm27 an27 cd27 ct27), sl27⟩)
    (o27 : PySem.W.codeIn K cd27 "_law_pool" = true)
    (p27 : PySem.W.keepIn K (.ref f27) = true)
    (a28 : PySem.W.nsIn K mainGlobals "_law_take" = some (some (.ref f28)))
    (l28 : K.lookup f28 = some ⟨oc28, od28, .func (PySem.W.fnOf "_law_take" "_law_take" (defArgs s_law_take) (defBody s_law_take) (defScope s_law_take) .none kV28 dc28 pm28 an28 cd28 ct28), sl28⟩)
    (o28 : PySem.W.codeIn K cd28 "_law_take" = true)
    (p28 : PySem.W.keepIn K (.ref f28) = true)
    (a29 : PySem.W.nsIn K mainGlobals "_law_least" = some (some (.ref f29)))
    (l29 : K.lookup f29 = some ⟨oc29, od29, .func (PySem.W.fnOf "_law_least" "_law_least" (defArgs s_law_least) (defBody s_law_least) (defScope s_law_least) .none kV29 dc29 pm29 an29 cd29 ct29), sl29⟩)
    (o29 : PySem.W.codeIn K cd29 "_law_least" = true)
    (p29 : PySem.W.keepIn K (.ref f29) = true)
    (a30 : PySem.W.nsIn K mainGlobals "_law_fields" = some (some (.ref f30)))
    (l30 : K.lookup f30 = some ⟨oc30, od30, .func (PySem.W.fnOf "_law_fields" "_law_fields" (defArgs s_law_fields) (defBody s_law_fields) (defScope s_law_fields) .none kV30 dc30 pm30 an30 cd30 ct30), sl30⟩)
    (o30 : PySem.W.codeIn K cd30 "_law_fields" = true)
    (p30 : PySem.W.keepIn K (.ref f30) = true)
    (a31 : PySem.W.nsIn K mainGlobals "_law_made" = some (some (.ref f31)))
    (l31 : K.lookup f31 = some ⟨oc31, od31, .func (PySem.W.fnOf "_law_made" "_law_made" (defArgs s_law_made) (defBody s_law_made) (defScope s_law_made) .none kV31 dc31 pm31 an31 cd31 ct31), sl31⟩)
    (o31 : PySem.W.codeIn K cd31 "_law_made" = true)
    (p31 : PySem.W.keepIn K (.ref f31) = true)
    (a32 : PySem.W.nsIn K mainGlobals "_law_bounds" = some (some (.ref f32)))
    (l32 : K.lookup f32 = some ⟨oc32, od32, .func (PySem.W.fnOf "_law_bounds" "_law_bounds" (defArgs s_law_bounds) (defBody s_law_bounds) (defScope s_law_bounds) .none kV32 dc32 pm32 an32 cd32 ct32), sl32⟩)
    (o32 : PySem.W.codeIn K cd32 "_law_bounds" = true)
    (p32 : PySem.W.keepIn K (.ref f32) = true)
    (a33 : PySem.W.nsIn K mainGlobals "_law_rights" = some (some (.ref f33)))
    (l33 : K.lookup f33 = some ⟨oc33, od33, .func (PySem.W.fnOf "_law_rights" "_law_rights" (defArgs s_law_rights) (defBody s_law_rights) (defScope s_law_rights) .none kV33 dc33 pm33 an33 cd33 ct33), sl33⟩)
    (o33 : PySem.W.codeIn K cd33 "_law_rights" = true)
    (p33 : PySem.W.keepIn K (.ref f33) = true)
    (a34 : PySem.W.nsIn K mainGlobals "_law_word" = some (some (.ref f34)))
    (l34 : K.lookup f34 = some ⟨oc34, od34, .func (PySem.W.fnOf "_law_word" "_law_word" (defArgs s_law_word) (defBody s_law_word) (defScope s_law_word) .none kV34 dc34 pm34 an34 cd34 ct34), sl34⟩)
    (o34 : PySem.W.codeIn K cd34 "_law_word" = true)
    (p34 : PySem.W.keepIn K (.ref f34) = true)
    (a35 : PySem.W.nsIn K mainGlobals "_law_with_kind" = some (some (.ref f35)))
    (l35 : K.lookup f35 = some ⟨oc35, od35, .func (PySem.W.fnOf "_law_with_kind" "_law_with_kind" (defArgs s_law_with_kind) (defBody s_law_with_kind) (defScope s_law_with_kind) .none kV35 dc35 pm35 an35 cd35 ct35), sl35⟩)
    (o35 : PySem.W.codeIn K cd35 "_law_with_kind" = true)
    (p35 : PySem.W.keepIn K (.ref f35) = true)
    (a36 : PySem.W.nsIn K mainGlobals "_law_done" = some (some (.ref f36)))
    (l36 : K.lookup f36 = some ⟨oc36, od36, .func (PySem.W.fnOf "_law_done" "_law_done" (defArgs s_law_done) (defBody s_law_done) (defScope s_law_done) .none kV36 dc36 pm36 an36 cd36 ct36), sl36⟩)
    (o36 : PySem.W.codeIn K cd36 "_law_done" = true)
    (p36 : PySem.W.keepIn K (.ref f36) = true)
    (a37 : PySem.W.nsIn K mainGlobals "_law_above" = some (some (.ref f37)))
    (l37 : K.lookup f37 = some ⟨oc37, od37, .func (PySem.W.fnOf "_law_above" "_law_above" (defArgs s_law_above) (defBody s_law_above) (defScope s_law_above) .none kV37 dc37 pm37 an37 cd37 ct37), sl37⟩)
    (o37 : PySem.W.codeIn K cd37 "_law_above" = true)
    (p37 : PySem.W.keepIn K (.ref f37) = true)
    (a38 : PySem.W.nsIn K mainGlobals "law" = some (some (.ref f38)))
    (l38 : K.lookup f38 = some ⟨oc38, od38, .func (PySem.W.fnOf "law" "law" (defArgs s_law) (defBody s_law) (defScope s_law) .none kV38 dc38 pm38 an38 cd38 ct38), sl38⟩)
    (o38 : PySem.W.codeIn K cd38 "law" = true)
    (p38 : PySem.W.keepIn K (.ref f38) = true)
    (k_CELLS : PySem.W.nsIn K mainGlobals "CELLS" = some (some (.int 4096 t_CELLS)))
    (k_MOST_COUNT : PySem.W.nsIn K mainGlobals "MOST_COUNT" = some (some (.int 16 t_MOST_COUNT)))
    (k_MOST_STEP : PySem.W.nsIn K mainGlobals "MOST_STEP" = some (some (.int 8 t_MOST_STEP)))
    (k_RIGHTS : PySem.W.nsIn K mainGlobals "RIGHTS" = some (some (.str "rwlsnfxco" t_RIGHTS)))
    (k_WORDS : PySem.W.nsIn K mainGlobals "WORDS" = some (some (.int 35184372088832 t_WORDS)))
    (k_KINDS : PySem.W.nsIn K mainGlobals "KINDS" = some (some (.int 16 t_KINDS)))
    (k_CELL_GROUP : PySem.W.nsIn K mainGlobals "CELL_GROUP" = some (some (.str "rwlsn" t_CELL_GROUP)))
    (k_GATE : PySem.W.nsIn K mainGlobals "GATE" = some (some (.int 2 t_GATE)))
    (k_ENTRY : PySem.W.nsIn K mainGlobals "ENTRY" = some (some (.int 1 t_ENTRY)))
    (k_LEAST_KIND : PySem.W.nsIn K mainGlobals "LEAST_KIND" = some (some (.int 3 t_LEAST_KIND)))
    (k_MOST_KIND : PySem.W.nsIn K mainGlobals "MOST_KIND" = some (some (.int 15 t_MOST_KIND)))
    (z_abs : PySem.W.nsIn K mainGlobals "abs" = some none)
    (z_all : PySem.W.nsIn K mainGlobals "all" = some none)
    (z_any : PySem.W.nsIn K mainGlobals "any" = some none)
    (z_bool : PySem.W.nsIn K mainGlobals "bool" = some none)
    (z_enumerate : PySem.W.nsIn K mainGlobals "enumerate" = some none)
    (z_int : PySem.W.nsIn K mainGlobals "int" = some none)
    (z_isinstance : PySem.W.nsIn K mainGlobals "isinstance" = some none)
    (z_len : PySem.W.nsIn K mainGlobals "len" = some none)
    (z_list : PySem.W.nsIn K mainGlobals "list" = some none)
    (z_max : PySem.W.nsIn K mainGlobals "max" = some none)
    (z_min : PySem.W.nsIn K mainGlobals "min" = some none)
    (z_range : PySem.W.nsIn K mainGlobals "range" = some none)
    (z_str : PySem.W.nsIn K mainGlobals "str" = some none)
    (z_sum : PySem.W.nsIn K mainGlobals "sum" = some none)
    (z_tuple : PySem.W.nsIn K mainGlobals "tuple" = some none)
    (g_ReachError : PySem.W.nsIn K mainGlobals "ReachError" = some (some (.ref c0)))
    (g_NoFields : PySem.W.nsIn K mainGlobals "NoFields" = some (some (.ref c1)))
    (x_NoFields : PySem.W.excIn K c1 [.type "ValueError", .type "Exception", .type "BaseException", .type "object"] "ValueError.__new__" = true)
    (p_NoFields : PySem.W.keepIn K (.ref c1) = true)
    (u_NoFields : PySem.W.subIn K (.ref c1) (.type "BaseException") = some true)
    (y_NoFields : PySem.W.typeIn K (.ref c1) = some (.type "type"))
    : ∃ (fd : FuncData) (C : Nat → Addr), (∀ (s : Shared) (v : Value), BindsTo s fd ⟨[v], []⟩ [("_law_script", v)]) ∧ ∀ base : Heap, K.In base → base.Ns mainGlobals mg → FnOk l.prog w K mg base (L2.CX l.prog w) 9 fa fd ["_law_script"] (spOf K C 1 g_law) := by
  have e := hfa.symm.trans (PySem.W.mg_of X G a38)
  cases e
  have F0 := fun_mk (st := s_is_whole) l0 o0 p0
  have F1 := fun_mk (st := s_least_in_bits) l1 o1 p1
  have F2 := fun_mk (st := s_from_bits) l2 o2 p2
  have F3 := fun_mk (st := s_least_held) l3 o3 p3
  have F4 := fun_mk (st := s_is_word) l4 o4 p4
  have F5 := fun_mk (st := s_is_rights) l5 o5 p5
  have F6 := fun_mk (st := s_are_lawful) l6 o6 p6
  have F7 := fun_mk (st := s_rights_in) l7 o7 p7
  have F8 := fun_mk (st := s_fields_of) l8 o8 p8
  have F9 := fun_mk (st := s_is_lawful) l9 o9 p9
  have F10 := fun_mk (st := s_are_fields) l10 o10 p10
  have F11 : FunD K "word_of" "word_of" (defArgs s_word_of) (defBody s_word_of) (defScope s_word_of) [] [("marked", .bl true)] f11 _ := ⟨⟨_, _, _, _, _, _, _, _, _, _, rfl, l11, o11, .inl ⟨rfl, rfl⟩, .inr ⟨kd11, rfl, List.forall_mem_cons.mpr ⟨⟨_, kw11_marked, rfl⟩, List.forall_mem_nil _⟩⟩⟩, p11⟩
  have F12 := fun_mk (st := s_bare) l12 o12 p12
  have F13 := fun_mk (st := s_is_open) l13 o13 p13
  have F14 := fun_mk (st := s_kinds_within) l14 o14 p14
  have F15 := fun_mk (st := s_lies_within) l15 o15 p15
  have F16 := fun_mk (st := s_walked) l16 o16 p16
  have F17 := fun_mk (st := s_with_bounds) l17 o17 p17
  have F18 : FunD K "narrowed" "narrowed" (defArgs s_narrowed) (defBody s_narrowed) (defScope s_narrowed) [] [("exact", .bl false)] f18 _ := ⟨⟨_, _, _, _, _, _, _, _, _, _, rfl, l18, o18, .inl ⟨rfl, rfl⟩, .inr ⟨kd18, rfl, List.forall_mem_cons.mpr ⟨⟨_, kw18_exact, rfl⟩, List.forall_mem_nil _⟩⟩⟩, p18⟩
  have F19 := fun_mk (st := s_with_rights) l19 o19 p19
  have F20 := fun_mk (st := s_lessened) l20 o20 p20
  have F21 := fun_mk (st := s_with_kind) l21 o21 p21
  have F22 := fun_mk (st := s_kind_told) l22 o22 p22
  have F23 := fun_mk (st := s_sealed) l23 o23 p23
  have F24 := fun_mk (st := s_opened_by) l24 o24 p24
  have F25 := fun_mk (st := s_opened) l25 o25 p25
  have F26 := fun_mk (st := s_entry) l26 o26 p26
  have F27 := fun_mk (st := s_law_pool) l27 o27 p27
  have F28 := fun_mk (st := s_law_take) l28 o28 p28
  have F29 := fun_mk (st := s_law_least) l29 o29 p29
  have F30 := fun_mk (st := s_law_fields) l30 o30 p30
  have F31 := fun_mk (st := s_law_made) l31 o31 p31
  have F32 := fun_mk (st := s_law_bounds) l32 o32 p32
  have F33 := fun_mk (st := s_law_rights) l33 o33 p33
  have F34 := fun_mk (st := s_law_word) l34 o34 p34
  have F35 := fun_mk (st := s_law_with_kind) l35 o35 p35
  have F36 := fun_mk (st := s_law_done) l36 o36 p36
  have F37 := fun_mk (st := s_law_above) l37 o37 p37
  have F38 := fun_mk (st := s_law) l38 o38 p38
  let A : Nat → Addr := fun n => match n with | 0 => f0 | 1 => f1 | 2 => f2 | 3 => f3 | 4 => f4 | 5 => f5 | 6 => f6 | 7 => f7 | 8 => f8 | 9 => f9 | 10 => f10 | 11 => f11 | 12 => f12 | 13 => f13 | 14 => f14 | 15 => f15 | 16 => f16 | 17 => f17 | 18 => f18 | 19 => f19 | 20 => f20 | 21 => f21 | 22 => f22 | 23 => f23 | 24 => f24 | 25 => f25 | 26 => f26 | 27 => f27 | 28 => f28 | 29 => f29 | 30 => f30 | 31 => f31 | 32 => f32 | 33 => f33 | 34 => f34 | 35 => f35 | 36 => f36 | 37 => f37 | 38 => fa | _ => 0
  let C : Nat → Addr := fun n => match n with | 0 => c0 | 1 => c1 | _ => 0
  let fd : Nat → FuncData := fun n => match n with | 0 => PySem.W.fnOf "is_whole" "is_whole" (defArgs s_is_whole) (defBody s_is_whole) (defScope s_is_whole) .none kV0 dc0 pm0 an0 cd0 ct0 | 1 => PySem.W.fnOf "least_in_bits" "least_in_bits" (defArgs s_least_in_bits) (defBody s_least_in_bits) (defScope s_least_in_bits) .none kV1 dc1 pm1 an1 cd1 ct1 | 2 => PySem.W.fnOf "from_bits" "from_bits" (defArgs s_from_bits) (defBody s_from_bits) (defScope s_from_bits) .none kV2 dc2 pm2 an2 cd2 ct2 | 3 => PySem.W.fnOf "least_held" "least_held" (defArgs s_least_held) (defBody s_least_held) (defScope s_least_held) .none kV3 dc3 pm3 an3 cd3 ct3 | 4 => PySem.W.fnOf "is_word" "is_word" (defArgs s_is_word) (defBody s_is_word) (defScope s_is_word) .none kV4 dc4 pm4 an4 cd4 ct4 | 5 => PySem.W.fnOf "is_rights" "is_rights" (defArgs s_is_rights) (defBody s_is_rights) (defScope s_is_rights) .none kV5 dc5 pm5 an5 cd5 ct5 | 6 => PySem.W.fnOf "are_lawful" "are_lawful" (defArgs s_are_lawful) (defBody s_are_lawful) (defScope s_are_lawful) .none kV6 dc6 pm6 an6 cd6 ct6 | 7 => PySem.W.fnOf "rights_in" "rights_in" (defArgs s_rights_in) (defBody s_rights_in) (defScope s_rights_in) .none kV7 dc7 pm7 an7 cd7 ct7 | 8 => PySem.W.fnOf "fields_of" "fields_of" (defArgs s_fields_of) (defBody s_fields_of) (defScope s_fields_of) .none kV8 dc8 pm8 an8 cd8 ct8 | 9 => PySem.W.fnOf "is_lawful" "is_lawful" (defArgs s_is_lawful) (defBody s_is_lawful) (defScope s_is_lawful) .none kV9 dc9 pm9 an9 cd9 ct9 | 10 => PySem.W.fnOf "are_fields" "are_fields" (defArgs s_are_fields) (defBody s_are_fields) (defScope s_are_fields) .none kV10 dc10 pm10 an10 cd10 ct10 | 11 => PySem.W.fnOf "word_of" "word_of" (defArgs s_word_of) (defBody s_word_of) (defScope s_word_of) .none (.ref kd11) dc11 pm11 an11 cd11 ct11 | 12 => PySem.W.fnOf "bare" "bare" (defArgs s_bare) (defBody s_bare) (defScope s_bare) .none kV12 dc12 pm12 an12 cd12 ct12 | 13 => PySem.W.fnOf "is_open" "is_open" (defArgs s_is_open) (defBody s_is_open) (defScope s_is_open) .none kV13 dc13 pm13 an13 cd13 ct13 | 14 => PySem.W.fnOf "kinds_within" "kinds_within" (defArgs s_kinds_within) (defBody s_kinds_within) (defScope s_kinds_within) .none kV14 dc14 pm14 an14 cd14 ct14 | 15 => PySem.W.fnOf "lies_within" "lies_within" (defArgs s_lies_within) (defBody s_lies_within) (defScope s_lies_within) .none kV15 dc15 pm15 an15 cd15 ct15 | 16 => PySem.W.fnOf "walked" "walked" (defArgs s_walked) (defBody s_walked) (defScope s_walked) .none kV16 dc16 pm16 an16 cd16 ct16 | 17 => PySem.W.fnOf "with_bounds" "with_bounds" (defArgs s_with_bounds) (defBody s_with_bounds) (defScope s_with_bounds) .none kV17 dc17 pm17 an17 cd17 ct17 | 18 => PySem.W.fnOf "narrowed" "narrowed" (defArgs s_narrowed) (defBody s_narrowed) (defScope s_narrowed) .none (.ref kd18) dc18 pm18 an18 cd18 ct18 | 19 => PySem.W.fnOf "with_rights" "with_rights" (defArgs s_with_rights) (defBody s_with_rights) (defScope s_with_rights) .none kV19 dc19 pm19 an19 cd19 ct19 | 20 => PySem.W.fnOf "lessened" "lessened" (defArgs s_lessened) (defBody s_lessened) (defScope s_lessened) .none kV20 dc20 pm20 an20 cd20 ct20 | 21 => PySem.W.fnOf "with_kind" "with_kind" (defArgs s_with_kind) (defBody s_with_kind) (defScope s_with_kind) .none kV21 dc21 pm21 an21 cd21 ct21 | 22 => PySem.W.fnOf "kind_told" "kind_told" (defArgs s_kind_told) (defBody s_kind_told) (defScope s_kind_told) .none kV22 dc22 pm22 an22 cd22 ct22 | 23 => PySem.W.fnOf "sealed" "sealed" (defArgs s_sealed) (defBody s_sealed) (defScope s_sealed) .none kV23 dc23 pm23 an23 cd23 ct23 | 24 => PySem.W.fnOf "opened_by" "opened_by" (defArgs s_opened_by) (defBody s_opened_by) (defScope s_opened_by) .none kV24 dc24 pm24 an24 cd24 ct24 | 25 => PySem.W.fnOf "opened" "opened" (defArgs s_opened) (defBody s_opened) (defScope s_opened) .none kV25 dc25 pm25 an25 cd25 ct25 | 26 => PySem.W.fnOf "entry" "entry" (defArgs s_entry) (defBody s_entry) (defScope s_entry) .none kV26 dc26 pm26 an26 cd26 ct26 | 27 => PySem.W.fnOf "_law_pool" "_law_pool" (defArgs s_law_pool) (defBody s_law_pool) (defScope s_law_pool) .none kV27 dc27 pm27 an27 cd27 ct27 | 28 => PySem.W.fnOf "_law_take" "_law_take" (defArgs s_law_take) (defBody s_law_take) (defScope s_law_take) .none kV28 dc28 pm28 an28 cd28 ct28 | 29 => PySem.W.fnOf "_law_least" "_law_least" (defArgs s_law_least) (defBody s_law_least) (defScope s_law_least) .none kV29 dc29 pm29 an29 cd29 ct29 | 30 => PySem.W.fnOf "_law_fields" "_law_fields" (defArgs s_law_fields) (defBody s_law_fields) (defScope s_law_fields) .none kV30 dc30 pm30 an30 cd30 ct30 | 31 => PySem.W.fnOf "_law_made" "_law_made" (defArgs s_law_made) (defBody s_law_made) (defScope s_law_made) .none kV31 dc31 pm31 an31 cd31 ct31 | 32 => PySem.W.fnOf "_law_bounds" "_law_bounds" (defArgs s_law_bounds) (defBody s_law_bounds) (defScope s_law_bounds) .none kV32 dc32 pm32 an32 cd32 ct32 | 33 => PySem.W.fnOf "_law_rights" "_law_rights" (defArgs s_law_rights) (defBody s_law_rights) (defScope s_law_rights) .none kV33 dc33 pm33 an33 cd33 ct33 | 34 => PySem.W.fnOf "_law_word" "_law_word" (defArgs s_law_word) (defBody s_law_word) (defScope s_law_word) .none kV34 dc34 pm34 an34 cd34 ct34 | 35 => PySem.W.fnOf "_law_with_kind" "_law_with_kind" (defArgs s_law_with_kind) (defBody s_law_with_kind) (defScope s_law_with_kind) .none kV35 dc35 pm35 an35 cd35 ct35 | 36 => PySem.W.fnOf "_law_done" "_law_done" (defArgs s_law_done) (defBody s_law_done) (defScope s_law_done) .none kV36 dc36 pm36 an36 cd36 ct36 | 37 => PySem.W.fnOf "_law_above" "_law_above" (defArgs s_law_above) (defBody s_law_above) (defScope s_law_above) .none kV37 dc37 pm37 an37 cd37 ct37 | 38 => PySem.W.fnOf "law" "law" (defArgs s_law) (defBody s_law) (defScope s_law) .none kV38 dc38 pm38 an38 cd38 ct38 | _ => PySem.W.fnOf "law" "law" (defArgs s_law) (defBody s_law) (defScope s_law) .none kV38 dc38 pm38 an38 cd38 ct38
  have T : Txt K mg C A fd := {
    f_is_whole := F0,
    b_is_whole := F0.binds (ps := ["thing"]) fun _ _ _ _ _ _ us hl => match us, hl with | [_], _ => rfl,
    g_is_whole := PySem.W.mg_of X G a0,
    f_least_in_bits := F1,
    b_least_in_bits := F1.binds (ps := ["low", "high"]) fun _ _ _ _ _ _ us hl => match us, hl with | [_, _], _ => rfl,
    g_least_in_bits := PySem.W.mg_of X G a1,
    f_from_bits := F2,
    b_from_bits := F2.binds (ps := ["step", "first", "count"]) fun _ _ _ _ _ _ us hl => match us, hl with | [_, _, _], _ => rfl,
    g_from_bits := PySem.W.mg_of X G a2,
    f_least_held := F3,
    b_least_held := F3.binds (ps := ["low", "high"]) fun _ _ _ _ _ _ us hl => match us, hl with | [_, _], _ => rfl,
    g_least_held := PySem.W.mg_of X G a3,
    f_is_word := F4,
    b_is_word := F4.binds (ps := ["thing"]) fun _ _ _ _ _ _ us hl => match us, hl with | [_], _ => rfl,
    g_is_word := PySem.W.mg_of X G a4,
    f_is_rights := F5,
    b_is_rights := F5.binds (ps := ["thing"]) fun _ _ _ _ _ _ us hl => match us, hl with | [_], _ => rfl,
    g_is_rights := PySem.W.mg_of X G a5,
    f_are_lawful := F6,
    b_are_lawful := F6.binds (ps := ["rights"]) fun _ _ _ _ _ _ us hl => match us, hl with | [_], _ => rfl,
    g_are_lawful := PySem.W.mg_of X G a6,
    f_rights_in := F7,
    b_rights_in := F7.binds (ps := ["bits"]) fun _ _ _ _ _ _ us hl => match us, hl with | [_], _ => rfl,
    g_rights_in := PySem.W.mg_of X G a7,
    f_fields_of := F8,
    b_fields_of := F8.binds (ps := ["word"]) fun _ _ _ _ _ _ us hl => match us, hl with | [_], _ => rfl,
    g_fields_of := PySem.W.mg_of X G a8,
    f_is_lawful := F9,
    b_is_lawful := F9.binds (ps := ["thing"]) fun _ _ _ _ _ _ us hl => match us, hl with | [_], _ => rfl,
    g_is_lawful := PySem.W.mg_of X G a9,
    f_are_fields := F10,
    b_are_fields := F10.binds (ps := ["thing"]) fun _ _ _ _ _ _ us hl => match us, hl with | [_], _ => rfl,
    g_are_fields := PySem.W.mg_of X G a10,
    f_word_of := F11,
    g_word_of := PySem.W.mg_of X G a11,
    f_bare := F12,
    b_bare := F12.binds (ps := ["word"]) fun _ _ _ _ _ _ us hl => match us, hl with | [_], _ => rfl,
    g_bare := PySem.W.mg_of X G a12,
    f_is_open := F13,
    b_is_open := F13.binds (ps := ["word"]) fun _ _ _ _ _ _ us hl => match us, hl with | [_], _ => rfl,
    g_is_open := PySem.W.mg_of X G a13,
    f_kinds_within := F14,
    b_kinds_within := F14.binds (ps := ["one", "other"]) fun _ _ _ _ _ _ us hl => match us, hl with | [_, _], _ => rfl,
    g_kinds_within := PySem.W.mg_of X G a14,
    f_lies_within := F15,
    b_lies_within := F15.binds (ps := ["one", "other"]) fun _ _ _ _ _ _ us hl => match us, hl with | [_, _], _ => rfl,
    g_lies_within := PySem.W.mg_of X G a15,
    f_walked := F16,
    b_walked := F16.binds (ps := ["word", "number"]) fun _ _ _ _ _ _ us hl => match us, hl with | [_, _], _ => rfl,
    g_walked := PySem.W.mg_of X G a16,
    f_with_bounds := F17,
    b_with_bounds := F17.binds (ps := ["word", "low", "high"]) fun _ _ _ _ _ _ us hl => match us, hl with | [_, _, _], _ => rfl,
    g_with_bounds := PySem.W.mg_of X G a17,
    f_narrowed := F18,
    g_narrowed := PySem.W.mg_of X G a18,
    f_with_rights := F19,
    b_with_rights := F19.binds (ps := ["word", "rights"]) fun _ _ _ _ _ _ us hl => match us, hl with | [_, _], _ => rfl,
    g_with_rights := PySem.W.mg_of X G a19,
    f_lessened := F20,
    b_lessened := F20.binds (ps := ["word", "rights"]) fun _ _ _ _ _ _ us hl => match us, hl with | [_, _], _ => rfl,
    g_lessened := PySem.W.mg_of X G a20,
    f_with_kind := F21,
    b_with_kind := F21.binds (ps := ["word", "kind"]) fun _ _ _ _ _ _ us hl => match us, hl with | [_, _], _ => rfl,
    g_with_kind := PySem.W.mg_of X G a21,
    f_kind_told := F22,
    b_kind_told := F22.binds (ps := ["word", "right"]) fun _ _ _ _ _ _ us hl => match us, hl with | [_, _], _ => rfl,
    g_kind_told := PySem.W.mg_of X G a22,
    f_sealed := F23,
    b_sealed := F23.binds (ps := ["word", "other"]) fun _ _ _ _ _ _ us hl => match us, hl with | [_, _], _ => rfl,
    g_sealed := PySem.W.mg_of X G a23,
    f_opened_by := F24,
    b_opened_by := F24.binds (ps := ["word", "other"]) fun _ _ _ _ _ _ us hl => match us, hl with | [_, _], _ => rfl,
    g_opened_by := PySem.W.mg_of X G a24,
    f_opened := F25,
    b_opened := F25.binds (ps := ["word", "other"]) fun _ _ _ _ _ _ us hl => match us, hl with | [_, _], _ => rfl,
    g_opened := PySem.W.mg_of X G a25,
    f_entry := F26,
    b_entry := F26.binds (ps := ["word"]) fun _ _ _ _ _ _ us hl => match us, hl with | [_], _ => rfl,
    g_entry := PySem.W.mg_of X G a26,
    f_law_pool := F27,
    b_law_pool := F27.binds (ps := ["_law_script", "_law_k"]) fun _ _ _ _ _ _ us hl => match us, hl with | [_, _], _ => rfl,
    g_law_pool := PySem.W.mg_of X G a27,
    f_law_take := F28,
    b_law_take := F28.binds (ps := ["_law_pool_here", "_law_many"]) fun _ _ _ _ _ _ us hl => match us, hl with | [_, _], _ => rfl,
    g_law_take := PySem.W.mg_of X G a28,
    f_law_least := F29,
    b_law_least := F29.binds (ps := ["_law_low", "_law_high"]) fun _ _ _ _ _ _ us hl => match us, hl with | [_, _], _ => rfl,
    g_law_least := PySem.W.mg_of X G a29,
    f_law_fields := F30,
    b_law_fields := F30.binds (ps := ["_law_word_here"]) fun _ _ _ _ _ _ us hl => match us, hl with | [_], _ => rfl,
    g_law_fields := PySem.W.mg_of X G a30,
    f_law_made := F31,
    b_law_made := F31.binds (ps := ["_law_low", "_law_high", "_law_at", "_law_rights_here", "_law_kind"]) fun _ _ _ _ _ _ us hl => match us, hl with | [_, _, _, _, _], _ => rfl,
    g_law_made := PySem.W.mg_of X G a31,
    f_law_bounds := F32,
    b_law_bounds := F32.binds (ps := ["_law_pool_here"]) fun _ _ _ _ _ _ us hl => match us, hl with | [_], _ => rfl,
    g_law_bounds := PySem.W.mg_of X G a32,
    f_law_rights := F33,
    b_law_rights := F33.binds (ps := ["_law_pool_here"]) fun _ _ _ _ _ _ us hl => match us, hl with | [_], _ => rfl,
    g_law_rights := PySem.W.mg_of X G a33,
    f_law_word := F34,
    b_law_word := F34.binds (ps := ["_law_pool_here"]) fun _ _ _ _ _ _ us hl => match us, hl with | [_], _ => rfl,
    g_law_word := PySem.W.mg_of X G a34,
    f_law_with_kind := F35,
    b_law_with_kind := F35.binds (ps := ["_law_word_here", "_law_kind"]) fun _ _ _ _ _ _ us hl => match us, hl with | [_, _], _ => rfl,
    g_law_with_kind := PySem.W.mg_of X G a35,
    f_law_done := F36,
    b_law_done := F36.binds (ps := ["_law_pool_here", "_law_word_here", "_law_other"]) fun _ _ _ _ _ _ us hl => match us, hl with | [_, _, _], _ => rfl,
    g_law_done := PySem.W.mg_of X G a36,
    f_law_above := F37,
    b_law_above := F37.binds (ps := ["_law_words"]) fun _ _ _ _ _ _ us hl => match us, hl with | [_], _ => rfl,
    g_law_above := PySem.W.mg_of X G a37,
    f_law := F38,
    b_law := F38.binds (ps := ["_law_script"]) fun _ _ _ _ _ _ us hl => match us, hl with | [_], _ => rfl,
    g_law := PySem.W.mg_of X G a38,
    c_CELLS := ⟨_, PySem.W.mg_of X G k_CELLS⟩,
    c_MOST_COUNT := ⟨_, PySem.W.mg_of X G k_MOST_COUNT⟩,
    c_MOST_STEP := ⟨_, PySem.W.mg_of X G k_MOST_STEP⟩,
    c_RIGHTS := ⟨_, PySem.W.mg_of X G k_RIGHTS⟩,
    c_WORDS := ⟨_, PySem.W.mg_of X G k_WORDS⟩,
    c_KINDS := ⟨_, PySem.W.mg_of X G k_KINDS⟩,
    c_CELL_GROUP := ⟨_, PySem.W.mg_of X G k_CELL_GROUP⟩,
    c_GATE := ⟨_, PySem.W.mg_of X G k_GATE⟩,
    c_ENTRY := ⟨_, PySem.W.mg_of X G k_ENTRY⟩,
    c_LEAST_KIND := ⟨_, PySem.W.mg_of X G k_LEAST_KIND⟩,
    c_MOST_KIND := ⟨_, PySem.W.mg_of X G k_MOST_KIND⟩,
    z_abs := PySem.W.mg_none_of X G z_abs,
    z_all := PySem.W.mg_none_of X G z_all,
    z_any := PySem.W.mg_none_of X G z_any,
    z_bool := PySem.W.mg_none_of X G z_bool,
    z_enumerate := PySem.W.mg_none_of X G z_enumerate,
    z_int := PySem.W.mg_none_of X G z_int,
    z_isinstance := PySem.W.mg_none_of X G z_isinstance,
    z_len := PySem.W.mg_none_of X G z_len,
    z_list := PySem.W.mg_none_of X G z_list,
    z_max := PySem.W.mg_none_of X G z_max,
    z_min := PySem.W.mg_none_of X G z_min,
    z_range := PySem.W.mg_none_of X G z_range,
    z_str := PySem.W.mg_none_of X G z_str,
    z_sum := PySem.W.mg_none_of X G z_sum,
    z_tuple := PySem.W.mg_none_of X G z_tuple,
    k_ReachError := PySem.W.mg_of X G g_ReachError,
    k_NoFields := PySem.W.mg_of X G g_NoFields,
    x_NoFields := x_NoFields,
    p_NoFields := p_NoFields,
    u_NoFields := u_NoFields,
    y_NoFields := y_NoFields }
  exact ⟨_, C, fun s v => .of_eq rfl, fun base _ _ => ok_law T⟩
end Lw
namespace Lw
open PySem PySem.Spec L2 Ev
theorem mulOk_of {i j : Int} (h : -18446744073709551616 < i) (h2 : i < 18446744073709551616) : mulOk i j = true := by unfold mulOk; simp [h, h2]
theorem take_eq {S : Store} {n : Nat} {a b many : Int} (hS : S[n]? = some (.lst [.int a, .int b])) (hb : 0 ≤ b) (hb2 : b < 2147483647) (hm : 0 < many) (hm2 : many < 18446744073709551616) :
    g_law_take [.loc n, .int many] S = if 0 < a then .ok (.int (a % many)) (S.set n (.lst [.int (a / many), .int b]))
      else .ok (.int ((b * 48271 + 11) % 2147483647 * ((b * 48271 + 11) % 2147483647) % 2147483629 / 16 % many)) (S.set n (.lst [.int a, .int ((b * 48271 + 11) % 2147483647)])) := by
  have hl : n < S.length := (List.getElem?_eq_some_iff.mp hS).1
  have hset : ∀ o : MO, (S.set n o)[n]? = some o := fun o => List.getElem?_set_self hl
  have hb3 : mulOk b 48271 = true := mulOk_of (by omega) (by omega)
  have hb4 : mulOk ((b * 48271 + 11) % 2147483647) ((b * 48271 + 11) % 2147483647) = true := mulOk_of (by omega) (by omega)
  unfold g_law_take runDef m_law_take
  simp [ixD, atI, ixN, hS, putIx, hm, hm2, hb3, hb4, hset]
/-- the pool at n; what else stands is as it was -/
def PoolAt (S : Store) (n : Nat) : Prop := ∃ a b : Int, S[n]? = some (.lst [.int a, .int b]) ∧ 0 ≤ a ∧ 0 ≤ b ∧ b < 2147483647
theorem take_ok {S : Store} {n : Nat} (many : Int) (h : PoolAt S n) (hm : 0 < many) (hm2 : many < 18446744073709551616) : ∃ r S', g_law_take [.loc n, .int many] S = .ok (.int r) S' ∧ 0 ≤ r ∧ r < many ∧ PoolAt S' n ∧ ∃ o, S' = S.set n o := by
  obtain ⟨a, b, hS, ha, hb, hb2⟩ := h
  have hl : n < S.length := (List.getElem?_eq_some_iff.mp hS).1
  rw [take_eq hS hb hb2 hm hm2]
  split
  · exact ⟨_, _, rfl, Int.emod_nonneg _ (by omega), Int.emod_lt_of_pos _ hm, ⟨_, _, List.getElem?_set_self hl, Int.ediv_nonneg ha (by omega), hb, hb2⟩, _, rfl⟩
  · exact ⟨_, _, rfl, Int.emod_nonneg _ (by omega), Int.emod_lt_of_pos _ hm, ⟨_, _, List.getElem?_set_self hl, ha, by omega, by omega⟩, _, rfl⟩
theorem atI_map (ns : List Int) (k : Int) (h : 0 ≤ k) (h2 : k < ns.length) : atI (ns.map D.int) k = some (.int (ns.getD k.toNat 0)) := by
  have h3 : k.toNat < ns.length := by omega
  simp [atI, ixN, h, h2, List.getD, h3]
theorem pool_ok (ns : List Int) (k : Int) (S : Store) (hk : 0 ≤ k) (hk2 : k < 1000) : ∃ a b : Int, 0 ≤ a ∧ 0 ≤ b ∧ b < 2147483647 ∧ g_law_pool [.lst (ns.map D.int), .int k] S = .ok (.loc S.length) (S ++ [.lst [.int a, .int b]]) := by
  have m1 : ∀ x, mulOk 7 x = true := fun x => mulOk_of (by omega) (by omega)
  have m2 : mulOk 7919 k = true := mulOk_of (by omega) (by omega)
  have m3 : mulOk (7919 * k) k = true := mulOk_of (by omega) (by omega)
  have m4 : mulOk 31 k = true := mulOk_of (by omega) (by omega)
  have kk : 0 ≤ 7919 * k * k ∧ 7919 * k * k < 7919000000 := by
    have h1 : 0 ≤ k * k := Int.mul_nonneg hk hk
    have h2 : k * k ≤ 999 * 999 := Int.mul_le_mul (by omega) (by omega) hk (by omega)
    have e : 7919 * k * k = 7919 * (k * k) := Int.mul_assoc ..
    rw [e]
    omega
  have fin : ∀ c : Int, ∃ a b : Int, 0 ≤ a ∧ 0 ≤ b ∧ b < 2147483647 ∧
      ((sSeq (sSet 3 (rCal absD (rCons (rVar 2) rNil)))
                      (sSeq
                        (sSet 4
                          (rBin modD
                            (rBin mulD
                              (rBin addD
                                (rBin addD
                                  (rBin addD (rBin modD (rVar 3) (rCon (D.int 2147483629)))
                                    (rBin mulD (rBin mulD (rCon (D.int 7919)) (rVar 1)) (rVar 1)))
                                  (rBin mulD (rCon (D.int 31)) (rVar 1)))
                                (rCon (D.int 17)))
                              (rCon (D.int 48271)))
                            (rCon (D.int 2147483647))))
                        (sRet
                          (rLstM
                            (rCons
                              (rBin mulD (rVar 3)
                                (rCal intD
                                  (rCons (rBin geD (rVar 3) (rBin powD (rCon (D.int 10)) (rCon (D.int 18)))) rNil)))
                              (rCons (rBin modD (rBin mulD (rVar 4) (rVar 4)) (rCon (D.int 2147483629)))
                                rNil)))))) [some (D.lst (List.map D.int ns)), some (D.int k), some (.int c), none, none] S).res = Res.ok (D.loc (List.length S)) (S ++ [MO.lst [D.int a, D.int b]]) := fun c => by
    generalize hg : (if c < 0 then -c else c) = z
    have hz : 0 ≤ z := by rw [← hg]; split <;> omega
    have m5 : mulOk (z % 2147483629 + 7919 * k * k + 31 * k + 17) 48271 = true := mulOk_of (by omega) (by omega)
    generalize hy : (z % 2147483629 + 7919 * k * k + 31 * k + 17) * 48271 % 2147483647 = y
    have hy0 : 0 ≤ y := by omega
    have hy1 : y < 2147483647 := by omega
    have m6 : mulOk y y = true := mulOk_of (by omega) (by omega)
    have m7 : ∀ b : Bool, mulOk z (if b = true then 1 else 0) = true := fun b => by cases b <;> simp [mulOk]
    have p1 : powOk 10 18 = true := by decide
    have m8 := m7 (decide (10 ^ 18 ≤ z))
    simp at m8
    refine ⟨if 1000000000000000000 ≤ z then z else 0, y * y % 2147483629, ?_, by omega, by omega, ?_⟩
    · split <;> omega
    · simp [hg, m2, m3, m4, m5, hy, m6, p1, m8]
      split <;> simp
  unfold g_law_pool runDef m_law_pool
  by_cases hlt : k < ns.length
  · obtain ⟨a, b, h1, h2, h3, h4⟩ := fin (ns.getD k.toNat 0)
    refine ⟨a, b, h1, h2, h3, ?_⟩
    rw [← h4]
    simp [slD, sumD, cutD, HT.sIx, ← List.map_take, allI_map, m1, hlt, ixD, atI_map ns k hk hlt]
  · obtain ⟨a, b, h1, h2, h3, h4⟩ := fin (7 * (ns.take (min 63 ns.length)).sum + k)
    refine ⟨a, b, h1, h2, h3, ?_⟩
    rw [← h4]
    simp [slD, sumD, cutD, HT.sIx, ← List.map_take, allI_map, m1, hlt]
end Lw
namespace Lw
open PySem PySem.Spec L2 Ev
/-! ### bounds -/
def Typed (S : Store) (d : D) : Prop := ∃ t, tyD S d = some t
def isW : D → Bool
  | .int _ => true
  | _ => false
theorem isi_loc_int {S : Store} {n : Nat} (h : Typed S (.loc n)) : isiD "int" S (.loc n) = some (.bl false) := by
  obtain ⟨t, h⟩ := h
  have h2 := h
  simp only [tyD] at h2
  split at h2 <;> cases h2
  · exact isiD_of h (by decide +kernel)
  · exact isiD_of h (by decide +kernel)
theorem is_whole_eq {S : Store} {d : D} (h : Typed S d) : g_is_whole [d] S = .ok (.bl (isW d)) S := by
  unfold g_is_whole runDef m_is_whole
  cases d with
  | loc n => simp [isi_loc_int h, isW]
  | exn c ns xs => obtain ⟨t, h⟩ := h; cases h
  | _ => simp [isW]
/-- two ints that are bounds -/
def bnd : D → D → Option (Int × Int)
  | .int l, .int h => if 0 ≤ l ∧ l < h ∧ h ≤ 4096 then some (l, h) else none
  | _, _ => none
theorem bnd_some {a b : D} {l h : Int} (e : bnd a b = some (l, h)) : a = .int l ∧ b = .int h ∧ 0 ≤ l ∧ l < h ∧ h ≤ 4096 := by
  unfold bnd at e
  split at e
  · split at e
    · rename_i hh
      cases e
      exact ⟨rfl, rfl, hh⟩
    · cases e
  · cases e
/-! the least bounds in bits -/
/-- h / 2^s, rounded up -/
def cdv (h : Int) (s : Nat) : Int := -(-h / 2 ^ s)
def cnt (l h : Int) (s : Nat) : Int := cdv h s - l / 2 ^ s
/-- the first step from s on, at most n further, at which count is at most 16 -/
def fstep (l h : Int) : Nat → Nat → Nat
  | 0, s => s
  | n + 1, s => if 16 < cnt l h s then fstep l h n (s + 1) else s
def stp (l h : Int) : Nat := fstep l h 8 0
theorem cdv_mono (h : Int) (s : Nat) : True := trivial
theorem cnt8 {l h : Int} (h0 : 0 ≤ l) (h2 : h ≤ 4096) : cnt l h 8 ≤ 16 := by
  unfold cnt cdv
  have e : (2 : Int) ^ 8 = 256 := by decide
  rw [e]
  omega
theorem fstep_spec (l h : Int) : ∀ (n s : Nat), cnt l h (s + n) ≤ 16 → cnt l h (fstep l h n s) ≤ 16 ∧ s ≤ fstep l h n s ∧ fstep l h n s ≤ s + n ∧ ∀ t, s ≤ t → t < fstep l h n s → 16 < cnt l h t
  | 0, s, hc => ⟨hc, Nat.le_refl _, Nat.le_refl _, fun t h1 h2 => absurd h2 (by simp only [fstep]; omega)⟩
  | n + 1, s, hc => by
    unfold fstep
    split
    · rename_i hs
      obtain ⟨h1, h2, h3, h4⟩ := fstep_spec l h n (s + 1) (by rw [show s + 1 + n = s + (n + 1) by omega]; exact hc)
      exact ⟨h1, by omega, by omega, fun t a b => by
        by_cases e : t = s
        · subst e; exact hs
        · exact h4 t (by omega) b⟩
    · rename_i hs
      exact ⟨by omega, Nat.le_refl _, by omega, fun t a b => by omega⟩
theorem stp_spec {l h : Int} (h0 : 0 ≤ l) (h2 : h ≤ 4096) : cnt l h (stp l h) ≤ 16 ∧ stp l h ≤ 8 ∧ ∀ t, t < stp l h → 16 < cnt l h t := by
  obtain ⟨h1, _, h3, h4⟩ := fstep_spec l h 8 0 (cnt8 h0 h2)
  exact ⟨h1, by unfold stp; omega, fun t a => h4 t (Nat.zero_le _) a⟩
def lib (l h : Int) : D := .tup [.int (stp l h), .int (l / 2 ^ stp l h), .int (cnt l h (stp l h))]
theorem lib_loop {l h : Int} {S : Store} {x : Option D} (tc : RT) (hb : RS)
    (ht : tc = rTest (rBin gtD (rBin subD (rUn negD (rBin shrD (rUn negD (rVar 1)) (rVar 2))) (rBin shrD (rVar 0) (rVar 2))) (rCon (.int 16))))
    (hbd : hb = sAug 2 (i2 (fun _ _ => true) fun i j => .int (i + j)) (rCon (.int 1))) :
    ∀ (n s m : Nat), cnt l h (s + n) ≤ 16 → n < m → whileN tc hb m [some (.int l), some (.int h), some (.int s), x] S = .nx [some (.int l), some (.int h), some (.int (fstep l h n s)), x] S
  | 0, s, 0, hc, hm => by omega
  | n + 1, s, 0, hc, hm => by omega
  | 0, s, m + 1, hc, hm => by
    have hs : ¬ 16 < cnt l h s := by have : cnt l h s ≤ 16 := hc; omega
    unfold cnt cdv at hs
    simp [whileN, ht, fstep, hs]
  | n + 1, s, m + 1, hc, hm => by
    by_cases hs : 16 < cnt l h s
    · have ih := lib_loop (S := S) (x := x) tc hb ht hbd n (s + 1) m (by rw [show s + 1 + n = s + (n + 1) by omega]; exact hc) (by omega)
      have e : fstep l h (n + 1) s = fstep l h n (s + 1) := by simp [fstep, hs]
      rw [e, ← ih]
      have hs' := hs
      unfold cnt cdv at hs'
      simp [whileN]
      subst ht hbd
      simp [hs']
    · have e : fstep l h (n + 1) s = s := by simp [fstep, hs]
      have hs' := hs
      unfold cnt cdv at hs'
      simp [whileN, ht, e, hs']
theorem lib_eq {l h : Int} {S : Store} (h0 : 0 ≤ l) (h2 : h ≤ 4096) : g_least_in_bits [.int l, .int h] S = .ok (lib l h) S := by
  have lp := lib_loop (l := l) (h := h) (S := S) (x := none) _ lb1_least_in_bits rfl rfl 8 0 20 (cnt8 h0 h2) (by omega)
  unfold g_least_in_bits runDef m_least_in_bits
  simp only [Int.ofNat_zero] at lp
  simp [lp, lib, stp, cnt, cdv]
end Lw
namespace Lw
open PySem PySem.Spec L2 Ev
def lhl (l h : Int) : Int := l / 2 ^ stp l h * 2 ^ stp l h
def lhh (l h : Int) : Int := cdv h (stp l h) * 2 ^ stp l h
theorem pow_pos (s : Nat) : (0 : Int) < 2 ^ s := Int.pow_pos (by decide)
theorem from_eq {f c : Int} {s : Nat} {S : Store} (hs : s ≤ 8) (hf : f.natAbs < 4294967296) (hc : c.natAbs < 4294967296) : g_from_bits [.int s, .int f, .int c] S = .ok (.tup [.int (f * 2 ^ s), .int ((f + c) * 2 ^ s)]) S := by
  have p1 : powOk f s = true := by unfold powOk; simp; omega
  have p2 : powOk (f + c) s = true := by unfold powOk; simp; omega
  unfold g_from_bits runDef m_from_bits
  simp [p1, p2]
theorem div_bnd {l : Int} (s : Nat) (h0 : 0 ≤ l) (h1 : l ≤ 4096) : 0 ≤ l / 2 ^ s ∧ l / 2 ^ s ≤ 4096 := by
  have p := pow_pos s
  refine ⟨Int.ediv_nonneg h0 (by omega), Int.le_trans (Int.ediv_le_self _ h0) h1⟩
theorem cdv_le {h : Int} (s : Nat) : h ≤ cdv h s * 2 ^ s := by
  unfold cdv
  have p := pow_pos s
  have := Int.ediv_mul_le (-h) (Int.ne_of_gt p)
  rw [Int.neg_mul]
  omega
theorem cdv_lt {h : Int} (s : Nat) : cdv h s * 2 ^ s < h + 2 ^ s := by
  unfold cdv
  have p := pow_pos s
  have := Int.lt_ediv_add_one_mul_self (-h) p
  rw [Int.neg_mul]
  rw [Int.add_mul, Int.one_mul] at this
  omega
theorem cdv_pos {h : Int} (s : Nat) (h0 : 0 < h) : 0 < cdv h s := by
  have p := pow_pos s
  have a := cdv_le (h := h) s
  by_cases z : 0 < cdv h s
  · exact z
  · have : cdv h s * 2 ^ s ≤ 0 := Int.mul_nonpos_of_nonpos_of_nonneg (by omega) (by omega)
    omega
theorem cdv_bnd {h : Int} (s : Nat) (h0 : 0 < h) (h1 : h ≤ 4096) : 0 < cdv h s ∧ cdv h s ≤ 4096 := by
  refine ⟨cdv_pos s h0, ?_⟩
  have p := pow_pos s
  have b := cdv_lt (h := h) s
  by_cases z : cdv h s ≤ h
  · omega
  · have : (h + 1) * 2 ^ s ≤ cdv h s * 2 ^ s := Int.mul_le_mul_of_nonneg_right (by omega) (by omega)
    rw [Int.add_mul, Int.one_mul] at this
    have : h * 1 ≤ h * 2 ^ s := Int.mul_le_mul_of_nonneg_left (by omega) (by omega)
    omega
theorem held_eq {l h : Int} {S : Store} (h0 : 0 ≤ l) (h1 : l < h) (h2 : h ≤ 4096) : g_least_held [.int l, .int h] S = .ok (.tup [.int (lhl l h), .int (lhh l h)]) S := by
  obtain ⟨s1, s2, _⟩ := stp_spec h0 h2
  have a := div_bnd (stp l h) h0 (by omega : l ≤ 4096)
  have b := cdv_bnd (stp l h) (by omega : 0 < h) h2
  have c : cnt l h (stp l h) = cdv h (stp l h) - l / 2 ^ stp l h := rfl
  have e := from_eq (f := l / 2 ^ stp l h) (c := cnt l h (stp l h)) (S := S) s2 (by omega) (by omega)
  unfold g_least_held runDef m_least_held
  have c2 : l / 2 ^ stp l h + cnt l h (stp l h) = cdv h (stp l h) := by omega
  simp [lib_eq h0 h2, lib, e, lhl, lhh, c2]
def exb (l h : Int) : Bool := lhl l h == l && lhh l h == h
/-- the greatest high from f down -/
@[irreducible] def gh (l : Int) : Nat → Int → Int
  | 0, f => f
  | n + 1, f => if exb l f = true then f else gh l n (f - 1)
theorem stp_one {l : Int} : stp l (l + 1) = 0 := by
  unfold stp fstep
  have : ¬ 16 < cnt l (l + 1) 0 := by unfold cnt cdv; simp; omega
  simp [this]
theorem ex_one {l : Int} : exb l (l + 1) = true := by
  unfold exb lhl lhh
  rw [stp_one]
  simp [cdv]
theorem gh_loop {l h : Int} {S : Store} (tc : RT) (hb : RS) (h0 : 0 ≤ l)
    (ht : tc = rTest (rBin neD (rCall g_least_held (rCons (rVar 0) (rCons (rVar 2) rNil))) (rTup (rCons (rVar 0) (rCons (rVar 2) rNil)))))
    (hbd : hb = sAug 2 subD (rCon (.int 1))) :
    ∀ (n m : Nat) (f : Int), f ≤ 4096 → f = l + 1 + n → n < m → whileN tc hb m [some (.int l), some (.int h), some (.int f)] S = .nx [some (.int l), some (.int h), some (.int (gh l n f))] S
  | 0, 0, f, _, hc, hm => by omega
  | n + 1, 0, f, _, hc, hm => by omega
  | 0, m + 1, f, h4, hc, hm => by
    have e : f = l + 1 := by omega
    subst e
    have ex := ex_one (l := l)
    unfold exb at ex
    simp only [Bool.and_eq_true, beq_iff_eq] at ex
    simp [whileN, ht, held_eq h0 (by omega : l < l + 1) h4, PyData.eqvAll, PyData.eqv, ex.1, ex.2, gh]
  | n + 1, m + 1, f, h4, hc, hm => by
    have hh := held_eq (S := S) h0 (by omega : l < f) h4
    by_cases ex : exb l f = true
    · have e : gh l (n + 1) f = f := by simp [gh, ex]
      unfold exb at ex
      simp only [Bool.and_eq_true, beq_iff_eq] at ex
      simp [whileN, ht, hh, PyData.eqvAll, PyData.eqv, ex.1, ex.2, e]
    · have e : gh l (n + 1) f = gh l n (f - 1) := by simp [gh, ex]
      have ih := gh_loop (h := h) (S := S) tc hb h0 ht hbd n m (f - 1) (by omega) (by omega) (by omega)
      rw [e, ← ih]
      unfold exb at ex
      simp [whileN]
      subst ht hbd
      simp only [Bool.not_eq_true, Bool.and_eq_false_imp, beq_iff_eq] at ex
      by_cases e1 : lhl l f = l
      · have e2 := ex e1
        have e3 : ¬ lhh l f = f := by simpa using e2
        simp [hh, PyData.eqvAll, PyData.eqv, e1, e3]
      · simp [hh, PyData.eqvAll, PyData.eqv, e1]
/-! rooms -/
def rm (m : Int) : D := .tup [.int (cdv m (stp 0 m) * 2 ^ stp 0 m), .int (stp 0 m)]
theorem rm_loop {m : Int} {S : Store} (tc : RT) (hb : RS)
    (ht : tc = rTest (rBin gtD (rUn negD (rBin shrD (rUn negD (rVar 0)) (rVar 1))) (rCon (.int 16))))
    (hbd : hb = sAug 1 (i2 (fun _ _ => true) fun i j => .int (i + j)) (rCon (.int 1))) :
    ∀ (n s k : Nat), cnt 0 m (s + n) ≤ 16 → n < k → whileN tc hb k [some (.int m), some (.int s)] S = .nx [some (.int m), some (.int (fstep 0 m n s))] S
  | 0, s, 0, hc, hm => by omega
  | n + 1, s, 0, hc, hm => by omega
  | 0, s, k + 1, hc, hm => by
    have hs : ¬ 16 < cnt 0 m s := by have : cnt 0 m s ≤ 16 := hc; omega
    unfold cnt cdv at hs
    rw [Int.zero_ediv, Int.sub_zero] at hs
    simp [whileN, ht, fstep, hs]
  | n + 1, s, k + 1, hc, hm => by
    by_cases hs : 16 < cnt 0 m s
    · have ih := rm_loop (S := S) tc hb ht hbd n (s + 1) k (by rw [show s + 1 + n = s + (n + 1) by omega]; exact hc) (by omega)
      have e : fstep 0 m (n + 1) s = fstep 0 m n (s + 1) := by simp [fstep, hs]
      rw [e, ← ih]
      have hs' := hs
      unfold cnt cdv at hs'
      simp at hs'
      simp [whileN]
      subst ht hbd
      simp [hs']
    · have e : fstep 0 m (n + 1) s = s := by simp [fstep, hs]
      have hs' := hs
      unfold cnt cdv at hs'
      rw [Int.zero_ediv, Int.sub_zero] at hs'
      simp [whileN, ht, e, hs']
def isR : D → Option Int
  | .int m => if 1 ≤ m ∧ m ≤ 4096 then some m else none
  | _ => none
end Lw
namespace Lw
open PySem PySem.Spec L2 Ev
/-! ### loops that search -/
def fnd (c : Nat → Bool) : Nat → Nat → Nat
  | 0, s => s
  | n + 1, s => if c s = true then fnd c n (s + 1) else s
theorem while_fnd {tc : RT} {body : RS} {E : Nat → Ev.Env} {S : Store} {c : Nat → Bool} (N : Nat) (ht : ∀ s, s ≤ N → tc (E s) S = .ok (c s) S) (hb : ∀ s, s < N → body (E s) S = .nx (E (s + 1)) S) :
    ∀ (n s m : Nat), s + n ≤ N → c (s + n) = false → n < m → whileN tc body m (E s) S = .nx (E (fnd c n s)) S
  | 0, s, 0, _, hc, hm => by omega
  | n + 1, s, 0, _, hc, hm => by omega
  | 0, s, m + 1, hN, hc, hm => by
    have h0 : c s = false := hc
    simp [whileN, ht s (by omega), h0, fnd]
  | n + 1, s, m + 1, hN, hc, hm => by
    simp only [whileN, ht s (by omega), fl_ok]
    cases h0 : c s with
    | false => simp [fnd, h0]
    | true =>
      have ih := while_fnd N ht hb n (s + 1) m (by omega) (by rw [show s + 1 + n = s + (n + 1) by omega]; exact hc) (by omega)
      simp [hb s (by omega), fnd, h0, ih]
theorem fnd_all (c : Nat → Bool) : ∀ (n s : Nat), (∀ t, s ≤ t → t < s + n → c t = true) → fnd c n s = s + n
  | 0, s, _ => rfl
  | n + 1, s, h => by
    rw [fnd, if_pos (h s (Nat.le_refl _) (by omega)), fnd_all c n (s + 1) fun t h1 h2 => h t (by omega) (by omega)]
    omega
theorem fnd_congr {c c' : Nat → Bool} : ∀ (n s : Nat), (∀ t, s ≤ t → t < s + n → c t = c' t) → fnd c n s = fnd c' n s
  | 0, s, _ => rfl
  | n + 1, s, h => by
    rw [fnd, fnd, h s (Nat.le_refl _) (by omega), fnd_congr n (s + 1) fun t h1 h2 => h t (by omega) (by omega)]
theorem fstep_fnd (l h : Int) : ∀ (n s : Nat), fstep l h n s = fnd (fun s => decide (16 < cnt l h s)) n s
  | 0, s => rfl
  | n + 1, s => by simp only [fstep, fnd, decide_eq_true_eq, fstep_fnd l h n (s + 1)]
/-! ### the theory of bounds -/
theorem uniqW {a b p h : Int} (hp : 0 < p) (h1 : h ≤ a * p) (h2 : a * p < h + p) (h3 : h ≤ b * p) (h4 : b * p < h + p) : a = b := by
  have e1 : a * p < (b + 1) * p := by rw [Int.add_mul, Int.one_mul]; omega
  have e2 : b * p < (a + 1) * p := by rw [Int.add_mul, Int.one_mul]; omega
  have f1 := Int.lt_of_mul_lt_mul_right e1 (by omega)
  have f2 := Int.lt_of_mul_lt_mul_right e2 (by omega)
  omega
theorem cdv_pred {h : Int} (s : Nat) : (h - 1) / 2 ^ s + 1 = cdv h s := by
  have p := pow_pos s
  have a := cdv_le (h := h) s
  have b := cdv_lt (h := h) s
  have c := Int.ediv_mul_le (h - 1) (Int.ne_of_gt p)
  have d := Int.lt_ediv_add_one_mul_self (h - 1) p
  have e : ((h - 1) / 2 ^ s + 1) * 2 ^ s = (h - 1) / 2 ^ s * 2 ^ s + 2 ^ s := by rw [Int.add_mul, Int.one_mul]
  exact uniqW (h := h) p (by omega) (by omega) a b
theorem cdv_gt {m : Int} (s : Nat) (k : Int) : k < cdv m s ↔ k * 2 ^ s < m := by
  have p := pow_pos s
  have a := cdv_le (h := m) s
  have b := cdv_lt (h := m) s
  constructor
  · intro h
    have : (k + 1) * 2 ^ s ≤ cdv m s * 2 ^ s := Int.mul_le_mul_of_nonneg_right (by omega) (by omega)
    rw [Int.add_mul, Int.one_mul] at this
    omega
  · intro h
    exact Int.lt_of_mul_lt_mul_right (Int.lt_of_lt_of_le h a) (by omega)
theorem cdv_le_iff {m : Int} (s : Nat) (k : Int) : cdv m s ≤ k ↔ m ≤ k * 2 ^ s := by
  have := cdv_gt (m := m) s k
  omega
theorem le_div_iff {l : Int} (s : Nat) (k : Int) : k ≤ l / 2 ^ s ↔ k * 2 ^ s ≤ l := Int.le_ediv_iff_mul_le (pow_pos s)
theorem cdv_mul (k : Int) (s : Nat) : cdv (k * 2 ^ s) s = k := by
  have p := pow_pos s
  exact uniqW (h := k * 2 ^ s) p (cdv_le s) (cdv_lt s) (Int.le_refl _) (by omega)
theorem div_mul' (k : Int) (s : Nat) : k * 2 ^ s / 2 ^ s = k := Int.mul_ediv_cancel _ (Int.ne_of_gt (pow_pos s))
theorem stp_le {l h : Int} {s : Nat} (h0 : 0 ≤ l) (h2 : h ≤ 4096) (hc : cnt l h s ≤ 16) : stp l h ≤ s := by
  obtain ⟨_, _, c⟩ := stp_spec h0 h2
  by_cases z : stp l h ≤ s
  · exact z
  · have := c s (by omega)
    omega
theorem cnt_le {l h a b : Int} {s : Nat} (h1 : a * 2 ^ s ≤ l) (h2 : h ≤ b * 2 ^ s) : cnt l h s ≤ b - a := by
  unfold cnt
  have e1 := (le_div_iff (l := l) s a).mpr h1
  have e2 := (cdv_le_iff (m := h) s b).mpr h2
  omega
theorem pow_split {t s : Nat} (h : t ≤ s) : (2 : Int) ^ s = 2 ^ (s - t) * 2 ^ t := by rw [← Int.pow_add]; congr 1; omega
/-- the least told ones lie within all told ones that hold -/
theorem held_within {l h a b : Int} {s : Nat} (h0 : 0 ≤ l) (h2 : h ≤ 4096) (h3 : a * 2 ^ s ≤ l) (h4 : h ≤ b * 2 ^ s) (h5 : b - a ≤ 16) : a * 2 ^ s ≤ lhl l h ∧ lhh l h ≤ b * 2 ^ s := by
  have hs := stp_le (s := s) h0 h2 (Int.le_trans (cnt_le h3 h4) h5)
  unfold lhl lhh
  generalize stp l h = t at *
  have p := pow_pos t
  rw [pow_split hs] at *
  constructor
  · rw [← Int.mul_assoc] at h3 ⊢
    exact Int.mul_le_mul_of_nonneg_right ((le_div_iff t _).mpr h3) (by omega)
  · rw [← Int.mul_assoc] at h4 ⊢
    exact Int.mul_le_mul_of_nonneg_right ((cdv_le_iff t _).mpr h4) (by omega)
theorem held_holds (l h : Int) : lhl l h ≤ l ∧ h ≤ lhh l h := by
  unfold lhl lhh
  exact ⟨Int.ediv_mul_le _ (Int.ne_of_gt (pow_pos _)), cdv_le _⟩
theorem exact_of {a b : Int} {s : Nat} (h0 : 0 ≤ a * 2 ^ s) (h2 : b * 2 ^ s ≤ 4096) (h5 : b - a ≤ 16) : lhl (a * 2 ^ s) (b * 2 ^ s) = a * 2 ^ s ∧ lhh (a * 2 ^ s) (b * 2 ^ s) = b * 2 ^ s := by
  obtain ⟨e1, e2⟩ := held_within (l := a * 2 ^ s) (h := b * 2 ^ s) h0 h2 (Int.le_refl _) (Int.le_refl _) h5
  obtain ⟨e3, e4⟩ := held_holds (a * 2 ^ s) (b * 2 ^ s)
  omega
theorem exb_of {a b : Int} {s : Nat} (h0 : 0 ≤ a * 2 ^ s) (h2 : b * 2 ^ s ≤ 4096) (h5 : b - a ≤ 16) : exb (a * 2 ^ s) (b * 2 ^ s) = true := by
  obtain ⟨e1, e2⟩ := exact_of h0 h2 h5
  unfold exb
  simp [e1, e2]
theorem top_mul {s : Nat} (h : s ≤ 8) : ∃ k : Int, 4096 = k * 2 ^ s := by
  refine ⟨2 ^ (12 - s), ?_⟩
  rw [← Int.pow_add, show 12 - s + s = 12 by omega]
  decide
theorem lhh_le {l h : Int} (h0 : 0 ≤ l) (h2 : h ≤ 4096) : lhh l h ≤ 4096 := by
  obtain ⟨_, s2, _⟩ := stp_spec h0 h2
  obtain ⟨k, hk⟩ := top_mul s2
  unfold lhh
  have := (cdv_le_iff (m := h) (stp l h) k).mpr (by rw [← hk]; exact h2)
  rw [hk]
  exact Int.mul_le_mul_of_nonneg_right this (Int.le_of_lt (pow_pos _))
theorem lhl_nn {l h : Int} (h0 : 0 ≤ l) : 0 ≤ lhl l h := Int.mul_nonneg (Int.ediv_nonneg h0 (Int.le_of_lt (pow_pos _))) (Int.le_of_lt (pow_pos _))
/-- what is told is told exactly -/
theorem held_exact {l h : Int} (h0 : 0 ≤ l) (h2 : h ≤ 4096) : exb (lhl l h) (lhh l h) = true := by
  obtain ⟨s1, s2, _⟩ := stp_spec h0 h2
  exact exb_of (lhl_nn h0) (lhh_le h0 h2) s1
theorem exb_iff {l h : Int} : exb l h = true ↔ lhl l h = l ∧ lhh l h = h := by unfold exb; simp
/-- of one of the plain kinds -/
def plainK : D → Bool
  | .loc _ => false
  | .exn _ _ _ => false
  | _ => true
theorem typed_of {d : D} (h : plainK d = true) (S : Store) : Typed S d := by
  cases d <;> first | exact ⟨_, rfl⟩ | simp [plainK] at h
/-! of numbers -/
theorem bnd_int {l h : Int} (h0 : 0 ≤ l) (h1 : l < h) (h2 : h ≤ 4096) : bnd (.int l) (.int h) = some (l, h) := by simp [bnd, h0, h1, h2]
end Lw
namespace Lw
open PySem PySem.Spec L2 Ev
/-! ### texts of rights, by a mask of nine places -/
def RG : List Nat := [114, 119, 108, 115, 110, 102, 120, 99, 111]
def rg (i : Nat) : Nat := RG.getD i 0
def sC (l : List Nat) : Str := ⟨l.toArray⟩
def pk (p : Nat → Bool) : List Nat := ((List.range 9).filter p).map rg
def rc (m : Nat) : List Nat := pk m.testBit
@[irreducible] def rs (m : Nat) : Str := sC (rc m)
theorem rs_eq (m : Nat) : rs m = sC (rc m) := by unfold rs; rfl
theorem lit_RG : (Str.ofString "rwlsnfxco") = sC RG := by decide +kernel
theorem lit_cell : (Str.ofString "rwlsn") = sC [114, 119, 108, 115, 110] := by decide +kernel
theorem lit_nil : (Str.ofString "") = sC [] := by decide +kernel
theorem sC_inj {a b : List Nat} : sC a = sC b ↔ a = b := by
  constructor
  · intro h
    have := congrArg (fun x : Str => x.cps.toList) h
    simpa [sC] using this
  · rintro rfl; rfl
theorem sC_eta (x : Str) : sC x.cps.toList = x := by
  cases x
  simp [sC]
theorem signs_sC (l : List Nat) : signsD (sC l) = l.map fun c => D.str (sC [c]) := by simp [signsD, sC]
theorem in_one (c : Nat) (l : List Nat) : strIn (sC [c]) (sC l) = decide (c ∈ l) := by
  have h := StrLaws.found_one (sC l) c
  unfold strIn
  refine Eq.trans h ?_
  rw [decide_eq_decide]
  simp [sC]
theorem strsD_map (l : List Nat) : strsD (l.map fun c => D.str (sC [c])) = some (l.map fun c => sC [c]) := by
  induction l with
  | nil => rfl
  | cons c r ih => simp [strsD, ih]
theorem join_ones (l : List Nat) : Txt.join (sC []) (l.map fun c => sC [c]) = sC l := by
  unfold PySem.Txt.join
  rw [StrLaws.glued_eq_join]
  refine TL.ext_tl ?_
  rw [TL.tl_join]
  induction l with
  | nil => rfl
  | cons c r ih =>
    cases r with
    | nil => rfl
    | cons d r => 
      simp only [List.map_cons, TL.joinL] at ih ⊢
      rw [ih]
      rfl
end Lw
namespace Lw
open PySem PySem.Spec L2 Ev
/-! ### comprehensions -/
theorem lcL_map {α : Type} {t : Tg} {c : RT} {elt : RE} {e0 : Ev.Env} {S : Store} (h : α → D) (E : α → Ev.Env) (p : α → Bool) (f : α → D) : ∀ (xs : List α), (∀ x ∈ xs, bindT S (h x) e0 t = some (E x) ∧ c (E x) S = .ok (p x) S ∧ (p x = true → elt (E x) S = .ok (f x) S)) →
    lcL t c elt e0 (xs.map h) S = .ok ((xs.filter p).map f) S
  | [], _ => rfl
  | x :: xs, hx => by
    obtain ⟨h1, h2, h3⟩ := hx x List.mem_cons_self
    have ih := lcL_map (t := t) (c := c) (elt := elt) (e0 := e0) (S := S) h E p f xs fun y hy => hx y (List.mem_cons_of_mem _ hy)
    simp only [List.map_cons, lcL, h1, h2, bind_ok]
    cases hp : p x with
    | false => simp [hp, ih]
    | true => simp [hp, h3 hp, ih]
theorem rLc_map {α : Type} {it : RA} {t : Tg} {vs : List Nat} {c : RT} {elt : RE} {e : Ev.Env} {S : Store} {h : α → D} {xs : List α} (E : α → Ev.Env) (p : α → Bool) (f : α → D) (hi : it e S = .ok (xs.map h) S) (hl : xs.length ≤ sizeLine)
    (hx : ∀ x ∈ xs, bindT S (h x) (wipeE e vs) t = some (E x) ∧ c (E x) S = .ok (p x) S ∧ (p x = true → elt (E x) S = .ok (f x) S)) : rLc frzL it t vs c elt e S = .ok (.lst ((xs.filter p).map f)) S := by
  unfold rLc
  rw [hi, bind_ok, if_pos (by rw [List.length_map]; exact hl), lcL_map h E p f xs hx]
  rfl
theorem len_small {n : Nat} (h : n ≤ 1000000) : n ≤ sizeLine := Nat.le_trans h (by decide)
/-! ### bits -/
def bAt (b : Int) : Int := b % 4096
def bFst (b : Int) : Int := b / 4096 % 4096
def bCnt (b : Int) : Int := b / 16777216 % 16 + 1
def bStp (b : Int) : Nat := (b / 268435456 % 16).toNat
def bMsk (b : Int) : Nat := (b / 4294967296 % 512).toNat
def bKnd (b : Int) : Int := b / 2199023255552
def tells (b : Int) : Bool := decide (bStp b ≤ 8) && ((bStp b == 0) || decide (8 < bCnt b)) && decide ((bFst b + bCnt b) * 2 ^ bStp b ≤ 4096)
def bLow (b : Int) : Int := bFst b * 2 ^ bStp b
def bHigh (b : Int) : Int := (bFst b + bCnt b) * 2 ^ bStp b
/-- the fields that bits tell -/
def fD (b : Int) : D := if tells b = true then .tup [.int (bLow b), .int (bHigh b), .int (bAt b), .str (rs (bMsk b)), .int (bKnd b)] else .non
theorem and_4095 (x : Int) : Builtin.bitAnd x 4095 = x % 4096 := PySem.W.kbt_mask x 12
theorem and_15 (x : Int) : Builtin.bitAnd x 15 = x % 16 := PySem.W.kbt_mask x 4
theorem and_1 (x : Int) : Builtin.bitAnd x 1 = x % 2 := PySem.W.kbt_mask x 1
theorem and_511 (x : Int) : Builtin.bitAnd x 511 = x % 512 := PySem.W.kbt_mask x 9
theorem msk_bit {b : Int} (h : 0 ≤ b) (i : Nat) (hi : i < 9) : (bMsk b).testBit i = decide (b / 2 ^ (32 + i) % 2 = 1) := by
  obtain ⟨n, rfl⟩ := Int.eq_ofNat_of_zero_le h
  have e : bMsk (n : Int) = n / 2 ^ 32 % 2 ^ 9 := by
    unfold bMsk
    have : ((n : Int) / 4294967296 % 512) = ((n / 4294967296 % 512 : Nat) : Int) := by omega
    rw [this]
    rfl
  rw [e, Nat.testBit_mod_two_pow, Nat.testBit_div_two_pow, Nat.testBit_eq_decide_div_mod_eq]
  simp only [hi, decide_true, Bool.true_and]
  rw [decide_eq_decide]
  have : ((n : Int) / 2 ^ (32 + i) % 2) = ((n / 2 ^ (32 + i) % 2 : Nat) : Int) := by
    rw [Int.natCast_emod, Int.natCast_ediv, Int.natCast_pow]
    rfl
  rw [this, Nat.add_comm i 32]
  omega
theorem enum_RG : enumD [.str (sC RG)] = some ((List.range 9).map fun i => D.tup [.int (i : Nat), .str (sC [rg i])]) := by
  show some (List.mapIdx (fun i d => D.tup [D.int (i : Nat), d]) (signsD (sC RG))) = _
  rw [signs_sC]
  rfl
theorem pk_map (p : Nat → Bool) : ((List.range 9).filter p).map (fun i => D.str (sC [rg i])) = (pk p).map fun c => D.str (sC [c]) := by
  unfold pk
  rw [List.map_map]
  rfl
theorem pk_congr {p q : Nat → Bool} (h : ∀ i, i < 9 → p i = q i) : pk p = pk q := by
  unfold pk
  congr 1
  exact List.filter_congr fun i hi => h i (List.mem_range.mp hi)
theorem pk_len (p : Nat → Bool) : (pk p).length ≤ 9 := by
  unfold pk
  rw [List.length_map]
  exact Nat.le_trans (List.length_filter_le _ _) (by simp)
theorem joinOk_ones (l : List Nat) (h : l.length ≤ 1000000) : joinOk (sC []) (l.map fun c => sC [c]) = true := by
  unfold joinOk
  rw [decide_eq_true_eq, List.map_map]
  have e : (l.map ((fun x : Str => x.length) ∘ fun c => sC [c])).sum = l.length := by
    induction l with
    | nil => rfl
    | cons c r ih =>
      rw [List.map_cons, List.sum_cons, ih (by simp at h; omega), List.length_cons]
      show 1 + r.length = r.length + 1
      omega
  rw [e]
  show l.length + _ * 0 ≤ _
  omega
theorem joinD_ones {S : Store} (l : List Nat) (h : l.length ≤ 1000000) : joinD S (.str (sC [])) [.lst (l.map fun c => D.str (sC [c]))] = some (.str (sC l), S) := by
  unfold joinD
  simp only [seqD, asL, Option.bind_some, strsD_map, joinOk_ones l h, if_true, join_ones]
theorem rMth_join {o : RE} {as : RA} {e : Ev.Env} {S S1 : Store} {l : List Nat} (ho : o e S = .ok (.str (sC [])) S) (ha : as e S = .ok [.lst (l.map fun c => D.str (sC [c]))] S1) (h : l.length ≤ 1000000) : rMth "str" joinD o as e S = .ok (.str (sC l)) S1 := by
  unfold rMth
  rw [ho, bind_ok, if_pos (show tyM S (D.str (sC [])) = some "str" from rfl), ha, bind_ok, joinD_ones l h]
  rfl
theorem rights_in_eq {b : Int} {S : Store} (h : 0 ≤ b) : g_rights_in [.int b] S = .ok (.str (rs (bMsk b))) S := by
  have lc := rLc_map (it := rRan enumD (rCons (rCon (.str "rwlsnfxco")) rNil)) (t := .tp [1, 2]) (vs := [1, 2])
    (c := rTest (rBin eqD (rBin andD (rBin shrD (rVar 0) (rBin addD (rCon (.int 32)) (rVar 1))) (rCon (.int 1))) (rCon (.int 1)))) (elt := rVar 2)
    (e := [some (.int b), none, none]) (S := S) (h := fun i => D.tup [.int (i : Nat), .str (sC [rg i])]) (xs := List.range 9)
    (fun i => [some (.int b), some (.int (i : Nat)), some (.str (sC [rg i]))]) (bMsk b).testBit (fun i => .str (sC [rg i]))
    (by simp only [rRan_eq, rCons_eq, rCon_eq, rNil_eq, bind_ok, lit_RG, enum_RG, ofO_some]) (by simp; decide)
    (fun i hi => by
      have hi9 := List.mem_range.mp hi
      refine ⟨rfl, ?_, fun _ => rfl⟩
      rw [msk_bit h i hi9]
      have e1 : ((32 : Int) + (i : Nat)).toNat = 32 + i := by omega
      have e2 : (0 : Int) ≤ 32 + (i : Nat) := by omega
      simp [e1, e2, and_1]
      rfl)
  rw [pk_map] at lc
  unfold g_rights_in runDef m_rights_in
  rw [rs_eq]
  have m := rMth_join (o := rCon (.str "")) (as := rCons (rLc frzL (rRan enumD (rCons (rCon (.str "rwlsnfxco")) rNil)) (.tp [1, 2]) [1, 2] (rTest (rBin eqD (rBin andD (rBin shrD (rVar 0) (rBin addD (rCon (.int 32)) (rVar 1))) (rCon (.int 1))) (rCon (.int 1)))) (rVar 2)) rNil)
    (e := [some (.int b), none, none]) (S := S) (S1 := S) (l := rc (bMsk b)) (by rw [rCon_eq, lit_nil]) (by rw [rCons_eq, lc, bind_ok, rNil_eq, bind_ok]; rfl) (Nat.le_trans (pk_len _) (by decide))
  have e : List.map some [D.int b] ++ List.replicate (3 - [D.int b].length) none = [some (.int b), none, none] := rfl
  rw [e, sRet_eq, m]
  rfl
theorem p2 (s : Nat) : (2 : Int) ^ s = ((2 ^ s : Nat) : Int) := by rw [Int.natCast_pow]; rfl
theorem fields_eq {b : Int} {m : D} {S : Store} (h : 0 ≤ b) : g_fields_of [.tup [m, .int b]] S = .ok (fD b) S := by
  have e12 : (2 : Int) ^ (12 : Nat) = 4096 := by decide
  have e24 : (2 : Int) ^ (24 : Nat) = 16777216 := by decide
  have e28 : (2 : Int) ^ (28 : Nat) = 268435456 := by decide
  have e41 : (2 : Int) ^ (41 : Nat) = 2199023255552 := by decide
  have hs : b / 268435456 % 16 = ((bStp b : Nat) : Int) := by unfold bStp; omega
  have hs2 : bStp b < 16 := by unfold bStp; omega
  have f0 : 0 ≤ bFst b ∧ bFst b < 4096 := by unfold bFst; omega
  have c0 : 1 ≤ bCnt b ∧ bCnt b ≤ 16 := by unfold bCnt; omega
  have pf : powOk (bFst b + bCnt b) (bStp b) = true := by unfold powOk; simp; omega
  have fr := fun hs8 => from_eq (f := bFst b) (c := bCnt b) (s := bStp b) (S := S) hs8 (by omega) (by omega)
  have ri := rights_in_eq (b := b) (S := S) h
  unfold g_fields_of runDef m_fields_of
  have ix : ixD S (.tup [m, .int b]) (.int 1) = some (.int b) := by simp [ixD, atI, ixN]
  have x1 : b / 4096 % 4096 = bFst b := rfl
  have x2 : b / 16777216 % 16 + 1 = bCnt b := rfl
  simp [ix, and_4095, and_15, e12, e24, e28, e41, x1, x2, hs, pf]
  unfold fD tells
  by_cases c1 : 8 < bStp b
  · have c1' : (8 : Int) < (bStp b : Nat) := by omega
    have c1'' : ¬ bStp b ≤ 8 := by omega
    simp [c1', c1'']
  · have c1' : ¬ (8 : Int) < (bStp b : Nat) := by omega
    have c1'' : bStp b ≤ 8 := by omega
    have fr := fr c1''
    by_cases c2 : bStp b = 0
    · by_cases c3 : 4096 < (bFst b + bCnt b) * 2 ^ bStp b
      · have c3' : ¬ (bFst b + bCnt b) * 2 ^ bStp b ≤ 4096 := by omega
        simp [c2] at c3 c3'
        simp [c2, c3, c3']
      · have c3' : (bFst b + bCnt b) * 2 ^ bStp b ≤ 4096 := by omega
        rw [c2] at fr
        simp [c2] at c3 c3' fr
        simp [c2, c3, c3', fr, ri, bLow, bHigh, bAt, bKnd]
    · have c2' : (0 : Int) < (bStp b : Nat) := by omega
      by_cases c4 : bCnt b ≤ 8
      · have c4' : ¬ 8 < bCnt b := by omega
        simp [c1', c2, c2', c4, c4']
      · have c4' : 8 < bCnt b := by omega
        by_cases c3 : 4096 < (bFst b + bCnt b) * 2 ^ bStp b
        · have c3' : ¬ (bFst b + bCnt b) * 2 ^ bStp b ≤ 4096 := by omega
          simp [c1', c2, c2', c4, c4', c3, c3']
        · have c3' : (bFst b + bCnt b) * 2 ^ bStp b ≤ 4096 := by omega
          simp [c1', c1'', c2, c2', c4, c4', c3, c3', fr, ri, bLow, bHigh, bAt, bKnd]
end Lw
namespace Lw
open PySem PySem.Spec L2 Ev
/-! ### rights -/
/-- the mask of a text -/
def mskL (l : List Nat) : Nat := ((List.range 9).map fun i => if rg i ∈ l then 2 ^ i else 0).sum
theorem mskL_bits (f : Nat → Bool) : ∀ i, i < 9 → (((List.range 9).map fun i => if f i = true then 2 ^ i else 0).sum).testBit i = f i := by
  intro i hi
  have e : ((List.range 9).map fun i => if f i = true then 2 ^ i else 0).sum = (if f 0 = true then 1 else 0) + ((if f 1 = true then 2 else 0) + ((if f 2 = true then 4 else 0) + ((if f 3 = true then 8 else 0) + ((if f 4 = true then 16 else 0) + ((if f 5 = true then 32 else 0) + ((if f 6 = true then 64 else 0) + ((if f 7 = true then 128 else 0) + (if f 8 = true then 256 else 0)))))))) := by
    simp [List.range_succ, List.map_append, List.sum_append]
  rw [e]
  have d : ∀ (a0 a1 a2 a3 a4 a5 a6 a7 a8 : Bool), ∀ j : Fin 9, ((if a0 = true then 1 else 0) + ((if a1 = true then 2 else 0) + ((if a2 = true then 4 else 0) + ((if a3 = true then 8 else 0) + ((if a4 = true then 16 else 0) + ((if a5 = true then 32 else 0) + ((if a6 = true then 64 else 0) + ((if a7 = true then 128 else 0) + (if a8 = true then 256 else 0)))))))) : Nat).testBit j.val = [a0, a1, a2, a3, a4, a5, a6, a7, a8].getD j.val false := by decide +kernel
  rw [d _ _ _ _ _ _ _ _ _ ⟨i, hi⟩]
  rcases i with _ | _ | _ | _ | _ | _ | _ | _ | _ | i <;> first | rfl | omega
theorem mskL_bit (l : List Nat) (i : Nat) (hi : i < 9) : (mskL l).testBit i = decide (rg i ∈ l) := by
  have := mskL_bits (fun i => decide (rg i ∈ l)) i hi
  simpa [mskL] using this
theorem RG_nd : ∀ i j : Fin 9, rg i.val = rg j.val → i = j := by decide
theorem mem_pk {p : Nat → Bool} {i : Nat} (hi : i < 9) : rg i ∈ pk p ↔ p i = true := by
  unfold pk
  rw [List.mem_map]
  constructor
  · rintro ⟨j, hj, e⟩
    rw [List.mem_filter, List.mem_range] at hj
    have := RG_nd ⟨j, hj.1⟩ ⟨i, hi⟩ e
    cases this
    exact hj.2
  · intro h
    exact ⟨i, List.mem_filter.mpr ⟨List.mem_range.mpr hi, h⟩, rfl⟩
theorem mem_pk' {p : Nat → Bool} {c : Nat} (h : c ∈ pk p) : ∃ i, i < 9 ∧ p i = true ∧ c = rg i := by
  unfold pk at h
  obtain ⟨j, hj, e⟩ := List.mem_map.mp h
  rw [List.mem_filter, List.mem_range] at hj
  exact ⟨j, hj.1, hj.2, e.symm⟩
theorem mem_rc {m i : Nat} (hi : i < 9) : rg i ∈ rc m ↔ m.testBit i = true := mem_pk hi
theorem rc_msk (m : Nat) : rc (mskL (rc m)) = rc m := pk_congr fun i hi => by
  rw [mskL_bit _ i hi, Bool.eq_iff_iff, decide_eq_true_eq, mem_rc hi]
theorem RG_map : RG = (List.range 9).map rg := by decide
/-- "".join([right for right in RIGHTS if right in thing]) -/
theorem rights_join {p : RT} {S : Store} {e : Ev.Env} {x : Str} {i : Nat} {vs : List Nat} (hs : it = rIt (rCon (.str "rwlsnfxco"))) (q : Nat → Bool)
    (hx : ∀ c ∈ RG, p ((wipeE e vs).set i (some (.str (sC [c])))) S = .ok (q c) S ∧ rVar i ((wipeE e vs).set i (some (.str (sC [c])))) S = .ok (.str (sC [c])) S) :
    rMth "str" joinD (rCon (.str "")) (rCons (rLc frzL it (.nm i) vs p (rVar i)) rNil) e S = .ok (.str (sC (RG.filter q))) S := by
  subst hs
  have lc := rLc_map (it := rIt (rCon (.str "rwlsnfxco"))) (t := .nm i) (vs := vs) (c := p) (elt := rVar i) (e := e) (S := S) (h := fun c => D.str (sC [c])) (xs := RG)
    (fun c => (wipeE e vs).set i (some (.str (sC [c])))) q (fun c => .str (sC [c]))
    (by simp only [rIt_eq, rCon_eq, bind_ok, lit_RG, itemsD, signs_sC, ofO_some]) (by decide)
    (fun c hc => ⟨rfl, (hx c hc).1, fun _ => (hx c hc).2⟩)
  exact rMth_join (by rw [rCon_eq, lit_nil]) (by rw [rCons_eq, lc, bind_ok, rNil_eq, bind_ok]) (Nat.le_trans (List.length_filter_le _ _) (by decide))
theorem filter_RG (q : Nat → Bool) : RG.filter q = pk fun i => q (rg i) := by
  conv => lhs; rw [RG_map]
  unfold pk
  rw [List.filter_map]
  rfl
theorem inD_one {S : Store} (c : Nat) (l : List Nat) : inD S (.str (sC [c])) (.str (sC l)) = some (.bl (decide (c ∈ l))) := by
  unfold inD inB
  rw [Option.bind_some, in_one]
theorem ninD_one {S : Store} (c : Nat) (l : List Nat) : ninD S (.str (sC [c])) (.str (sC l)) = some (.bl (!decide (c ∈ l))) := by
  unfold ninD inB
  rw [Option.bind_some, in_one]
/-- whether a text is rights -/
def isRs (x : Str) : Bool := x == rs (mskL x.cps.toList)
theorem rs_isRs (m : Nat) : isRs (rs m) = true := by
  unfold isRs
  rw [beq_iff_eq]
  conv => lhs; rw [rs_eq]
  rw [rs_eq, sC_inj]
  have : (rs m).cps.toList = rc m := by rw [rs_eq]; simp [sC]
  rw [this, rc_msk]
def isStr : D → Option Str
  | .str x => some x
  | _ => none
theorem is_rights_str {x : Str} {S : Store} : g_is_rights [.str x] S = .ok (.bl (isRs x)) S := by
  obtain ⟨l, rfl⟩ : ∃ l, x = sC l := ⟨x.cps.toList, (sC_eta x).symm⟩
  have rj := rights_join (p := rTest (rBin inD (rVar 1) (rVar 0))) (S := S) (e := [some (.str (sC l)), none]) (x := sC l) (i := 1) (vs := [1]) (it := _) rfl (fun c => decide (c ∈ l))
    (fun c hc => ⟨by simp [wipeE, inD_one], by simp [wipeE]⟩)
  rw [filter_RG] at rj
  have e : (pk fun i => decide (rg i ∈ l)) = rc (mskL l) := pk_congr fun i hi => (mskL_bit l i hi).symm
  rw [e, ← rs_eq] at rj
  unfold g_is_rights runDef m_is_rights
  have e2 : (sC l).cps.toList = l := by simp [sC]
  simp [rj, isRs, e2]
theorem is_rights_other {d : D} {S : Store} (h : plainK d = true) (h2 : isStr d = none) : g_is_rights [d] S = .ok (.bl false) S := by
  unfold g_is_rights runDef m_is_rights
  cases d <;> first | (simp [plainK] at h; done) | (simp [isStr] at h2; done) | simp
/-! ### lawful rights -/
def lawM (m : Nat) : Bool := decide (((if m % 32 ≠ 0 then 1 else 0) + (if m.testBit 6 = true then 1 else 0) + (if (m.testBit 7 || m.testBit 8) = true then 1 else 0)) ≤ 1)
def cellC (c : Nat) : Bool := decide (c ∈ [114, 119, 108, 115, 110])
theorem inD_cell {S : Store} (c : Nat) : inD S (.str (sC [c])) (.str (Str.ofString "rwlsn")) = some (.bl (cellC c)) := by rw [lit_cell, inD_one]; rfl
theorem cell_any (m : Nat) : (rc m).any cellC = decide (m % 32 ≠ 0) := by
  have h1 : rc m = rc (m % 512) := pk_congr fun i hi => by
    rw [show 512 = 2 ^ 9 by rfl, Nat.testBit_mod_two_pow]
    simp [hi]
  have h2 : m % 32 = m % 512 % 32 := by omega
  rw [h1, h2]
  have d : ∀ k : Fin 512, (rc k.val).any cellC = decide (k.val % 32 ≠ 0) := by decide +kernel
  exact d ⟨m % 512, Nat.mod_lt _ (by decide)⟩
theorem allB_map' {α : Type} (f : α → Bool) (l : List α) : allB (l.map fun c => D.bl (f c)) = some (l.map f) := by
  have := allB_map (l.map f)
  rw [List.map_map] at this
  exact this
theorem lit_x : (Str.ofString "x") = sC [rg 6] := by decide +kernel
theorem lit_c : (Str.ofString "c") = sC [rg 7] := by decide +kernel
theorem lit_o : (Str.ofString "o") = sC [rg 8] := by decide +kernel
theorem mem_rs {m i : Nat} (hi : i < 9) {S : Store} : inD S (.str (sC [rg i])) (.str (rs m)) = some (.bl (m.testBit i)) := by
  rw [rs_eq, inD_one]
  congr 2
  rw [Bool.eq_iff_iff, decide_eq_true_eq, mem_rc hi]
theorem nmem_rs {m i : Nat} (hi : i < 9) {S : Store} : ninD S (.str (sC [rg i])) (.str (rs m)) = some (.bl (!m.testBit i)) := by
  rw [rs_eq, ninD_one]
  congr 3
  rw [Bool.eq_iff_iff, decide_eq_true_eq, mem_rc hi]
theorem rc_len (m : Nat) : (rc m).length ≤ 9 := pk_len _
theorem are_lawful_eq {m : Nat} {S : Store} : g_are_lawful [.str (rs m)] S = .ok (.bl (lawM m)) S := by
  have lc := rLc_map (it := rIt (rVar 0)) (t := .nm 2) (vs := [2]) (c := rYes) (elt := rBin inD (rVar 2) (rCon (.str "rwlsn"))) (e := [some (.str (rs m)), none, none]) (S := S) (h := fun c => D.str (sC [c])) (xs := rc m)
    (fun c => [some (.str (rs m)), none, some (.str (sC [c]))]) (fun _ => true) (fun c => .bl (cellC c))
    (by simp [rs_eq, itemsD, signs_sC]) (len_small (Nat.le_trans (rc_len m) (by decide)))
    (fun c hc => ⟨by simp [wipeE], rfl, fun _ => by simp [inD_cell]⟩)
  rw [List.filter_eq_self.mpr (fun _ _ => rfl)] at lc
  have an : ∀ S' : Store, anyD S' [.lst ((rc m).map fun c => .bl (cellC c))] = some (.bl (decide (m % 32 ≠ 0))) := fun S' => by
    unfold anyD
    simp only [asL, Option.bind_some, allB_map']
    rw [List.any_map]
    have := cell_any m
    simp only [Function.id_comp] at this ⊢
    rw [this]
  have i6 := mem_rs (m := m) (i := 6) (by omega) (S := S)
  have i7 := mem_rs (m := m) (i := 7) (by omega) (S := S)
  have i8 := mem_rs (m := m) (i := 8) (by omega) (S := S)
  unfold g_are_lawful runDef m_are_lawful
  simp [lc, an, lit_x, lit_c, lit_o, i6, i7, i8, rMth, tyM]
  unfold lawM
  cases h7 : m.testBit 7 <;> cases h8 : m.testBit 8 <;> cases h6 : m.testBit 6 <;> by_cases h0 : m % 32 = 0 <;> simp [countL, ofP, h0, List.countP_cons, PyData.eqv]
end Lw
namespace Lw
open PySem PySem.Spec L2 Ev
/-! ### fields and words -/
structure Fd where
  low : Int
  high : Int
  at_ : Int
  m : Nat
  k : Int
def Fd.good (f : Fd) : Prop := 0 ≤ f.low ∧ f.low < f.high ∧ f.high ≤ 4096 ∧ exb f.low f.high = true ∧ 0 ≤ f.at_ ∧ f.at_ < 4096 ∧ f.m < 512 ∧ 0 ≤ f.k ∧ f.k < 16
def Fd.ok (f : Fd) : Prop := f.good ∧ lawM f.m = true
def Fd.D (f : Fd) : D := .tup [.int f.low, .int f.high, .int f.at_, .str (rs f.m), .int f.k]
def Fd.stp (f : Fd) : Nat := Lw.stp f.low f.high
def Fd.bits (f : Fd) : Int := f.at_ + f.low / 2 ^ f.stp * 4096 + (cnt f.low f.high f.stp - 1) * 16777216 + (f.stp : Nat) * 268435456 + (f.m : Nat) * 4294967296 + f.k * 2199023255552
theorem pow_le8 {s : Nat} (h : s ≤ 8) : (1 : Int) ≤ 2 ^ s ∧ (2 : Int) ^ s ≤ 256 := by
  rcases s with _ | _ | _ | _ | _ | _ | _ | _ | _ | s <;> first | decide | omega
theorem cnt_pos {l h : Int} {s : Nat} (h1 : l < h) : 1 ≤ cnt l h s := by
  unfold cnt
  have p := pow_pos s
  have a := Int.ediv_mul_le l (Int.ne_of_gt p)
  have b := cdv_le (h := h) s
  have c : l / 2 ^ s * 2 ^ s < cdv h s * 2 ^ s := by omega
  have := Int.lt_of_mul_lt_mul_right c (by omega)
  omega
/-- above step 0 count is from 9 on -/
theorem cnt_from9 {l h : Int} (h0 : 0 ≤ l) (h2 : h ≤ 4096) (hs : 0 < stp l h) : 8 < cnt l h (stp l h) := by
  obtain ⟨s1, s2, s3⟩ := stp_spec h0 h2
  have hb := s3 (stp l h - 1) (by omega)
  generalize hz : stp l h = s at *
  obtain ⟨t, rfl⟩ : ∃ t, s = t + 1 := ⟨s - 1, by omega⟩
  rw [Nat.add_sub_cancel] at hb
  unfold cnt at hb ⊢
  have e : (2 : Int) ^ (t + 1) = 2 * 2 ^ t := by rw [Int.pow_succ]; omega
  have p := pow_pos t
  have p1 := pow_pos (t + 1)
  have a1 : cdv h t ≤ 2 * cdv h (t + 1) := by
    refine (cdv_le_iff t _).mpr ?_
    have := cdv_le (h := h) (t + 1)
    rw [e] at this
    rw [show 2 * cdv h (t + 1) * 2 ^ t = cdv h (t + 1) * (2 * 2 ^ t) by rw [Int.mul_comm 2 (cdv h (t + 1)), Int.mul_assoc]]
    exact this
  have a2 : 2 * (l / 2 ^ (t + 1)) ≤ l / 2 ^ t := by
    refine (le_div_iff t _).mpr ?_
    have := Int.ediv_mul_le l (Int.ne_of_gt p1)
    rw [e] at this ⊢
    rw [show 2 * (l / (2 * 2 ^ t)) * 2 ^ t = l / (2 * 2 ^ t) * (2 * 2 ^ t) by rw [Int.mul_comm 2 (l / (2 * 2 ^ t)), Int.mul_assoc]]
    exact this
  omega
theorem Fd.good.spec {f : Fd} (h : f.good) : f.stp ≤ 8 ∧ 1 ≤ cnt f.low f.high f.stp ∧ cnt f.low f.high f.stp ≤ 16 ∧ (0 < f.stp → 8 < cnt f.low f.high f.stp) ∧ 0 ≤ f.low / 2 ^ f.stp ∧ f.low / 2 ^ f.stp < 4096 ∧ f.low / 2 ^ f.stp * 2 ^ f.stp = f.low ∧ (f.low / 2 ^ f.stp + cnt f.low f.high f.stp) * 2 ^ f.stp = f.high := by
  obtain ⟨h0, h1, h2, h3, _⟩ := h
  obtain ⟨s1, s2, s3⟩ := stp_spec h0 h2
  obtain ⟨e1, e2⟩ := exb_iff.mp h3
  have d := div_bnd f.stp h0 (by omega : f.low ≤ 4096)
  have d2 : f.low / 2 ^ f.stp ≤ f.low := Int.ediv_le_self _ h0
  refine ⟨s2, cnt_pos h1, s1, fun h => cnt_from9 h0 h2 h, d.1, by omega, e1, ?_⟩
  have : f.low / 2 ^ f.stp + cnt f.low f.high f.stp = cdv f.high f.stp := by unfold cnt; omega
  rw [this]
  exact e2
theorem Fd.good.range {f : Fd} (h : f.good) : 0 ≤ f.bits ∧ f.bits < 35184372088832 := by
  obtain ⟨a1, a2, a3, a4, a5, a6, a7, a8⟩ := h.spec
  obtain ⟨_, _, _, _, b1, b2, b3, b4, b5⟩ := h
  unfold Fd.bits
  omega
theorem Fd.good.parts {f : Fd} (h : f.good) : bAt f.bits = f.at_ ∧ bFst f.bits = f.low / 2 ^ f.stp ∧ bCnt f.bits = cnt f.low f.high f.stp ∧ bStp f.bits = f.stp ∧ bMsk f.bits = f.m ∧ bKnd f.bits = f.k := by
  obtain ⟨a1, a2, a3, a4, a5, a6, a7, a8⟩ := h.spec
  obtain ⟨_, _, _, _, b1, b2, b3, b4, b5⟩ := h
  unfold bAt bFst bCnt bStp bMsk bKnd Fd.bits
  generalize f.low / 2 ^ f.stp = x at *
  generalize cnt f.low f.high f.stp = y at *
  generalize f.stp = z at *
  refine ⟨?_, ?_, ?_, ?_, ?_, ?_⟩ <;> omega
theorem Fd.good.tells {f : Fd} (h : f.good) : Lw.tells f.bits = true := by
  obtain ⟨a1, a2, a3, a4, a5, a6, a7, a8⟩ := h.spec
  obtain ⟨p1, p2, p3, p4, p5, p6⟩ := h.parts
  unfold Lw.tells
  rw [p2, p3, p4, a8]
  by_cases z : f.stp = 0
  · simp [z, h.2.2.1]
  · simp [a1, a4 (by omega), h.2.2.1]
theorem Fd.good.low {f : Fd} (h : f.good) : bLow f.bits = f.low ∧ bHigh f.bits = f.high := by
  obtain ⟨a1, a2, a3, a4, a5, a6, a7, a8⟩ := h.spec
  obtain ⟨p1, p2, p3, p4, p5, p6⟩ := h.parts
  unfold bLow bHigh
  rw [p2, p3, p4]
  exact ⟨a7, a8⟩
theorem fD_bits {f : Fd} (h : f.good) : fD f.bits = f.D := by
  obtain ⟨p1, p2, p3, p4, p5, p6⟩ := h.parts
  unfold fD Fd.D
  rw [if_pos h.tells, h.low.1, h.low.2, p1, p5, p6]
theorem fields_fd {f : Fd} (h : f.good) {m : Ev.D} {S : Store} : g_fields_of [.tup [m, .int f.bits]] S = .ok f.D S := by rw [fields_eq h.range.1, fD_bits h]
/-- what bits tell are fields -/
def fdOf (b : Int) : Fd := ⟨bLow b, bHigh b, bAt b, bMsk b, bKnd b⟩
theorem stp_of {a c : Int} {s : Nat} (h0 : 0 ≤ a) (hs : s ≤ 8) (h1 : 1 ≤ c) (h2 : c ≤ 16) (h3 : 0 < s → 8 < c) (h4 : (a + c) * 2 ^ s ≤ 4096) : stp (a * 2 ^ s) ((a + c) * 2 ^ s) = s := by
  have p := pow_pos s
  have hl : 0 ≤ a * 2 ^ s := Int.mul_nonneg h0 (by omega)
  have hc : ∀ t, t ≤ s → cnt (a * 2 ^ s) ((a + c) * 2 ^ s) t = c * 2 ^ (s - t) := fun t ht => by
    unfold cnt
    rw [pow_split ht, ← Int.mul_assoc, ← Int.mul_assoc, cdv_mul, div_mul', ← Int.sub_mul]
    congr 1
    omega
  have l1 : stp (a * 2 ^ s) ((a + c) * 2 ^ s) ≤ s := stp_le hl h4 (by rw [hc s (Nat.le_refl _)]; simp; exact h2)
  obtain ⟨s1, _, _⟩ := stp_spec hl h4
  by_cases z : stp (a * 2 ^ s) ((a + c) * 2 ^ s) = s
  · exact z
  · exfalso
    have l2 : stp (a * 2 ^ s) ((a + c) * 2 ^ s) < s := by omega
    rw [hc _ l1] at s1
    generalize stp (a * 2 ^ s) ((a + c) * 2 ^ s) = t at *
    have e : s - t = (s - t - 1) + 1 := by omega
    rw [e, Int.pow_succ] at s1
    have p2 := pow_pos (s - t - 1)
    have c8 := h3 (by omega)
    have : 9 * (1 * 2) ≤ c * (2 ^ (s - t - 1) * 2) := Int.mul_le_mul (by omega) (by omega) (by omega) (by omega)
    omega
theorem fdOf_good {b : Int} (h : 0 ≤ b) (h2 : b < 35184372088832) (ht : tells b = true) : (fdOf b).good ∧ (fdOf b).bits = b := by
  have hs2 : bStp b < 16 := by unfold bStp; omega
  have f0 : 0 ≤ bFst b ∧ bFst b < 4096 := by unfold bFst; omega
  have c0 : 1 ≤ bCnt b ∧ bCnt b ≤ 16 := by unfold bCnt; omega
  unfold tells at ht
  simp only [Bool.and_eq_true, Bool.or_eq_true, decide_eq_true_eq, beq_iff_eq] at ht
  obtain ⟨⟨t1, t2⟩, t3⟩ := ht
  have p := pow_pos (bStp b)
  have hst := stp_of f0.1 t1 c0.1 c0.2 (by omega) t3
  have hl : 0 ≤ bFst b * 2 ^ bStp b := Int.mul_nonneg f0.1 (by omega)
  have hlt : bFst b * 2 ^ bStp b < (bFst b + bCnt b) * 2 ^ bStp b := Int.mul_lt_mul_of_pos_right (by omega) p
  have g : (fdOf b).good := ⟨hl, hlt, t3, exb_of hl t3 (by omega), by unfold fdOf bAt; simp; omega, by unfold fdOf bAt; simp; omega, by unfold fdOf bMsk; simp; omega, by unfold fdOf bKnd; simp; omega, by unfold fdOf bKnd; simp; omega⟩
  refine ⟨g, ?_⟩
  have e1 : (fdOf b).stp = bStp b := hst
  have e2 : (fdOf b).low / 2 ^ (fdOf b).stp = bFst b := by rw [e1]; exact div_mul' _ _
  have e3 : cnt (fdOf b).low (fdOf b).high (fdOf b).stp = bCnt b := by
    rw [e1]
    show cnt (bFst b * 2 ^ bStp b) ((bFst b + bCnt b) * 2 ^ bStp b) (bStp b) = bCnt b
    unfold cnt
    rw [cdv_mul, div_mul']
    omega
  unfold Fd.bits
  rw [e2, e3, e1]
  unfold fdOf bAt bFst bCnt bStp bMsk bKnd
  simp only
  omega
theorem Fd.good.inj {f g : Fd} (hf : f.good) (hg : g.good) (h : f.bits = g.bits) : f = g := by
  obtain ⟨p1, p2, p3, p4, p5, p6⟩ := hf.parts
  obtain ⟨q1, q2, q3, q4, q5, q6⟩ := hg.parts
  have a := hf.low
  have b := hg.low
  rw [h] at p1 p5 p6 a
  cases f; cases g
  simp only [Fd.mk.injEq] at *
  exact ⟨a.1.symm.trans b.1, a.2.symm.trans b.2, p1.symm.trans q1, p5.symm.trans q5, p6.symm.trans q6⟩
end Lw
namespace Lw
open PySem PySem.Spec L2 Ev
def noF : Exn := ⟨cl_NoFields, [], []⟩
/-! ### are_fields, word_of -/
theorem four_whole {a b c d e : Ev.D} {S : Store} (h : ∀ x ∈ [a, b, c, e], Typed S x) (e0 : Ev.Env) (he : e0 = [some (.tup [a, b, c, d, e]), none, none, none, none, none, none]) :
    rLc frzL (rIt (rTup (rCons (rCon (.int 0)) (rCons (rCon (.int 1)) (rCons (rCon (.int 2)) (rCons (rCon (.int 4)) rNil)))))) (.nm 1) [1] rYes (rCall g_is_whole (rCons (rBin ixD (rVar 0) (rVar 1)) rNil)) e0 S = .ok (.lst [.bl (isW a), .bl (isW b), .bl (isW c), .bl (isW e)]) S := by
  subst he
  have wa := is_whole_eq (h a (by simp))
  have wb := is_whole_eq (h b (by simp))
  have wc := is_whole_eq (h c (by simp))
  have we := is_whole_eq (h e (by simp))
  have lc := rLc_map (it := rIt (rTup (rCons (rCon (.int 0)) (rCons (rCon (.int 1)) (rCons (rCon (.int 2)) (rCons (rCon (.int 4)) rNil)))))) (t := .nm 1) (vs := [1]) (c := rYes) (elt := rCall g_is_whole (rCons (rBin ixD (rVar 0) (rVar 1)) rNil))
    (e := [some (.tup [a, b, c, d, e]), none, none, none, none, none, none]) (S := S) (h := fun p : Int × Bool => .int p.1) (xs := [(0, isW a), (1, isW b), (2, isW c), (4, isW e)])
    (fun p => [some (.tup [a, b, c, d, e]), some (.int p.1), none, none, none, none, none]) (fun _ => true) (fun p => .bl p.2) (by simp) (len_small (by simp))
    (fun p hp => ⟨by simp [wipeE], rfl, fun _ => by
      simp only [List.mem_cons, List.not_mem_nil, or_false] at hp
      rcases hp with rfl | rfl | rfl | rfl <;> simp [ixD, atI, ixN, wa, wb, wc, we]⟩)
  rw [List.filter_eq_self.mpr (fun _ _ => rfl)] at lc
  exact lc
theorem are_fields_fd {l h at_ k : Int} {m : Nat} {S : Store} : g_are_fields [.tup [.int l, .int h, .int at_, .str (rs m), .int k]] S = .ok (.bl (decide (0 ≤ l) && (decide (l < h) && (decide (h ≤ 4096) && (decide (0 ≤ at_) && (decide (at_ < 4096) && (decide (0 ≤ k) && (decide (k < 16) && (lawM m && exb l h))))))))) S := by
  have fw := four_whole (a := .int l) (b := .int h) (c := .int at_) (d := .str (rs m)) (e := .int k) (S := S) (fun x hx => by
    simp only [List.mem_cons, List.not_mem_nil, or_false] at hx
    rcases hx with rfl | rfl | rfl | rfl <;> exact ⟨_, rfl⟩) _ rfl
  have ir := is_rights_str (x := rs m) (S := S)
  rw [rs_isRs] at ir
  have al := are_lawful_eq (m := m) (S := S)
  unfold g_are_fields runDef m_are_fields
  by_cases c1 : 0 ≤ l
  · skip
    by_cases c2 : l < h
    · skip
      by_cases c3 : h ≤ 4096
      · skip
        by_cases c4 : 0 ≤ at_
        · skip
          by_cases c5 : at_ < 4096
          · skip
            by_cases c6 : 0 ≤ k
            · skip
              by_cases c7 : k < 16
              · skip
                have he := held_eq (S := S) c1 c2 c3
                cases hm : lawM m <;> rw [hm] at al <;> simp [fw, allD, allB, isW, c1, c2, c3, c4, c5, c6, c7, ir, al, he, PyData.eqvAll, PyData.eqv, exb]
              · simp [fw, allD, allB, isW, c1, c2, c3, c4, c5, c6, c7]
            · simp [fw, allD, allB, isW, c1, c2, c3, c4, c5, c6]
          · simp [fw, allD, allB, isW, c1, c2, c3, c4, c5]
        · simp [fw, allD, allB, isW, c1, c2, c3, c4]
      · simp [fw, allD, allB, isW, c1, c2, c3]
    · simp [fw, allD, allB, isW, c1, c2]
  · simp [fw, allD, allB, isW, c1]
theorem index_RG {S : Store} {i : Nat} (hi : i < 9) : indexS S (.str (sC RG)) [.str (sC [rg i])] = some (.int (i : Nat), S) := by
  have d : ∀ j : Fin 9, Builtin.Str.occurrences (sC RG) (sC [rg j.val]) 0 (sC RG).length 1 = [j.val] := by decide +kernel
  have e := d ⟨i, hi⟩
  unfold indexS
  simp only [e]
theorem sum_bits {m : Nat} (hm : m < 512) : (((List.range 9).filter m.testBit).map fun i => (2 : Int) ^ (32 + i)).sum = (m : Int) * 4294967296 := by
  have d : ∀ j : Fin 512, (((List.range 9).filter j.val.testBit).map fun i => (2 : Int) ^ (32 + i)).sum = (j.val : Int) * 4294967296 := by decide +kernel
  exact d ⟨m, hm⟩
theorem rights_sum {m : Nat} {S : Store} {e : Ev.Env} (hm : m < 512) (he : e[5]? = some (some (.str (rs m)))) (hl : e.length = 12) :
    rLc frzL (rIt (rVar 5)) (.nm 11) [11] rYes (rBin shlD (rCon (.int 1)) (rBin addD (rCon (.int 32)) (rMth "str" indexS (rCon (.str "rwlsnfxco")) (rCons (rVar 11) rNil)))) e S = .ok (.lst (((List.range 9).filter m.testBit).map fun i => D.int (2 ^ (32 + i)))) S := by
  have lc := rLc_map (it := rIt (rVar 5)) (t := .nm 11) (vs := [11]) (c := rYes) (elt := rBin shlD (rCon (.int 1)) (rBin addD (rCon (.int 32)) (rMth "str" indexS (rCon (.str "rwlsnfxco")) (rCons (rVar 11) rNil))))
    (e := e) (S := S) (h := fun i => .str (sC [rg i])) (xs := (List.range 9).filter m.testBit) (fun i => (e.set 11 none).set 11 (some (.str (sC [rg i])))) (fun _ => true) (fun i => .int (2 ^ (32 + i)))
    (by simp only [rIt_eq, rVar_eq, he, bind_ok, rs_eq, itemsD, signs_sC, ofO_some]; rw [pk_map]; rfl) (len_small (Nat.le_trans (List.length_filter_le _ _) (by simp)))
    (fun i hi => ⟨by simp [wipeE], rfl, fun _ => by
      have hi9 := List.mem_range.mp (List.mem_filter.mp hi).1
      have e1 : ((32 : Int) + (i : Nat)).toNat = 32 + i := by omega
      have p : powOk 1 (32 + (i : Nat)) = true := by unfold powOk; simp; omega
      simp [rMth, tyM, lit_RG, hl, index_RG hi9, ofP, p, e1]⟩)
  rw [List.filter_eq_self.mpr (fun _ _ => rfl)] at lc
  exact lc
theorem sumD_bits {m : Nat} {S : Store} (hm : m < 512) : sumD S [.lst (((List.range 9).filter m.testBit).map fun i => D.int (2 ^ (32 + i)))] = some (.int ((m : Int) * 4294967296)) := by
  have al := allI_map (((List.range 9).filter m.testBit).map fun i => (2 : Int) ^ (32 + i))
  rw [List.map_map] at al
  have al2 : allI (((List.range 9).filter m.testBit).map fun i => D.int (2 ^ (32 + i))) = _ := al
  simp only [sumD, asL, Option.bind_some, al2, sum_bits hm]
theorem word_of_fd {f : Fd} {mk : Ev.D} {S : Store} (h : f.ok) : g_word_of [f.D, mk] S = .ok (.tup [mk, .int f.bits]) S := by
  obtain ⟨⟨h0, h1, h2, h3, h4, h5, h6, h7, h8⟩, hm⟩ := h
  have af := are_fields_fd (l := f.low) (h := f.high) (at_ := f.at_) (k := f.k) (m := f.m) (S := S)
  simp [h0, h1, h2, h3, h4, h5, h7, h8, hm] at af
  have g : f.good := ⟨h0, h1, h2, h3, h4, h5, h6, h7, h8⟩
  obtain ⟨a1, a2, a3, a4, a5, a6, a7, a8⟩ := g.spec
  have lb := lib_eq (S := S) h0 h2
  unfold lib at lb
  unfold Fd.D
  have e12 : (2 : Int) ^ (12 : Nat) = 4096 := by decide
  have e24 : (2 : Int) ^ (24 : Nat) = 16777216 := by decide
  have e28 : (2 : Int) ^ (28 : Nat) = 268435456 := by decide
  have e41 : (2 : Int) ^ (41 : Nat) = 2199023255552 := by decide
  have p1 : powOk (f.low / 2 ^ f.stp) 12 = true := by unfold powOk; simp; omega
  have p2 : powOk (cnt f.low f.high f.stp - 1) 24 = true := by unfold powOk; simp; omega
  have p3 : powOk (f.stp : Nat) 28 = true := by unfold powOk; simp; omega
  have p4 : powOk f.k 41 = true := by unfold powOk; simp; omega
  have hst : stp f.low f.high = f.stp := rfl
  rw [hst] at lb
  unfold g_word_of runDef m_word_of
  simp [af, lb, p1, p2, p3, p4, e12, e24, e28, e41]
  have rsm := fun z => rights_sum (m := f.m) (S := S) (e := [some (.tup [.int f.low, .int f.high, .int f.at_, .str (rs f.m), .int f.k]), some mk, some (.int f.low), some (.int f.high), some (.int f.at_), some (.str (rs f.m)), some (.int f.k), some (.int (f.stp : Nat)), some (.int (f.low / 2 ^ f.stp)), some (.int (cnt f.low f.high f.stp)), some (.int z), none]) h6 rfl rfl
  simp [rsm, sumD_bits h6, Fd.bits]
  omega
theorem word_of_not {f : Fd} {mk : Ev.D} {S : Store} (h : lawM f.m = false) : g_word_of [f.D, mk] S = .err noF S := by
  have af := are_fields_fd (l := f.low) (h := f.high) (at_ := f.at_) (k := f.k) (m := f.m) (S := S)
  rw [h] at af
  simp at af
  unfold Fd.D
  unfold g_word_of runDef m_word_of
  simp [af, noF]
theorem rs_r : Str.ofString "r" = rs 1 := by rw [rs_eq]; decide +kernel
end Lw
namespace Lw
open PySem PySem.Spec L2 Ev
/-! ### is_word, is_lawful -/
def asW : Ev.D → Option (Bool × Int)
  | .tup [.bl m, .int b] => if 0 ≤ b ∧ b < 35184372088832 then some (m, b) else none
  | _ => none
def isBl : Ev.D → Bool
  | .bl _ => true
  | _ => false
theorem isi_loc_bool {S : Store} {n : Nat} (h : Typed S (.loc n)) : isiD "bool" S (.loc n) = some (.bl false) := by
  obtain ⟨t, h⟩ := h
  have h2 := h
  simp only [tyD] at h2
  split at h2 <;> cases h2
  · exact isiD_of h (by decide +kernel)
  · exact isiD_of h (by decide +kernel)
theorem isi_bool {S : Store} {d : Ev.D} (h : Typed S d) : isiD "bool" S d = some (.bl (isBl d)) := by
  cases d with
  | loc n => rw [isi_loc_bool h]; rfl
  | exn c ns xs => obtain ⟨t, h⟩ := h; cases h
  | _ => simp [isBl]
theorem isi_loc_tuple {S : Store} {n : Nat} (h : Typed S (.loc n)) : isiD "tuple" S (.loc n) = some (.bl false) := by
  obtain ⟨t, h⟩ := h
  have h2 := h
  simp only [tyD] at h2
  split at h2 <;> cases h2
  · exact isiD_of h (by decide +kernel)
  · exact isiD_of h (by decide +kernel)
theorem is_word_eq {S : Store} {d : Ev.D} (h : Typed S d) (hx : ∀ xs, d = .tup xs → ∀ x ∈ xs, Typed S x) : g_is_word [d] S = .ok (.bl (asW d).isSome) S := by
  unfold g_is_word runDef m_is_word
  cases d with
  | loc n => simp [isi_loc_tuple h, asW]
  | exn c ns xs => obtain ⟨t, h⟩ := h; cases h
  | tup xs =>
    match xs, hx xs rfl with
    | [], _ => simp [asW]
    | [a], _ => simp [asW]
    | [a, b], hx =>
      have ha := isi_bool (hx a (by simp))
      have hb := is_whole_eq (hx b (by simp))
      cases ca : isBl a with
      | false =>
        have : asW (.tup [a, b]) = none := by cases a <;> first | rfl | simp [isBl] at ca
        rw [ca] at ha
        simp [ixD, atI, ixN, ha, this]
      | true =>
        rw [ca] at ha
        obtain ⟨m, rfl⟩ : ∃ m, a = .bl m := by cases a <;> first | exact ⟨_, rfl⟩ | simp [isBl] at ca
        cases cb : isW b with
        | false =>
          have : asW (.tup [.bl m, b]) = none := by cases b <;> first | rfl | simp [isW] at cb
          rw [cb] at hb
          simp [ixD, atI, ixN, ha, hb, this]
        | true =>
          rw [cb] at hb
          obtain ⟨i, rfl⟩ : ∃ i, b = .int i := by cases b <;> first | exact ⟨_, rfl⟩ | simp [isW] at cb
          by_cases c1 : 0 ≤ i
          · by_cases c2 : i < 35184372088832 <;> simp [ixD, atI, ixN, ha, hb, asW, c1, c2]
          · simp [ixD, atI, ixN, ha, hb, asW, c1]
    | a :: b :: c :: r, _ =>
      have e : ((r.length : Int) + 1 + 1 + 1 == 2) = false := by simp; omega
      have : asW (.tup (a :: b :: c :: r)) = none := by cases a <;> cases b <;> rfl
      simp [e, this]
  | _ => simp [asW]
theorem is_word_pair {S : Store} {m : Bool} {b : Int} (h : 0 ≤ b) (h2 : b < 35184372088832) : g_is_word [.tup [.bl m, .int b]] S = .ok (.bl true) S := by
  rw [is_word_eq ⟨_, rfl⟩ (fun xs e x hx => by
    cases e
    simp only [List.mem_cons, List.not_mem_nil, or_false] at hx
    rcases hx with rfl | rfl <;> exact ⟨_, rfl⟩)]
  simp [asW, h, h2]
def lawB (m : Bool) (b : Int) : Bool := !m || (tells b && lawM (bMsk b))
theorem is_lawful_pair {S : Store} {m : Bool} {b : Int} (h : 0 ≤ b) (h2 : b < 35184372088832) : g_is_lawful [.tup [.bl m, .int b]] S = .ok (.bl (lawB m b)) S := by
  have w := is_word_pair (S := S) (m := m) h h2
  have f := fields_eq (m := .bl m) (S := S) h
  unfold g_is_lawful runDef m_is_lawful lawB
  cases m with
  | false => simp [w, f, ixD, atI, ixN]
  | true =>
    by_cases ht : tells b = true
    · have e : fD b = (fdOf b).D := by unfold fD; rw [if_pos ht]; rfl
      rw [e] at f
      have al := are_lawful_eq (m := bMsk b) (S := S)
      have i3 : ixD S (fdOf b).D (.int 3) = some (.str (rs (bMsk b))) := rfl
      have nn : isNot S (fdOf b).D .non = some (.bl true) := rfl
      have i0 : ∀ b : Int, ixD S (.tup [.bl true, .int b]) (.int 0) = some (.bl true) := fun b => by simp [ixD, atI, ixN]
      simp [w, f, i0, nn, i3, al, ht]
    · have e : fD b = .non := by unfold fD; rw [if_neg ht]
      rw [e] at f
      have i0 : ∀ b : Int, ixD S (.tup [.bl true, .int b]) (.int 0) = some (.bl true) := fun b => by simp [ixD, atI, ixN]
      simp [w, f, i0, isNot, ht]
theorem is_lawful_not {S : Store} {d : Ev.D} (h : Typed S d) (hx : ∀ xs, d = .tup xs → ∀ x ∈ xs, Typed S x) (hn : asW d = none) : g_is_lawful [d] S = .ok (.bl false) S := by
  have w := is_word_eq h hx
  rw [hn] at w
  unfold g_is_lawful runDef m_is_lawful
  simp [w]
theorem rs_inj {m n : Nat} (hm : m < 512) (hn : n < 512) (h : rs m = rs n) : m = n := by
  rw [rs_eq, rs_eq, sC_inj] at h
  apply Nat.eq_of_testBit_eq
  intro i
  by_cases hi : i < 9
  · have a := mem_rc (m := m) hi
    have b := mem_rc (m := n) hi
    rw [h] at a
    rw [Bool.eq_iff_iff]
    exact a.symm.trans b
  · have e1 : m.testBit i = false := Nat.testBit_lt_two_pow (Nat.lt_of_lt_of_le hm (by
      have : 2 ^ 9 ≤ 2 ^ i := Nat.pow_le_pow_right (by decide) (by omega)
      omega))
    have e2 : n.testBit i = false := Nat.testBit_lt_two_pow (Nat.lt_of_lt_of_le hn (by
      have : 2 ^ 9 ≤ 2 ^ i := Nat.pow_le_pow_right (by decide) (by omega)
      omega))
    rw [e1, e2]
end Lw
namespace Lw
open PySem PySem.Spec L2 Ev
/-! ### repr: how long it may be -/
mutual
def bnR : PyData → Nat
  | .none => 4
  | .bool _ => 5
  | .int _ => 1921
  | .str x => 10 * x.length + 2
  | .list xs => 2 + bnRs xs
  | .tuple xs => 3 + bnRs xs
  | .dict _ => 0
def bnRs : List PyData → Nat
  | [] => 0
  | x :: xs => bnR x + 2 + bnRs xs
end
mutual
/-- what may be shown -/
def okR : PyData → Bool
  | .none => true
  | .bool _ => true
  | .int i => decide (i.natAbs.log2 < 1920)
  | .str x => x.cps.toList.all fun c => decide (c < 1114112)
  | .list xs => okRs xs
  | .tuple xs => okRs xs
  | .dict _ => false
def okRs : List PyData → Bool
  | [] => true
  | x :: xs => okR x && okRs xs
end
theorem textFrom_le : ∀ (ts : List Str) (k : Nat) (acc : Str), (textFrom k acc ts).length ≤ acc.length + (ts.map fun t => t.length + 2).sum
  | [], k, acc => by simp [textFrom]
  | t :: ts, k, acc => by
    have ih := textFrom_le ts (k + 1)
    simp only [textFrom, List.map_cons, List.sum_cons]
    refine Nat.le_trans (ih _) ?_
    have e : (Str.ofString ", ").length = 2 := by rw [ofString_length]; rfl
    have e0 : (Str.ofString "").length = 0 := by rw [ofString_length]; rfl
    split <;> simp only [Str.length_append, e, e0] <;> omega
mutual
theorem shown_le : ∀ d : PyData, okR d = true → d.shown.length ≤ bnR d
  | .none, _ => by decide
  | .bool b, _ => by cases b <;> decide
  | .int i, h => by
    simp only [okR, decide_eq_true_eq] at h
    have := int_text_length_le (k := 1920) (by decide) h
    show (Str.ofString (toString i)).length ≤ 1921
    rw [ofString_length]
    exact this
  | .str x, h => by
    simp only [okR, List.all_eq_true, decide_eq_true_eq] at h
    exact StrLaws.reprText_len x fun c hc => Nat.lt_trans (h c hc) (by decide)
  | .list xs, h => by
    have ih := shownAll_le xs h
    show (textFrom 0 (Str.ofString "[") (PyData.shownAll xs) ++ Str.ofString "]").length ≤ 2 + bnRs xs
    have a := textFrom_le (PyData.shownAll xs) 0 (Str.ofString "[")
    have e1 : (Str.ofString "[").length = 1 := by rw [ofString_length]; rfl
    have e2 : (Str.ofString "]").length = 1 := by rw [ofString_length]; rfl
    rw [Str.length_append, e2]
    omega
  | .tuple xs, h => by
    have ih := shownAll_le xs h
    show (Str.ofString "(" ++ Str.join (Str.ofString ", ") (PyData.shownAll xs) ++ Str.ofString (if (PyData.shownAll xs).length == 1 then ",)" else ")")).length ≤ 3 + bnRs xs
    have a := StrLaws.join_length_le (Str.ofString ", ") (PyData.shownAll xs)
    have e0 : (Str.ofString ", ").length = 2 := by rw [ofString_length]; rfl
    have e1 : (Str.ofString "(").length = 1 := by rw [ofString_length]; rfl
    have e2 : (Str.ofString (if (PyData.shownAll xs).length == 1 then ",)" else ")")).length ≤ 2 := by rw [ofString_length]; split <;> decide
    rw [Str.length_append, Str.length_append, e1]
    rw [e0] at a
    have s : ((PyData.shownAll xs).map fun t => t.length + 2).sum = ((PyData.shownAll xs).map fun t => t.length).sum + (PyData.shownAll xs).length * 2 := by
      generalize PyData.shownAll xs = l
      induction l with
      | nil => rfl
      | cons t l ih => simp only [List.map_cons, List.sum_cons, List.length_cons, ih]; omega
    omega
  | .dict _, h => by cases h
theorem shownAll_le : ∀ xs : List PyData, okRs xs = true → ((PyData.shownAll xs).map fun t => t.length + 2).sum ≤ bnRs xs
  | [], _ => Nat.le_refl _
  | x :: xs, h => by
    simp only [okRs, Bool.and_eq_true] at h
    have a := shown_le x h.1
    have b := shownAll_le xs h.2
    simp only [PyData.shownAll, List.map_cons, List.sum_cons, bnRs]
    omega
end
mutual
theorem okR_show : ∀ d : PyData, okR d = true → d.showable = true ∧ d.hasDict = false
  | .none, _ => ⟨rfl, rfl⟩
  | .bool _, _ => ⟨rfl, rfl⟩
  | .int i, h => ⟨h, rfl⟩
  | .str _, _ => ⟨rfl, rfl⟩
  | .list xs, h => okRs_show xs h
  | .tuple xs, h => okRs_show xs h
  | .dict _, h => by cases h
theorem okRs_show : ∀ xs : List PyData, okRs xs = true → PyData.showableAll xs = true ∧ PyData.hasDictAll xs = false
  | [], _ => ⟨rfl, rfl⟩
  | x :: xs, h => by
    simp only [okRs, Bool.and_eq_true] at h
    have a := okR_show x h.1
    have b := okRs_show xs h.2
    simp only [PyData.showableAll, PyData.hasDictAll, a.1, b.1, a.2, b.2]
    exact ⟨rfl, rfl⟩
end
theorem reprD_of {S : Store} {d : D} {p : PyData} (h : pyD S deepN d = some p) (ho : okR p = true) (hb : bnR p ≤ 16777216) : reprD S [d] = some (.str p.shown) := by
  obtain ⟨a, b⟩ := okR_show p ho
  have c := shown_le p ho
  have sl : sizeLine = 16777216 := by decide
  simp only [reprD, h, Option.bind_some]
  rw [if_pos]
  simp only [showOk, a, b, Bool.not_false, Bool.true_and, decide_eq_true_eq]
  omega
theorem log2_lt {i : Int} {k : Nat} (h : i.natAbs < 2 ^ k) (hk : 0 < k) : i.natAbs.log2 < k := by
  by_cases z : i.natAbs = 0
  · rw [z]; simpa using hk
  · exact (Nat.log2_lt z).mpr h
theorem okR_int {i : Int} (h : -(2 ^ 200) < i) (h2 : i < 2 ^ 200) : okR (.int i) = true := by
  simp only [okR, decide_eq_true_eq]
  refine Nat.lt_trans (log2_lt (k := 200) ?_ (by decide)) (by decide)
  omega
end Lw
namespace Lw
open PySem PySem.Spec L2 Ev
/-! ### words: a mark and bits; what the law's own look tells -/
/-- a lawful word -/
def LW (m : Bool) (b : Int) : Prop := 0 ≤ b ∧ b < 35184372088832 ∧ (m = true → tells b = true ∧ lawM (bMsk b) = true)
theorem LW.fd {b : Int} (h : LW true b) : (fdOf b).ok ∧ (fdOf b).bits = b := by
  obtain ⟨h0, h1, h2⟩ := h
  obtain ⟨g, e⟩ := fdOf_good h0 h1 (h2 rfl).1
  exact ⟨⟨g, (h2 rfl).2⟩, e⟩
theorem LW.of_fd {f : Fd} (h : f.ok) : LW true f.bits := by
  obtain ⟨r0, r1⟩ := h.1.range
  refine ⟨r0, r1, fun _ => ⟨h.1.tells, ?_⟩⟩
  rw [h.1.parts.2.2.2.2.1]
  exact h.2
theorem LW.cases {b : Int} (h : LW true b) : ∃ f : Fd, f.ok ∧ f.bits = b := ⟨_, h.fd⟩
theorem LW.bare {m : Bool} {b : Int} (h : LW m b) : LW false b := ⟨h.1, h.2.1, fun z => by cases z⟩
theorem law_least_eq {l h : Int} {S : Store} (h0 : 0 ≤ l) (h1 : l < h) (h2 : h ≤ 4096) : g_law_least [.int l, .int h] S = .ok (.tup [.int (lhl l h), .int (lhh l h), .int (stp l h)]) S := by
  have lp := while_fnd (tc := rTest (rBin gtD (rBin subD (rBin shrD (rBin subD (rVar 1) (rCon (.int 1))) (rVar 2)) (rBin shrD (rVar 0) (rVar 2))) (rCon (.int 15)))) (body := lb1_law_least)
    (E := fun s => [some (.int l), some (.int h), some (.int (s : Nat))]) (S := S) (c := fun s => decide (16 < cnt l h s)) 8
    (fun s _ => by
      have e : (15 < (h - 1) / 2 ^ s - l / 2 ^ s) ↔ 16 < cnt l h s := by
        unfold cnt; rw [← cdv_pred (h := h) s]; omega
      simp [e]) (fun s _ => by simp [lb1_law_least]) 8 0 100 (by omega) (by have := cnt8 h0 h2; simp; exact this) (by omega)
  rw [← fstep_fnd] at lp
  obtain ⟨s1, s2, _⟩ := stp_spec h0 h2
  have b := cdv_bnd (stp l h) (by omega : 0 < h) h2
  have a := div_bnd (stp l h) h0 (by omega : l ≤ 4096)
  have p1 : powOk (l / 2 ^ stp l h) (stp l h) = true := by unfold powOk; simp; omega
  have p2 : powOk (cdv h (stp l h)) (stp l h) = true := by unfold powOk; simp; omega
  unfold g_law_least runDef m_law_least
  simp only [Int.ofNat_zero] at lp
  rw [show fstep l h 8 0 = stp l h from rfl] at lp
  simp [lp, cdv_pred, p1, p2, lhl, lhh]
theorem join_rs {m : Nat} {S : Store} : joinD S (.str (Str.ofString "")) [.lst ((rc m).map fun c => .str (sC [c]))] = some (.str (rs m), S) := by
  rw [lit_nil, joinD_ones _ (Nat.le_trans (rc_len m) (by decide)), rs_eq]
theorem ix_RG {S : Store} {i : Nat} (hi : i < 9) : ixD S (.str (sC RG)) (.int (i : Nat)) = some (.str (sC [rg i])) := by
  have d : ∀ j : Fin 9, atI (sC RG).cps.toList (j.val : Int) = some (rg j.val) := by decide
  have e := d ⟨i, hi⟩
  have z : (sC RG).length ≤ sizeLine := len_small (by decide)
  simp only [ixD, e, z, if_true, Option.bind_some]
  rfl
theorem law_fieldsW {b : Int} {m : Ev.D} {S : Store} (h : 0 ≤ b) : g_law_fields [.tup [m, .int b]] S = .ok (fD b) S := by
  have e12 : (2 : Int) ^ (12 : Nat) = 4096 := by decide
  have e24 : (2 : Int) ^ (24 : Nat) = 16777216 := by decide
  have e28 : (2 : Int) ^ (28 : Nat) = 268435456 := by decide
  have e41 : (2 : Int) ^ (41 : Nat) = 2199023255552 := by decide
  have hs : b / 268435456 % 16 = ((bStp b : Nat) : Int) := by unfold bStp; omega
  have hs2 : bStp b < 16 := by unfold bStp; omega
  have f0 : 0 ≤ bFst b ∧ bFst b < 4096 := by unfold bFst; omega
  have c0 : 1 ≤ bCnt b ∧ bCnt b ≤ 16 := by unfold bCnt; omega
  have pf : powOk (bFst b + bCnt b) (bStp b) = true := by unfold powOk; simp; omega
  have pf2 : powOk (bFst b) (bStp b) = true := by unfold powOk; simp; omega
  have x1 : b / 4096 % 4096 = bFst b := rfl
  have x2 : b / 16777216 % 16 + 1 = bCnt b := rfl
  have lr : ∀ x : Option Ev.D, rLc frzL (rRan ran1 (rCons (rCon (.int 9)) rNil)) (.nm 7) [7] (rTest (rBin eqD (rBin andD (rBin shrD (rVar 1) (rBin addD (rCon (.int 32)) (rVar 7))) (rCon (.int 1))) (rCon (.int 1)))) (rBin ixD (rVar 5) (rVar 7))
      [some (.tup [m, .int b]), some (.int b), some (.int (bFst b)), some (.int (bCnt b)), x, some (.str (Str.ofString "rwlsnfxco")), none, none] S = .ok (.lst ((rc (bMsk b)).map fun c => .str (sC [c]))) S := fun x => by
    have lc := rLc_map (it := rRan ran1 (rCons (rCon (.int 9)) rNil)) (t := .nm 7) (vs := [7]) (c := rTest (rBin eqD (rBin andD (rBin shrD (rVar 1) (rBin addD (rCon (.int 32)) (rVar 7))) (rCon (.int 1))) (rCon (.int 1)))) (elt := rBin ixD (rVar 5) (rVar 7))
      (e := [some (.tup [m, .int b]), some (.int b), some (.int (bFst b)), some (.int (bCnt b)), x, some (.str (Str.ofString "rwlsnfxco")), none, none]) (S := S) (h := fun i : Nat => .int (i : Nat)) (xs := List.range 9)
      (fun i => [some (.tup [m, .int b]), some (.int b), some (.int (bFst b)), some (.int (bCnt b)), x, some (.str (Str.ofString "rwlsnfxco")), none, some (.int (i : Nat))]) (bMsk b).testBit (fun i => .str (sC [rg i]))
      (by simp [rangeD]) (by simp; decide)
      (fun i hi => by
        have hi9 := List.mem_range.mp hi
        have e1 : ((32 : Int) + (i : Nat)).toNat = 32 + i := by omega
        have e2 : (0 : Int) ≤ 32 + (i : Nat) := by omega
        refine ⟨by simp [wipeE], ?_, fun _ => by simp [lit_RG, ix_RG hi9]⟩
        rw [msk_bit h i hi9]
        simp [e1, e2, and_1]
        rfl)
    rw [pk_map] at lc
    exact lc
  unfold g_law_fields runDef m_law_fields
  have ix : ixD S (.tup [m, .int b]) (.int 1) = some (.int b) := by simp [ixD, atI, ixN]
  simp [ix, and_4095, and_15, e12, e24, e28, e41, x1, x2, hs, pf]
  unfold fD tells
  by_cases c1 : 8 < bStp b
  · have c1' : (8 : Int) < (bStp b : Nat) := by omega
    have c1'' : ¬ bStp b ≤ 8 := by omega
    simp [c1', c1'']
  · have c1' : ¬ (8 : Int) < (bStp b : Nat) := by omega
    have c1'' : bStp b ≤ 8 := by omega
    by_cases c2 : bStp b = 0
    · rw [c2] at pf pf2
      by_cases c3 : 4096 < (bFst b + bCnt b) * 2 ^ bStp b
      · have c3' : ¬ (bFst b + bCnt b) * 2 ^ bStp b ≤ 4096 := by omega
        simp [c2] at c3 c3'
        simp [c2, c3, c3']
      · have c3' : (bFst b + bCnt b) * 2 ^ bStp b ≤ 4096 := by omega
        simp [c2] at c3 c3' pf pf2
        have c3n : ¬ 4096 < bFst b + bCnt b := by omega
        simp [c2, c3n, c3', lr, pf, pf2, and_4095, rMth, tyM, join_rs, ofP, bLow, bHigh, bAt, bKnd]
    · have c2' : (0 : Int) < (bStp b : Nat) := by omega
      by_cases c4 : bCnt b < 9
      · have c4' : ¬ 8 < bCnt b := by omega
        simp [c1', c2, c2', c4, c4']
      · have c4' : 8 < bCnt b := by omega
        by_cases c3 : 4096 < (bFst b + bCnt b) * 2 ^ bStp b
        · have c3' : ¬ (bFst b + bCnt b) * 2 ^ bStp b ≤ 4096 := by omega
          simp [c1', c2, c2', c4, c4', c3, c3']
        · have c3' : (bFst b + bCnt b) * 2 ^ bStp b ≤ 4096 := by omega
          simp [c1', c1'', c2, c2', c4, c4', c3, c3', lr, pf, pf2, and_4095, rMth, tyM, join_rs, ofP, bLow, bHigh, bAt, bKnd]
theorem law_fields_fd {f : Fd} (h : f.good) {m : Ev.D} {S : Store} : g_law_fields [.tup [m, .int f.bits]] S = .ok f.D S := by rw [law_fieldsW h.range.1, fD_bits h]
/-! the law's own maker of words -/
theorem made_loop {a : Int} {m : Nat} (hm : m < 512) {x0 x1 x2 x4 x5 : Option Ev.D} {S : Store} : ∃ y7 y8, forL (.tp [7, 8]) lb1_law_made ((List.range 9).map fun i => D.tup [.int (i : Nat), .str (sC [rg i])]) [x0, x1, x2, some (.str (rs m)), x4, x5, some (.int a), none, none] S = .nx [x0, x1, x2, some (.str (rs m)), x4, x5, some (.int (a + (m : Int) * 4294967296)), y7, y8] S := by
  have step : ∀ (i : Nat) (a : Int) (y7 y8 : Option Ev.D), i < 9 → lb1_law_made [x0, x1, x2, some (.str (rs m)), x4, x5, some (.int a), some (.int (i : Nat)), some (.str (sC [rg i]))] S = .nx [x0, x1, x2, some (.str (rs m)), x4, x5, some (.int (a + if m.testBit i = true then 2 ^ (32 + i) else 0)), some (.int (i : Nat)), some (.str (sC [rg i]))] S := fun i a y7 y8 hi => by
    have im := mem_rs (m := m) (i := i) hi (S := S)
    have e1 : ((32 : Int) + (i : Nat)).toNat = 32 + i := by omega
    have p : ∀ z : Int, z = 0 ∨ z = 1 → powOk z (32 + (i : Nat)) = true := fun z hz => by unfold powOk; simp; omega
    unfold lb1_law_made
    cases hb : m.testBit i with
    | true =>
      rw [hb] at im
      simp [im, p 1 (.inr rfl), e1]
    | false =>
      rw [hb] at im
      simp [im, p 0 (.inl rfl), e1]
  have gen : ∀ (l : List Nat) (a : Int) (y7 y8 : Option Ev.D), (∀ i ∈ l, i < 9) → ∃ z7 z8, forL (.tp [7, 8]) lb1_law_made (l.map fun i => D.tup [.int (i : Nat), .str (sC [rg i])]) [x0, x1, x2, some (.str (rs m)), x4, x5, some (.int a), y7, y8] S = .nx [x0, x1, x2, some (.str (rs m)), x4, x5, some (.int (a + (l.map fun i => if m.testBit i = true then (2 : Int) ^ (32 + i) else 0).sum)), z7, z8] S := by
    intro l
    induction l with
    | nil => intro a y7 y8 _; exact ⟨y7, y8, by simp [forL]⟩
    | cons i l ih =>
      intro a y7 y8 hl
      obtain ⟨z7, z8, h⟩ := ih (a + if m.testBit i = true then 2 ^ (32 + i) else 0) (some (.int (i : Nat))) (some (.str (sC [rg i]))) (fun j hj => hl j (List.mem_cons_of_mem _ hj))
      refine ⟨z7, z8, ?_⟩
      simp only [List.map_cons, forL, bindT_tp, parts_tup, Option.bind_some]
      simp [step i a y7 y8 (hl i List.mem_cons_self), h, Int.add_assoc]
  obtain ⟨z7, z8, h⟩ := gen (List.range 9) a none none (fun i hi => List.mem_range.mp hi)
  have e : ((List.range 9).map fun i => if m.testBit i = true then (2 : Int) ^ (32 + i) else 0).sum = (m : Int) * 4294967296 := by
    have d : ∀ j : Fin 512, ((List.range 9).map fun i => if j.val.testBit i = true then (2 : Int) ^ (32 + i) else 0).sum = (j.val : Int) * 4294967296 := by decide +kernel
    exact d ⟨m, hm⟩
  rw [e] at h
  exact ⟨z7, z8, h⟩
theorem law_made_eq {f : Fd} {S : Store} (h : f.good) : g_law_made [.int f.low, .int f.high, .int f.at_, .str (rs f.m), .int f.k] S = .ok (.tup [.bl true, .int f.bits]) S := by
  obtain ⟨a1, a2, a3, a4, a5, a6, a7, a8⟩ := h.spec
  obtain ⟨h0, h1, h2, h3, h4, h5, h6, h7, h8⟩ := h
  have ll := law_least_eq (S := S) h0 h1 h2
  have hst : stp f.low f.high = f.stp := rfl
  rw [hst] at ll
  have e12 : (2 : Int) ^ (12 : Nat) = 4096 := by decide
  have e24 : (2 : Int) ^ (24 : Nat) = 16777216 := by decide
  have e28 : (2 : Int) ^ (28 : Nat) = 268435456 := by decide
  have e41 : (2 : Int) ^ (41 : Nat) = 2199023255552 := by decide
  have ec : (f.high - f.low) / 2 ^ f.stp = cnt f.low f.high f.stp := by
    have e : f.high - f.low = cnt f.low f.high f.stp * 2 ^ f.stp := by
      rw [Int.add_mul] at a8
      omega
    rw [e, div_mul']
  have p1 : powOk (f.low / 2 ^ f.stp) 12 = true := by unfold powOk; simp; omega
  have p2 : powOk (cnt f.low f.high f.stp - 1) 24 = true := by unfold powOk; simp; omega
  have p3 : powOk (f.stp : Nat) 28 = true := by unfold powOk; simp; omega
  have p4 : powOk f.k 41 = true := by unfold powOk; simp; omega
  have ix : ∀ x y : Int, ixD S (.tup [.int x, .int y, .int (f.stp : Nat)]) (.int 2) = some (.int (f.stp : Nat)) := fun x y => by simp [ixD, atI, ixN]
  have en : enumD [.str (Str.ofString "rwlsnfxco")] = some ((List.range 9).map fun i => D.tup [.int (i : Nat), .str (sC [rg i])]) := by rw [lit_RG, enum_RG]
  obtain ⟨y7, y8, lp⟩ := made_loop (a := f.at_ + f.low / 2 ^ f.stp * 4096 + (cnt f.low f.high f.stp - 1) * 16777216 + (f.stp : Nat) * 268435456) h6 (x0 := some (.int f.low)) (x1 := some (.int f.high)) (x2 := some (.int f.at_)) (x4 := some (.int f.k)) (x5 := some (.int (f.stp : Nat))) (S := S)
  unfold g_law_made runDef m_law_made
  simp [ll, ix, p1, ec, p2, p3, p4, e12, e24, e28, e41, en, lp, Fd.bits]
end Lw
namespace Lw
open PySem PySem.Spec L2 Ev
/-! ### words drawn -/
theorem lcL_draw {Inv : Store → Prop} {t : Tg} {c : RT} {elt : RE} {e0 : Ev.Env} (h : Nat → D) (E : Nat → Ev.Env) (f : Nat → D) : ∀ (xs : List Nat) (S : Store), xs.Nodup → Inv S →
    (∀ x ∈ xs, ∀ S, Inv S → bindT S (h x) e0 t = some (E x) ∧ (∃ k S', c (E x) S = .ok k S' ∧ Inv S') ∧ elt (E x) S = .ok (f x) S) →
    ∃ p S', lcL t c elt e0 (xs.map h) S = .ok ((xs.filter p).map f) S' ∧ Inv S'
  | [], S, _, i, _ => ⟨fun _ => true, S, rfl, i⟩
  | x :: xs, S, nd, i, hx => by
    obtain ⟨h1, ⟨k, S1, h2, i1⟩, _⟩ := hx x List.mem_cons_self S i
    obtain ⟨p, S2, h4, i2⟩ := lcL_draw h E f xs S1 (List.nodup_cons.mp nd).2 i1 fun y hy => hx y (List.mem_cons_of_mem _ hy)
    have hn := (List.nodup_cons.mp nd).1
    have fc : xs.filter (fun y => if y = x then k else p y) = xs.filter p := List.filter_congr fun y hy => by
      have : y ≠ x := fun e => hn (e ▸ hy)
      simp [this]
    refine ⟨fun y => if y = x then k else p y, S2, ?_, i2⟩
    have h3 := (hx x List.mem_cons_self S1 i1).2.2
    simp only [List.map_cons, lcL, h1, h2, bind_ok, List.filter_cons, if_true, fc]
    cases k with
    | true => simp [h3, h4]
    | false => simp [h4]
/-- the pool at n; all else stands as in T -/
def PoolF (T S : Store) (n : Nat) : Prop := PoolAt S n ∧ S.length = T.length ∧ ∀ k, k ≠ n → S[k]? = T[k]?
theorem PoolAt.f {S : Store} {n : Nat} (h : PoolAt S n) : PoolF S S n := ⟨h, rfl, fun _ _ => rfl⟩
theorem take_okF {T S : Store} {n : Nat} (many : Int) (h : PoolF T S n) (hm : 0 < many) (hm2 : many < 18446744073709551616) : ∃ r S', g_law_take [.loc n, .int many] S = .ok (.int r) S' ∧ 0 ≤ r ∧ r < many ∧ PoolF T S' n ∧ ∃ o, S' = S.set n o := by
  obtain ⟨r, S1, t1, a1, b1, p1, o, e⟩ := take_ok many h.1 hm hm2
  refine ⟨r, S1, t1, a1, b1, ⟨p1, ?_, fun k hk => ?_⟩, o, e⟩
  · rw [e, List.length_set, h.2.1]
  · rw [e, List.getElem?_set_ne (Ne.symm hk)]; exact h.2.2 k hk
variable {T : Store}
theorem lit_6 : (Str.ofString "rwlsnf") = sC ((List.range 6).map rg) := by decide +kernel
theorem six_rs (p : Nat → Bool) : ∃ m, m < 64 ∧ ((List.range 6).filter p).map rg = rc m := by
  refine ⟨((List.range 9).map fun i => if (fun i => decide (i < 6) && p i) i = true then 2 ^ i else 0).sum, ?_, ?_⟩
  · have : ∀ a0 a1 a2 a3 a4 a5 : Bool, ((if a0 = true then 1 else 0) + ((if a1 = true then 2 else 0) + ((if a2 = true then 4 else 0) + ((if a3 = true then 8 else 0) + ((if a4 = true then 16 else 0) + (if a5 = true then 32 else 0))))) : Nat) < 64 := by decide
    have := this (p 0) (p 1) (p 2) (p 3) (p 4) (p 5)
    simp [List.range_succ, List.map_append, List.sum_append]
    try omega
  · unfold rc
    rw [pk_congr fun i hi => mskL_bits (fun i => decide (i < 6) && p i) i hi]
    unfold pk
    congr 1
theorem law64 {m : Nat} (h : m < 64) : lawM m = true := by
  have d : ∀ j : Fin 64, lawM j.val = true := by decide +kernel
  exact d ⟨m, h⟩
theorem rights_six {S : Store} {n : Nat} {x1 : Option D} (hp : PoolF T S n) : ∃ m S', m < 64 ∧ PoolF T S' n ∧ rLc frzL (rIt (rCon (.str "rwlsnf"))) (.nm 2) [2] (rTest (rBin gtD (rCall g_law_take (rCons (rVar 0) (rCons (rCon (.int 3)) rNil))) (rCon (.int 0)))) (rVar 2) [some (.loc n), x1, none] S = .ok (.lst ((rc m).map fun c => .str (sC [c]))) S' := by
  obtain ⟨p, S1, h1, p1⟩ := lcL_draw (Inv := fun S => PoolF T S n) (t := .nm 2) (c := rTest (rBin gtD (rCall g_law_take (rCons (rVar 0) (rCons (rCon (.int 3)) rNil))) (rCon (.int 0)))) (elt := rVar 2) (e0 := [some (.loc n), x1, none])
    (fun i => .str (sC [rg i])) (fun i => [some (.loc n), x1, some (.str (sC [rg i]))]) (fun i => .str (sC [rg i])) (List.range 6) S (by decide) hp (fun i hi S hS => by
      obtain ⟨r, S1, t1, a1, b1, p1, _⟩ := take_okF 3 hS (by omega) (by omega)
      exact ⟨by simp, ⟨decide (0 < r), S1, by simp [t1], p1⟩, by simp⟩)
  obtain ⟨m, hm, e⟩ := six_rs p
  refine ⟨m, S1, hm, p1, ?_⟩
  rw [← e, List.map_map]
  unfold rLc
  have it : rIt (rCon (.str "rwlsnf")) [some (.loc n), x1, none] S = .ok ((List.range 6).map fun i => D.str (sC [rg i])) S := by
    simp only [rIt_eq, rCon_eq, bind_ok, lit_6, itemsD, signs_sC, List.map_map, ofO_some]
    rfl
  have w : wipeE [some (.loc n), x1, none] [2] = [some (.loc n), x1, none] := rfl
  rw [it, bind_ok, if_pos (len_small (by simp)), w, h1]
  rfl
theorem rs_lits : (Str.ofString "x" = rs 64 ∧ Str.ofString "fx" = rs 96) ∧ (Str.ofString "c" = rs 128 ∧ Str.ofString "o" = rs 256 ∧ Str.ofString "fco" = rs 416 ∧ Str.ofString "co" = rs 384 ∧ Str.ofString "fo" = rs 288 ∧ Str.ofString "fc" = rs 160) ∧ (Str.ofString "" = rs 0 ∧ Str.ofString "f" = rs 32) ∧ (Str.ofString "rwlsf" = rs 47 ∧ Str.ofString "rwlsn" = rs 31 ∧ Str.ofString "rwlsnf" = rs 63) := by
  simp only [rs_eq]
  decide +kernel
theorem law_rights_ok {S : Store} {n : Nat} (hp : PoolF T S n) : ∃ m S', g_law_rights [.loc n] S = .ok (.str (rs m)) S' ∧ PoolF T S' n ∧ m < 512 ∧ lawM m = true := by
  obtain ⟨r, S1, t1, a1, b1, p1, _⟩ := take_okF 8 hp (by omega) (by omega)
  obtain ⟨⟨l1, l2⟩, ⟨l3, l4, l5, l6, l7, l8⟩, ⟨l9, l10⟩, l11, l12, l13⟩ := rs_lits
  by_cases c0 : r = 0
  · obtain ⟨q, S2, t2, a2, b2, p2, _⟩ := take_okF 2 p1 (by omega) (by omega)
    obtain ⟨d, hd, hm⟩ := atI_mem (xs := [D.str (Str.ofString "x"), .str (Str.ofString "fx")]) a2 (by simpa using b2)
    obtain ⟨m, rfl, m0, m1⟩ : ∃ m, d = .str (rs m) ∧ m < 512 ∧ lawM m = true := by
      simp only [List.mem_cons, List.not_mem_nil, or_false] at hm
      rcases hm with rfl | rfl
      · exact ⟨64, by rw [l1], by decide, by decide⟩
      · exact ⟨96, by rw [l2], by decide, by decide⟩
    refine ⟨m, S2, ?_, p2, m0, m1⟩
    unfold g_law_rights runDef m_law_rights
    simp [t1, c0, t2, ixD, hd]
  by_cases c1 : r = 1
  · first
    | (obtain ⟨q, S2, t2, a2, b2, p2, _⟩ := take_okF 6 p1 (by omega) (by omega)
       obtain ⟨d, hd, hm⟩ := atI_mem (xs := [D.str (Str.ofString "c"), .str (Str.ofString "o"), .str (Str.ofString "fco"), .str (Str.ofString "co"), .str (Str.ofString "fo"), .str (Str.ofString "fc")]) a2 (by simpa using b2)
       obtain ⟨m, rfl, m0, m1⟩ : ∃ m, d = .str (rs m) ∧ m < 512 ∧ lawM m = true := by
         simp only [List.mem_cons, List.not_mem_nil, or_false] at hm
         rcases hm with rfl | rfl | rfl | rfl | rfl | rfl
         · exact ⟨128, by rw [l3], by decide, by decide⟩
         · exact ⟨256, by rw [l4], by decide, by decide⟩
         · exact ⟨416, by rw [l5], by decide, by decide⟩
         · exact ⟨384, by rw [l6], by decide, by decide⟩
         · exact ⟨288, by rw [l7], by decide, by decide⟩
         · exact ⟨160, by rw [l8], by decide, by decide⟩
       refine ⟨m, S2, ?_, p2, m0, m1⟩
       unfold g_law_rights runDef m_law_rights
       simp [t1, c1, t2, ixD, hd]
       done)
    | (obtain ⟨q, S2, t2, a2, b2, p2, _⟩ := take_okF 5 p1 (by omega) (by omega)
       obtain ⟨d, hd, hm⟩ := atI_mem (xs := [D.str (Str.ofString "c"), .str (Str.ofString "o"), .str (Str.ofString "fco"), .str (Str.ofString "co"), .str (Str.ofString "fo")]) a2 (by simpa using b2)
       obtain ⟨m, rfl, m0, m1⟩ : ∃ m, d = .str (rs m) ∧ m < 512 ∧ lawM m = true := by
         simp only [List.mem_cons, List.not_mem_nil, or_false] at hm
         rcases hm with rfl | rfl | rfl | rfl | rfl
         · exact ⟨128, by rw [l3], by decide, by decide⟩
         · exact ⟨256, by rw [l4], by decide, by decide⟩
         · exact ⟨416, by rw [l5], by decide, by decide⟩
         · exact ⟨384, by rw [l6], by decide, by decide⟩
         · exact ⟨288, by rw [l7], by decide, by decide⟩
       refine ⟨m, S2, ?_, p2, m0, m1⟩
       unfold g_law_rights runDef m_law_rights
       simp [t1, c1, t2, ixD, hd])
  by_cases c2 : r = 2
  · obtain ⟨q, S2, t2, a2, b2, p2, _⟩ := take_okF 2 p1 (by omega) (by omega)
    obtain ⟨d, hd, hm⟩ := atI_mem (xs := [D.str (Str.ofString ""), .str (Str.ofString "f")]) a2 (by simpa using b2)
    obtain ⟨m, rfl, m0, m1⟩ : ∃ m, d = .str (rs m) ∧ m < 512 ∧ lawM m = true := by
      simp only [List.mem_cons, List.not_mem_nil, or_false] at hm
      rcases hm with rfl | rfl
      · exact ⟨0, by rw [l9], by decide, by decide⟩
      · exact ⟨32, by rw [l10], by decide, by decide⟩
    refine ⟨m, S2, ?_, p2, m0, m1⟩
    unfold g_law_rights runDef m_law_rights
    simp [t1, c2, t2, ixD, hd]
  by_cases c3 : r < 5
  · obtain ⟨q, S2, t2, a2, b2, p2, _⟩ := take_okF 3 p1 (by omega) (by omega)
    obtain ⟨d, hd, hm⟩ := atI_mem (xs := [D.str (Str.ofString "rwlsf"), .str (Str.ofString "rwlsn"), .str (Str.ofString "rwlsnf")]) a2 (by simpa using b2)
    obtain ⟨m, rfl, m0, m1⟩ : ∃ m, d = .str (rs m) ∧ m < 512 ∧ lawM m = true := by
      simp only [List.mem_cons, List.not_mem_nil, or_false] at hm
      rcases hm with rfl | rfl | rfl
      · exact ⟨47, by rw [l11], by decide, by decide⟩
      · exact ⟨31, by rw [l12], by decide, by decide⟩
      · exact ⟨63, by rw [l13], by decide, by decide⟩
    refine ⟨m, S2, ?_, p2, m0, m1⟩
    unfold g_law_rights runDef m_law_rights
    simp [t1, c0, c1, c2, c3, t2, ixD, hd]
  · obtain ⟨m, S2, hm, p2, lc⟩ := rights_six (x1 := some (.int r)) p1
    refine ⟨m, S2, ?_, p2, by omega, law64 hm⟩
    unfold g_law_rights runDef m_law_rights
    simp [t1, c0, c1, c2, c3, lc, rMth, tyM, join_rs, ofP]
theorem law_bounds_ok {S : Store} {n : Nat} (hp : PoolF T S n) : ∃ l h S', g_law_bounds [.loc n] S = .ok (.tup [.int l, .int h]) S' ∧ PoolF T S' n ∧ 0 ≤ l ∧ l < h ∧ h ≤ 4096 ∧ exb l h = true := by
  obtain ⟨r0, S0, t0, a0, b0, p0, _⟩ := take_okF 4096 hp (by omega) (by omega)
  obtain ⟨r1, S1, t1, a1, b1, p1, _⟩ := take_okF 96 p0 (by omega) (by omega)
  obtain ⟨r2, S2, t2, a2, b2, p2, _⟩ := take_okF 7 p1 (by omega) (by omega)
  obtain ⟨d, hd, hm⟩ := atI_mem (xs := [D.int 0, .int 1, .int 16, .int 2048, .int 4095, .int r0, .int r1]) a2 (by simpa using b2)
  obtain ⟨l, rfl, l0, l1⟩ : ∃ l, d = .int l ∧ 0 ≤ l ∧ l < 4096 := by
    simp only [List.mem_cons, List.not_mem_nil, or_false] at hm
    rcases hm with rfl | rfl | rfl | rfl | rfl | rfl | rfl <;> exact ⟨_, rfl, by omega, by omega⟩
  obtain ⟨r3, S3, t3, a3, b3, p3, _⟩ := take_okF 64 p2 (by omega) (by omega)
  obtain ⟨r4, S4, t4, a4, b4, p4, _⟩ := take_okF 4096 p3 (by omega) (by omega)
  obtain ⟨r5, S5, t5, a5, b5, p5, _⟩ := take_okF 8 p4 (by omega) (by omega)
  obtain ⟨d2, hd2, hm2⟩ := atI_mem (xs := [D.int 1, .int 2, .int 16, .int 17, .int 32, .int 33, .int (1 + r3), .int (1 + r4)]) a5 (by simpa using b5)
  obtain ⟨k, rfl, k0⟩ : ∃ l, d2 = .int l ∧ 1 ≤ l := by
    simp only [List.mem_cons, List.not_mem_nil, or_false] at hm2
    rcases hm2 with rfl | rfl | rfl | rfl | rfl | rfl | rfl | rfl <;> exact ⟨_, rfl, by omega⟩
  generalize hh : (if l + k < 4096 then l + k else 4096) = h
  have h0 : l < h ∧ h ≤ 4096 := by rw [← hh]; split <;> omega
  have ll := law_least_eq (S := S5) l0 h0.1 h0.2
  have hd' := held_holds l h
  refine ⟨lhl l h, lhh l h, S5, ?_, p5, lhl_nn l0, by omega, lhh_le l0 h0.2, held_exact l0 h0.2⟩
  unfold g_law_bounds runDef m_law_bounds
  simp [t0, t1, t2, ixD, hd, t3, t4, t5, hd2, hh, ll]
theorem law_word_ok {S : Store} {n : Nat} (hp : PoolF T S n) : ∃ m b S', g_law_word [.loc n] S = .ok (.tup [.bl m, .int b]) S' ∧ PoolF T S' n ∧ LW m b := by
  obtain ⟨r0, S0, t0, a0, b0, p0, _⟩ := take_okF 5 hp (by omega) (by omega)
  have pw : powOk 2 45 = true := by decide
  by_cases c0 : r0 = 0
  · obtain ⟨r1, S1, t1, a1, b1, p1, _⟩ := take_okF 35184372088832 p0 (by omega) (by omega)
    obtain ⟨r2, S2, t2, a2, b2, p2, _⟩ := take_okF 5 p1 (by omega) (by omega)
    obtain ⟨d, hd, hm⟩ := atI_mem (xs := [D.int 0, .int 1, .int 4095, .int 35184372088831, .int r1]) a2 (by simpa using b2)
    obtain ⟨b, rfl, b0, b1⟩ : ∃ l, d = .int l ∧ 0 ≤ l ∧ l < 35184372088832 := by
      simp only [List.mem_cons, List.not_mem_nil, or_false] at hm
      rcases hm with rfl | rfl | rfl | rfl | rfl <;> exact ⟨_, rfl, by omega, by omega⟩
    refine ⟨false, b, S2, ?_, p2, b0, b1, fun z => by cases z⟩
    unfold g_law_word runDef m_law_word
    simp [t0, c0, pw, t1, t2, ixD, hd]
  · obtain ⟨l, h, S1, t1, p1, l0, l1, l2, l3⟩ := law_bounds_ok p0
    obtain ⟨m, S2, t2, p2, m0, m1⟩ := law_rights_ok p1
    have i7 := mem_rs (m := m) (i := 7) (by omega) (S := S2)
    have i8 := mem_rs (m := m) (i := 8) (by omega) (S := S2)
    rw [← lit_c] at i7
    rw [← lit_o] at i8
    -- the bounds behind the look at c and o
    have bo : ∃ l' h' S3, PoolF T S3 n ∧ 0 ≤ l' ∧ l' < h' ∧ h' ≤ 4096 ∧ exb l' h' = true ∧ ∀ k : RS, (((sIf (rAndT (rOrT (rTest (rBin inD (rCon (.str "c")) (rVar 3))) (rTest (rBin inD (rCon (.str "o")) (rVar 3)))) (rTest (rBin gtD (rCall g_law_take (rCons (rVar 0) (rCons (rCon (.int 3)) rNil))) (rCon (.int 0)))))
        (sAsg (.tp [1, 2]) (rBin ixD (rLst (rCons (rTup (rCons (rCon (.int 3)) (rCons (rCon (.int 16)) rNil))) (rCons (rTup (rCons (rCon (.int 3)) (rCons (rCon (.int 4)) rNil))) (rCons (rTup (rCons (rCon (.int 5)) (rCons (rCon (.int 9)) rNil))) (rCons (rTup (rCons (rCon (.int 0)) (rCons (rCon (.int 16)) rNil))) (rCons (rTup (rCons (rCon (.int 2)) (rCons (rCon (.int 5)) rNil))) rNil)))))) (rCall g_law_take (rCons (rVar 0) (rCons (rCon (.int 5)) rNil)))))
        sNil) [some (.loc n), some (.int l), some (.int h), some (.str (rs m)), none, none, none] S2).andThen k) = k [some (.loc n), some (.int l'), some (.int h'), some (.str (rs m)), none, none, none] S3 := by
      by_cases hco : (m.testBit 7 || m.testBit 8) = true
      · obtain ⟨r3, S3, t3, a3, b3, p3, _⟩ := take_okF 3 p2 (by omega) (by omega)
        by_cases c3 : 0 < r3
        · obtain ⟨r4, S4, t4, a4, b4, p4, _⟩ := take_okF 5 p3 (by omega) (by omega)
          obtain ⟨d, hd, hm⟩ := atI_mem (xs := [D.tup [.int 3, .int 16], .tup [.int 3, .int 4], .tup [.int 5, .int 9], .tup [.int 0, .int 16], .tup [.int 2, .int 5]]) a4 (by simpa using b4)
          obtain ⟨l', h', rfl, q0, q1, q2, q3⟩ : ∃ l' h' : Int, d = .tup [.int l', .int h'] ∧ 0 ≤ l' ∧ l' < h' ∧ h' ≤ 4096 ∧ exb l' h' = true := by
            simp only [List.mem_cons, List.not_mem_nil, or_false] at hm
            rcases hm with rfl | rfl | rfl | rfl | rfl <;> exact ⟨_, _, rfl, by decide, by decide, by decide, by decide⟩
          refine ⟨l', h', S4, p4, q0, q1, q2, q3, fun k => ?_⟩
          cases h7 : m.testBit 7 with
          | true =>
            rw [h7] at i7
            simp [i7, t3, c3, t4, ixD, hd]
          | false =>
            rw [h7] at i7 hco
            simp at hco
            rw [hco] at i8
            simp [i7, i8, t3, c3, t4, ixD, hd]
        · refine ⟨l, h, S3, p3, l0, l1, l2, l3, fun k => ?_⟩
          cases h7 : m.testBit 7 with
          | true =>
            rw [h7] at i7
            simp [i7, t3, c3]
          | false =>
            rw [h7] at i7 hco
            simp at hco
            rw [hco] at i8
            simp [i7, i8, t3, c3]
      · simp at hco
        rw [hco.1] at i7
        rw [hco.2] at i8
        exact ⟨l, h, S2, p2, l0, l1, l2, l3, fun k => by simp [i7, i8]⟩
    obtain ⟨l', h', S3, p3, q0, q1, q2, q3, bo⟩ := bo
    obtain ⟨r5, S5, t5, a5, b5, p5, _⟩ := take_okF (h' - l') p3 (by omega) (by omega)
    obtain ⟨r6, S6, t6, a6, b6, p6, _⟩ := take_okF 4096 p5 (by omega) (by omega)
    obtain ⟨r7, S7, t7, a7, b7, p7, _⟩ := take_okF 5 p6 (by omega) (by omega)
    obtain ⟨d2, hd2, hm2⟩ := atI_mem (xs := [D.int l', .int (h' - 1), .int (h' % 4096), .int (l' + r5), .int r6]) a7 (by simpa using b7)
    obtain ⟨at_, rfl, at0, at1⟩ : ∃ l, d2 = .int l ∧ 0 ≤ l ∧ l < 4096 := by
      simp only [List.mem_cons, List.not_mem_nil, or_false] at hm2
      rcases hm2 with rfl | rfl | rfl | rfl | rfl <;> exact ⟨_, rfl, by omega, by omega⟩
    obtain ⟨r8, S8, t8, a8, b8, p8, _⟩ := take_okF 16 p7 (by omega) (by omega)
    obtain ⟨r9, S9, t9, a9, b9, p9, _⟩ := take_okF 9 p8 (by omega) (by omega)
    obtain ⟨d3, hd3, hm3⟩ := atI_mem (xs := [D.int 0, .int 0, .int 0, .int 1, .int 2, .int 3, .int 4, .int 15, .int r8]) a9 (by simpa using b9)
    obtain ⟨k, rfl, k0, k1⟩ : ∃ l, d3 = .int l ∧ 0 ≤ l ∧ l < 16 := by
      simp only [List.mem_cons, List.not_mem_nil, or_false] at hm3
      rcases hm3 with rfl | rfl | rfl | rfl | rfl | rfl | rfl | rfl | rfl <;> exact ⟨_, rfl, by omega, by omega⟩
    have ok : Fd.ok ⟨l', h', at_, m, k⟩ := ⟨⟨q0, q1, q2, q3, at0, at1, m0, k0, k1⟩, m1⟩
    have mk := law_made_eq (S := S9) ok.1
    have lw := LW.of_fd ok
    generalize Fd.bits ⟨l', h', at_, m, k⟩ = B at *
    simp only at mk
    obtain ⟨r10, S10, t10, a10, b10, p10, _⟩ := take_okF 5 p9 (by omega) (by omega)
    obtain ⟨d4, hd4, hm4⟩ := atI_mem (xs := [D.tup [.bl true, .int B], .tup [.bl true, .int B], .tup [.bl true, .int B], .tup [.bl true, .int B], .tup [.bl false, .int B]]) a10 (by simpa using b10)
    obtain ⟨mm, rfl, lw'⟩ : ∃ mm, d4 = .tup [.bl mm, .int B] ∧ LW mm B := by
      simp only [List.mem_cons, List.not_mem_nil, or_false] at hm4
      rcases hm4 with rfl | rfl | rfl | rfl | rfl
      · exact ⟨_, rfl, lw⟩
      · exact ⟨_, rfl, lw⟩
      · exact ⟨_, rfl, lw⟩
      · exact ⟨_, rfl, lw⟩
      · exact ⟨_, rfl, lw.bare⟩
    refine ⟨mm, B, S10, ?_, p10, lw'⟩
    have ix1 : ∀ S : Store, ixD S (.tup [.bl true, .int B]) (.int 1) = some (.int B) := fun S => by simp [ixD, atI, ixN]
    have ixl : ∀ (S : Store) (xs : List D) (i : Int), ixD S (.lst xs) (.int i) = atI xs i := fun S xs i => by simp [ixD]
    unfold g_law_word runDef m_law_word
    rw [sSeq_eq]
    simp only [sIf_eq, rTest_eq, rBin_eq, rCall_eq, rCons_eq, rNil_eq, rVar_eq, rCon_eq, bind_ok, List.map_cons, List.map_nil, List.length_cons, List.length_nil]
    simp [t0, c0, t1, t2, -sIf_eq]
    rw [bo]
    simp [t5, t6, t7, ixl, hd2, t8, t9, hd3, mk, ix1, t10, hd4]
end Lw
namespace Lw
open PySem PySem.Spec L2 Ev
/-! ### what becomes of words, as pure functions -/
def wopen (m : Bool) (b : Int) : Bool := m && (bKnd b == 0)
def sBits (b l h : Int) : Int := Fd.bits ⟨l, h, bAt b, bMsk b, bKnd b⟩
def sMsk (b : Int) (m : Nat) : Int := Fd.bits ⟨bLow b, bHigh b, bAt b, m, bKnd b⟩
def sKnd (b k : Int) : Int := Fd.bits ⟨bLow b, bHigh b, bAt b, bMsk b, k⟩
/-- lawful rights, by their groups -/
def grp (m : Nat) : Bool := m.testBit 0 || m.testBit 1 || m.testBit 2 || m.testBit 3 || m.testBit 4
def lawF (a x c : Bool) : Bool := decide (((if a = true then 1 else 0) + (if x = true then 1 else 0) + (if c = true then 1 else 0)) ≤ 1)
theorem lawM_bits {m : Nat} (h : m < 512) : lawM m = lawF (grp m) (m.testBit 6) (m.testBit 7 || m.testBit 8) := by
  have d : ∀ j : Fin 512, lawM j.val = lawF (grp j.val) (j.val.testBit 6) (j.val.testBit 7 || j.val.testBit 8) := by decide +kernel
  exact d ⟨m, h⟩
theorem lawF_mono : ∀ a x c a' x' c' : Bool, (a' = true → a = true) → (x' = true → x = true) → (c' = true → c = true) → lawF a x c = true → lawF a' x' c' = true := by decide
theorem lawM_sub {m m' : Nat} (h : m < 512) (h' : m' < 512) (hs : ∀ i, i < 9 → m'.testBit i = true → m.testBit i = true) (hl : lawM m = true) : lawM m' = true := by
  rw [lawM_bits h] at hl
  rw [lawM_bits h']
  refine lawF_mono _ _ _ _ _ _ ?_ (hs 6 (by omega)) ?_ hl
  · unfold grp
    simp only [Bool.or_eq_true]
    rintro ((((a | a) | a) | a) | a)
    · exact .inl (.inl (.inl (.inl (hs 0 (by omega) a))))
    · exact .inl (.inl (.inl (.inr (hs 1 (by omega) a))))
    · exact .inl (.inl (.inr (hs 2 (by omega) a)))
    · exact .inl (.inr (hs 3 (by omega) a))
    · exact .inr (hs 4 (by omega) a)
  · simp only [Bool.or_eq_true]
    rintro (a | a)
    · exact .inl (hs 7 (by omega) a)
    · exact .inr (hs 8 (by omega) a)
theorem and_lt {m r : Nat} (h : m < 512) : m &&& r < 512 := Nat.lt_of_le_of_lt Nat.and_le_left h
theorem lawM_and {m r : Nat} (h : m < 512) (hl : lawM m = true) : lawM (m &&& r) = true := lawM_sub h (and_lt h) (fun i _ hi => by rw [Nat.testBit_and] at hi; simp at hi; exact hi.1) hl
/-- without f -/
def noF' (m : Nat) : Nat := m &&& 479
theorem bMsk_lt (b : Int) : bMsk b < 512 := by unfold bMsk; omega
theorem rc_and (m r : Nat) : (rc m).filter (fun c => decide (c ∈ rc r)) = rc (m &&& r) := by
  unfold rc pk
  rw [List.filter_map]
  congr 1
  rw [List.filter_filter]
  apply List.filter_congr
  intro i hi
  have hi9 := List.mem_range.mp hi
  simp only [Function.comp, Nat.testBit_and]
  have := mem_rc (m := r) hi9
  unfold rc pk at this
  rw [Bool.and_comm]
  congr 1
  rw [Bool.eq_iff_iff, decide_eq_true_eq]
  exact this
theorem rc_noF (m : Nat) : (rc m).filter (fun c => !decide (c = rg 5)) = rc (noF' m) := by
  unfold rc pk noF'
  rw [List.filter_map]
  congr 1
  rw [List.filter_filter]
  apply List.filter_congr
  intro i hi
  have hi9 := List.mem_range.mp hi
  simp only [Function.comp, Nat.testBit_and]
  have d : ∀ j : Fin 9, (!decide (rg j.val = rg 5)) = Nat.testBit 479 j.val := by decide
  rw [d ⟨i, hi9⟩, Bool.and_comm]
theorem lit_f : (Str.ofString "f") = sC [rg 5] := by decide +kernel
section
variable {S : Store} {b : Int}
theorem bare_eq {m : Ev.D} : g_bare [.tup [m, .int b]] S = .ok (.tup [.bl false, .int b]) S := by
  unfold g_bare runDef m_bare
  simp [ixD, atI, ixN]
theorem fields_lw {m : Ev.D} (h : LW true b) : g_fields_of [.tup [m, .int b]] S = .ok (fdOf b).D S := by
  rw [fields_eq h.1]
  unfold fD
  rw [if_pos (h.2.2 rfl).1]
  rfl
theorem is_open_eq {m : Bool} (h : LW m b) : g_is_open [.tup [.bl m, .int b]] S = .ok (.bl (wopen m b)) S := by
  unfold g_is_open runDef m_is_open
  cases m with
  | false => simp [ixD, atI, ixN, wopen]
  | true =>
    have f := fields_lw (m := .bl true) (S := S) h
    have i0 : ixD S (.tup [.bl true, .int b]) (.int 0) = some (.bl true) := by simp [ixD, atI, ixN]
    have i4 : ixD S (fdOf b).D (.int 4) = some (.int (bKnd b)) := rfl
    simp [i0, f, i4, wopen]
theorem LW.open_ {m : Bool} (h : LW m b) (ho : wopen m b = true) : m = true ∧ bKnd b = 0 ∧ LW true b := by
  unfold wopen at ho
  simp at ho
  obtain ⟨rfl, e⟩ := ho
  exact ⟨rfl, e, h⟩
theorem okMsk (h : LW true b) {m : Nat} (hm : m < 512) (hl : lawM m = true) : Fd.ok ⟨bLow b, bHigh b, bAt b, m, bKnd b⟩ := by
  obtain ⟨⟨g0, g1, g2, g3, g4, g5, g6, g7, g8⟩, _⟩ := h.fd.1
  exact ⟨⟨g0, g1, g2, g3, g4, g5, hm, g7, g8⟩, hl⟩
theorem okKnd (h : LW true b) {k : Int} (h0 : 0 ≤ k) (h1 : k < 16) : Fd.ok ⟨bLow b, bHigh b, bAt b, bMsk b, k⟩ := by
  obtain ⟨⟨g0, g1, g2, g3, g4, g5, g6, g7, g8⟩, hl⟩ := h.fd.1
  exact ⟨⟨g0, g1, g2, g3, g4, g5, g6, h0, h1⟩, hl⟩
theorem okBnd (h : LW true b) {l hh : Int} (h0 : 0 ≤ l) (h1 : l < hh) (h2 : hh ≤ 4096) (h3 : exb l hh = true) : Fd.ok ⟨l, hh, bAt b, bMsk b, bKnd b⟩ := by
  obtain ⟨⟨g0, g1, g2, g3, g4, g5, g6, g7, g8⟩, hl⟩ := h.fd.1
  exact ⟨⟨h0, h1, h2, h3, g4, g5, g6, g7, g8⟩, hl⟩
theorem with_rights_eq {mk : Bool} {m : Nat} (h : LW true b) (hm : m < 512) (hl : lawM m = true) : g_with_rights [.tup [.bl mk, .int b], .str (rs m)] S = .ok (.tup [.bl true, .int (sMsk b m)]) S := by
  have f := fields_lw (m := .bl mk) (S := S) h
  have w := word_of_fd (mk := .bl true) (S := S) (okMsk h hm hl)
  have pa : parts S (fdOf b).D = some [.int (bLow b), .int (bHigh b), .int (bAt b), .str (rs (bMsk b)), .int (bKnd b)] := rfl
  unfold Fd.D at w
  simp only at w
  unfold g_with_rights runDef m_with_rights
  simp [f, pa, w, sMsk]
theorem with_kind_eq {mk : Bool} {k : Int} (h : LW true b) (h0 : 0 ≤ k) (h1 : k < 16) : g_with_kind [.tup [.bl mk, .int b], .int k] S = .ok (.tup [.bl true, .int (sKnd b k)]) S := by
  have f := fields_lw (m := .bl mk) (S := S) h
  have w := word_of_fd (mk := .bl true) (S := S) (okKnd h h0 h1)
  have pa : parts S (fdOf b).D = some [.int (bLow b), .int (bHigh b), .int (bAt b), .str (rs (bMsk b)), .int (bKnd b)] := rfl
  unfold Fd.D at w
  simp only at w
  unfold g_with_kind runDef m_with_kind
  simp [f, pa, w, sKnd]
theorem with_bounds_eq {mk : Bool} {l hh : Int} (h : LW true b) (h0 : 0 ≤ l) (h1 : l < hh) (h2 : hh ≤ 4096) (h3 : exb l hh = true) : g_with_bounds [.tup [.bl mk, .int b], .int l, .int hh] S = .ok (.tup [.bl true, .int (sBits b l hh)]) S := by
  have f := fields_lw (m := .bl mk) (S := S) h
  have w := word_of_fd (mk := .bl true) (S := S) (okBnd h h0 h1 h2 h3)
  have pa : parts S (fdOf b).D = some [.int (bLow b), .int (bHigh b), .int (bAt b), .str (rs (bMsk b)), .int (bKnd b)] := rfl
  unfold Fd.D at w
  simp only at w
  unfold g_with_bounds runDef m_with_bounds
  simp [f, pa, w, sBits]
/-! walked -/
def wwalk (m : Bool) (b n : Int) : Bool × Int := if m = false ∨ wopen m b = true then (m, b - b % 4096 + (b + n) % 4096) else (false, b)
theorem walked_eq {m : Bool} {n : Int} (h : LW m b) : g_walked [.tup [.bl m, .int b], .int n] S = .ok (.tup [.bl (wwalk m b n).1, .int (wwalk m b n).2]) S := by
  have io := is_open_eq (S := S) h
  unfold g_walked runDef m_walked
  cases m with
  | false => simp [ixD, atI, ixN, wwalk]
  | true =>
    have bq := bare_eq (b := b) (S := S) (m := .bl true)
    cases ho : wopen true b <;> rw [ho] at io <;> simp [ixD, atI, ixN, wwalk, io, ho, bq]
/-! narrowed -/
def wnarrow (m : Bool) (b n : Int) (ex : Bool) : Bool × Int :=
  if wopen m b = true ∧ 1 ≤ n ∧ bAt b + n ≤ 4096 ∧ bLow b ≤ lhl (bAt b) (bAt b + n) ∧ lhh (bAt b) (bAt b + n) ≤ bHigh b ∧ (ex = true → exb (bAt b) (bAt b + n) = true) then (true, sBits b (lhl (bAt b) (bAt b + n)) (lhh (bAt b) (bAt b + n))) else (false, b)
theorem narrowed_eq {m ex : Bool} {n : Int} (h : LW m b) : g_narrowed [.tup [.bl m, .int b], .int n, .bl ex] S = .ok (.tup [.bl (wnarrow m b n ex).1, .int (wnarrow m b n ex).2]) S := by
  have io := is_open_eq (S := S) h
  have bq := bare_eq (b := b) (S := S) (m := .bl m)
  have at0 : 0 ≤ bAt b ∧ bAt b < 4096 := by unfold bAt; omega
  unfold g_narrowed runDef m_narrowed
  cases ho : wopen m b with
  | false =>
    rw [ho] at io
    simp [io, bq, wnarrow, ho]
  | true =>
    obtain ⟨rfl, hk, hw⟩ := h.open_ ho
    rw [ho] at io
    have f := fields_lw (m := .bl true) (S := S) hw
    have pa : parts S (fdOf b).D = some [.int (bLow b), .int (bHigh b), .int (bAt b), .str (rs (bMsk b)), .int (bKnd b)] := rfl
    by_cases c1 : n < 1
    · have c1' : ¬ 1 ≤ n := by omega
      simp [io, f, pa, c1, bq, wnarrow, c1']
    have c1' : 1 ≤ n := by omega
    by_cases c2 : 4096 < bAt b + n
    · have c2' : ¬ bAt b + n ≤ 4096 := by omega
      simp [io, f, pa, c1, c2, bq, wnarrow, c2']
    have c2' : bAt b + n ≤ 4096 := by omega
    have he := held_eq (S := S) at0.1 (by omega : bAt b < bAt b + n) c2'
    have hh := held_holds (bAt b) (bAt b + n)
    have hx := held_exact (l := bAt b) (h := bAt b + n) at0.1 c2'
    by_cases c3 : lhl (bAt b) (bAt b + n) < bLow b
    · have c3' : ¬ bLow b ≤ lhl (bAt b) (bAt b + n) := by omega
      simp [io, f, pa, c1, c2, he, c3, bq, wnarrow, c3']
    have c3' : bLow b ≤ lhl (bAt b) (bAt b + n) := by omega
    by_cases c4 : bHigh b < lhh (bAt b) (bAt b + n)
    · have c4' : ¬ lhh (bAt b) (bAt b + n) ≤ bHigh b := by omega
      simp [io, f, pa, c1, c2, he, c3, c4, bq, wnarrow, c4']
    have c4' : lhh (bAt b) (bAt b + n) ≤ bHigh b := by omega
    have wb := with_bounds_eq (mk := true) (S := S) hw (l := lhl (bAt b) (bAt b + n)) (hh := lhh (bAt b) (bAt b + n)) (lhl_nn at0.1) (by omega) (lhh_le at0.1 c2') hx
    cases ex with
    | false => simp [io, f, pa, c1, c2, he, c3, c4, wb, wnarrow, ho, c1', c2', c3', c4']
    | true =>
      by_cases ce : exb (bAt b) (bAt b + n) = true
      · have ce' := exb_iff.mp ce
        simp [io, f, pa, c1, c2, he, c3, c4, PyData.eqvAll, PyData.eqv, wnarrow, ho, c1', c2', c3', c4', ce]
        rw [ce'.1, ce'.2] at wb ⊢
        simp [wb]
      · have ce2 : ¬ (lhl (bAt b) (bAt b + n) = bAt b ∧ lhh (bAt b) (bAt b + n) = bAt b + n) := fun z => ce (exb_iff.mpr z)
        have ce3 : (lhl (bAt b) (bAt b + n) == bAt b && (lhh (bAt b) (bAt b + n) == bAt b + n)) = false := by
          rw [Bool.eq_false_iff]
          intro z
          simp at z
          exact ce2 z
        simp [io, f, pa, c1, c2, he, c3, c4, PyData.eqvAll, PyData.eqv, wnarrow, ce]
        by_cases e1 : lhl (bAt b) (bAt b + n) = bAt b
        · have e2 : ¬ lhh (bAt b) (bAt b + n) = bAt b + n := fun z => ce2 ⟨e1, z⟩
          simp [e1, e2, bq]
        · simp [e1, bq]
end
end Lw
namespace Lw
open PySem PySem.Spec L2 Ev
def subM (m m' : Nat) : Bool := (rc m).all fun c => decide (c ∈ rc m')
theorem subM_iff {m m' : Nat} : subM m m' = true ↔ ∀ i, i < 9 → m.testBit i = true → m'.testBit i = true := by
  unfold subM
  rw [List.all_eq_true]
  constructor
  · intro h i hi hb
    have := h (rg i) ((mem_rc hi).mpr hb)
    simp only [decide_eq_true_eq] at this
    exact (mem_rc hi).mp this
  · intro h c hc
    obtain ⟨i, hi, hb, rfl⟩ := mem_pk' hc
    exact decide_eq_true ((mem_rc hi).mpr (h i hi hb))
theorem subM_refl (m : Nat) : subM m m = true := subM_iff.mpr fun _ _ h => h
def knd (a b : Int) : Bool := a == b || (b == 0 && a != 2)
/-- one marked word within another -/
def lwb (a b : Int) : Bool := decide (bLow b ≤ bLow a) && (decide (bHigh a ≤ bHigh b) && (knd (bKnd a) (bKnd b) && subM (bMsk a) (bMsk b)))
theorem kinds_eq {S : Store} {a b : Int} : g_kinds_within [.int a, .int b] S = .ok (.bl (knd a b)) S := by
  unfold g_kinds_within runDef m_kinds_within knd
  cases h1 : a == b <;> cases h2 : b == 0 <;> cases h3 : a == 2 <;> simp [h1, h2, h3, bne]
theorem all_in {S : Store} {e : Ev.Env} {m m' : Nat} (he : e.length = 13) (h5 : e[5]? = some (some (.str (rs m)))) (h10 : e[10]? = some (some (.str (rs m')))) :
    rLc frzL (rIt (rVar 5)) (.nm 12) [12] rYes (rBin inD (rVar 12) (rVar 10)) e S = .ok (.lst ((rc m).map fun c => .bl (decide (c ∈ rc m')))) S := by
  have lc := rLc_map (it := rIt (rVar 5)) (t := .nm 12) (vs := [12]) (c := rYes) (elt := rBin inD (rVar 12) (rVar 10)) (e := e) (S := S) (h := fun c => D.str (sC [c])) (xs := rc m) (fun c => (e.set 12 none).set 12 (some (.str (sC [c])))) (fun _ => true) (fun c => .bl (decide (c ∈ rc m')))
    (by simp only [rIt_eq, rVar_eq, h5, bind_ok, rs_eq, itemsD, signs_sC, ofO_some]) (len_small (Nat.le_trans (rc_len m) (by decide)))
    (fun c hc => ⟨by simp [wipeE], rfl, fun _ => by
      have e1 : ((e.set 12 none).set 12 (some (.str (sC [c]))))[10]? = some (some (.str (rs m'))) := by simp [h10]
      have e2 : ((e.set 12 none).set 12 (some (.str (sC [c]))))[12]? = some (some (.str (sC [c]))) := by simp [he]
      rw [rBin_eq, rVar_eq, e2]
      simp only [bind_ok]
      rw [rVar_eq, e1]
      simp only [bind_ok, rs_eq, inD_one, ofO_some]⟩)
  rw [List.filter_eq_self.mpr (fun _ _ => rfl)] at lc
  exact lc
theorem allD_map {S : Store} (f : Nat → Bool) (l : List Nat) : allD S [.lst (l.map fun c => .bl (f c))] = some (.bl (l.all f)) := by
  unfold allD
  simp only [asL, Option.bind_some, allB_map']
  rw [List.all_map]
  rfl
theorem lies_within_eq {S : Store} {m m' : Bool} {a b : Int} (ha : LW true a) (hb : LW true b) : g_lies_within [.tup [.bl m, .int a], .tup [.bl m', .int b]] S = .ok (.bl (lwb a b)) S := by
  have fa := fields_lw (m := .bl m) (S := S) ha
  have fb := fields_lw (m := .bl m') (S := S) hb
  have pa : parts S (fdOf a).D = some [.int (bLow a), .int (bHigh a), .int (bAt a), .str (rs (bMsk a)), .int (bKnd a)] := rfl
  have pb : parts S (fdOf b).D = some [.int (bLow b), .int (bHigh b), .int (bAt b), .str (rs (bMsk b)), .int (bKnd b)] := rfl
  have kk := kinds_eq (S := S) (a := bKnd a) (b := bKnd b)
  unfold g_lies_within runDef m_lies_within lwb
  by_cases c1 : bLow a < bLow b
  · have c1' : ¬ bLow b ≤ bLow a := by omega
    simp [fa, fb, pa, pb, c1, c1']
  have c1' : bLow b ≤ bLow a := by omega
  by_cases c2 : bHigh b < bHigh a
  · have c2' : ¬ bHigh a ≤ bHigh b := by omega
    simp [fa, fb, pa, pb, c1, c1', c2, c2']
  have c2' : bHigh a ≤ bHigh b := by omega
  cases ck : knd (bKnd a) (bKnd b) with
  | false =>
    rw [ck] at kk
    simp [fa, fb, pa, pb, c1, c1', c2, c2', kk]
  | true =>
    rw [ck] at kk
    have al := fun x0 x1 x4 => all_in (S := S) (m := bMsk a) (m' := bMsk b) (e := [x0, x1, some (.int (bLow a)), some (.int (bHigh a)), x4, some (.str (rs (bMsk a))), some (.int (bKnd a)), some (.int (bLow b)), some (.int (bHigh b)), some (.int (bAt b)), some (.str (rs (bMsk b))), some (.int (bKnd b)), none]) rfl rfl rfl
    simp [fa, fb, pa, pb, c1, c1', c2, c2', kk, al, allD_map, subM]
/-! words made of a word lie within it -/
theorem fd_parts {f : Fd} (h : f.ok) : bLow f.bits = f.low ∧ bHigh f.bits = f.high ∧ bAt f.bits = f.at_ ∧ bMsk f.bits = f.m ∧ bKnd f.bits = f.k := by
  obtain ⟨p1, p2, p3, p4, p5, p6⟩ := h.1.parts
  exact ⟨h.1.low.1, h.1.low.2, p1, p5, p6⟩
theorem walk_parts {b n : Int} (h : LW true b) : LW true (b - b % 4096 + (b + n) % 4096) ∧ bLow (b - b % 4096 + (b + n) % 4096) = bLow b ∧ bHigh (b - b % 4096 + (b + n) % 4096) = bHigh b ∧ bMsk (b - b % 4096 + (b + n) % 4096) = bMsk b ∧ bKnd (b - b % 4096 + (b + n) % 4096) = bKnd b ∧ bAt (b - b % 4096 + (b + n) % 4096) = (bAt b + n) % 4096 := by
  obtain ⟨h0, h1, h2⟩ := h
  have eF : bFst (b - b % 4096 + (b + n) % 4096) = bFst b := by unfold bFst; omega
  have eC : bCnt (b - b % 4096 + (b + n) % 4096) = bCnt b := by unfold bCnt; omega
  have eS : bStp (b - b % 4096 + (b + n) % 4096) = bStp b := by unfold bStp; omega
  have eM : bMsk (b - b % 4096 + (b + n) % 4096) = bMsk b := by unfold bMsk; omega
  have eK : bKnd (b - b % 4096 + (b + n) % 4096) = bKnd b := by unfold bKnd; omega
  refine ⟨⟨by omega, by omega, fun _ => ?_⟩, by unfold bLow; rw [eF, eS], by unfold bHigh; rw [eF, eC, eS], eM, eK, by unfold bAt; omega⟩
  rw [eM]
  unfold tells
  rw [eF, eC, eS]
  exact h2 rfl
theorem LW.walk {m : Bool} {b n : Int} (h : LW m b) : LW (wwalk m b n).1 (wwalk m b n).2 := by
  unfold wwalk
  split
  · cases m with
    | false => exact ⟨by have := h.1; dsimp only; omega, by have := h.2.1; dsimp only; omega, fun z => by cases z⟩
    | true => exact (walk_parts h).1
  · exact h.bare
theorem knd_refl (k : Int) : knd k k = true := by simp [knd]
theorem walk_in {m : Bool} {b n : Int} (h : LW m b) (hm : (wwalk m b n).1 = true) : m = true ∧ lwb (wwalk m b n).2 b = true := by
  unfold wwalk at hm ⊢
  split at hm
  · rename_i hc
    simp only at hm
    subst hm
    rw [if_pos hc]
    obtain ⟨_, e1, e2, e3, e4, _⟩ := walk_parts (n := n) h
    refine ⟨rfl, ?_⟩
    unfold lwb
    simp only [e1, e2, e3, e4, knd_refl, subM_refl]
    simp
  · cases hm
theorem LW.narrow {m ex : Bool} {b n : Int} (h : LW m b) : LW (wnarrow m b n ex).1 (wnarrow m b n ex).2 := by
  unfold wnarrow
  split
  · rename_i hc
    obtain ⟨ho, h1, h2, h3, h4, _⟩ := hc
    obtain ⟨rfl, hk, hw⟩ := h.open_ ho
    have at0 : 0 ≤ bAt b ∧ bAt b < 4096 := by unfold bAt; omega
    have hh := held_holds (bAt b) (bAt b + n)
    exact LW.of_fd (okBnd hw (lhl_nn at0.1) (by omega) (lhh_le at0.1 h2) (held_exact at0.1 h2))
  · exact h.bare
theorem narrow_in {m ex : Bool} {b n : Int} (h : LW m b) (hm : (wnarrow m b n ex).1 = true) : m = true ∧ lwb (wnarrow m b n ex).2 b = true := by
  unfold wnarrow at hm ⊢
  split at hm
  · rename_i hc
    rw [if_pos hc]
    obtain ⟨ho, h1, h2, h3, h4, _⟩ := hc
    obtain ⟨rfl, hk, hw⟩ := h.open_ ho
    have at0 : 0 ≤ bAt b ∧ bAt b < 4096 := by unfold bAt; omega
    have hh := held_holds (bAt b) (bAt b + n)
    obtain ⟨e1, e2, e3, e4, e5⟩ := fd_parts (okBnd hw (lhl_nn at0.1) (by omega) (lhh_le at0.1 h2) (held_exact at0.1 h2))
    refine ⟨rfl, ?_⟩
    unfold lwb sBits
    simp only [e1, e2, e4, e5, knd_refl, subM_refl, h3, h4, decide_true, Bool.and_self]
  · cases hm
end Lw
namespace Lw
open PySem PySem.Spec L2 Ev
/-! ### lessened, sealed, opened, entry -/
theorem rs_filter {X : RE} {i : Nat} {cond : RT} {e : Ev.Env} {S : Store} {m m' : Nat} (q : Nat → Bool) (hX : X e S = .ok (.str (rs m)) S) (hi : i < e.length) (hc : ∀ c, cond ((e.set i none).set i (some (.str (sC [c])))) S = .ok (q c) S) (hf : (rc m).filter q = rc m') :
    rLc frzL (rIt X) (.nm i) [i] cond (rVar i) e S = .ok (.lst ((rc m').map fun c => .str (sC [c]))) S := by
  have lc := rLc_map (it := rIt X) (t := .nm i) (vs := [i]) (c := cond) (elt := rVar i) (e := e) (S := S) (h := fun c => D.str (sC [c])) (xs := rc m) (fun c => (e.set i none).set i (some (.str (sC [c])))) q (fun c => .str (sC [c]))
    (by simp only [rIt_eq, hX, bind_ok, rs_eq, itemsD, signs_sC, ofO_some]) (len_small (Nat.le_trans (rc_len m) (by decide)))
    (fun c hc' => ⟨by simp [wipeE], hc c, fun _ => by
      have : ((e.set i none).set i (some (.str (sC [c]))))[i]? = some (some (.str (sC [c]))) := by simp [hi]
      rw [rVar_eq, this]⟩)
  rw [hf] at lc
  exact lc
theorem ne_one {S : Store} (c d : Nat) : neD S (.str (sC [c])) (.str (sC [d])) = some (.bl (!decide (c = d))) := by
  rw [neD_eq, eqB_ss]
  have : (sC [c] == sC [d]) = decide (c = d) := by
    rw [Bool.eq_iff_iff, beq_iff_eq, sC_inj, decide_eq_true_eq]
    simp
  rw [this]
  rfl
theorem ne_oneB {S : Store} (c d : Nat) : (eqB S (.str (sC [c])) (.str (sC [d]))) = some (decide (c = d)) := by
  rw [eqB_ss]
  have : (sC [c] == sC [d]) = decide (c = d) := by
    rw [Bool.eq_iff_iff, beq_iff_eq, sC_inj, decide_eq_true_eq]
    simp
  rw [this]
def wless (m : Bool) (b : Int) (r : Nat) : Bool × Int := if wopen m b = true then (true, sMsk b (bMsk b &&& r)) else (false, b)
def wkt (m : Bool) (b : Int) (i : Nat) : Option Int := if wopen m b = true ∧ (bMsk b).testBit i = true ∧ bLow b ≤ bAt b ∧ bAt b < bHigh b ∧ 3 ≤ bAt b ∧ bAt b ≤ 15 then some (bAt b) else none
def wseal (m : Bool) (b : Int) (m' : Bool) (b' : Int) : Bool × Int := match wkt m' b' 7 with
  | some k => if wopen m b = true then (true, sKnd b k) else (false, b)
  | none => (false, b)
def oMsk (b b' : Int) : Nat := if (bMsk b').testBit 5 = true then bMsk b else noF' (bMsk b)
def oBits (b b' : Int) : Int := Fd.bits ⟨bLow b, bHigh b, bAt b, oMsk b b', 0⟩
def wopn (m : Bool) (b : Int) (m' : Bool) (b' : Int) : Bool × Int := match wkt m' b' 8 with
  | some k => if m = true ∧ bKnd b = k then (true, oBits b b') else (false, b)
  | none => (false, b)
def went (m : Bool) (b : Int) : Bool × Int := if wopen m b = true ∧ (bMsk b).testBit 6 = true then (true, sKnd b 1) else (false, b)
theorem join_rsS {m : Nat} {S : Store} : joinD S (.str (Str.ofString "")) [.lst ((rc m).map fun c => .str (sC [c]))] = some (.str (rs m), S) := join_rs
section
variable {S : Store} {b : Int} {m : Bool}
theorem lessened_eq {r : Nat} (h : LW m b) : g_lessened [.tup [.bl m, .int b], .str (rs r)] S = .ok (.tup [.bl (wless m b r).1, .int (wless m b r).2]) S := by
  have io := is_open_eq (S := S) h
  unfold g_lessened runDef m_lessened
  cases ho : wopen m b with
  | false =>
    have bq := bare_eq (b := b) (S := S) (m := .bl m)
    rw [ho] at io
    simp [io, bq, wless, ho]
  | true =>
    obtain ⟨rfl, hk, hw⟩ := h.open_ ho
    rw [ho] at io
    have f := fields_lw (m := .bl true) (S := S) hw
    have i3 : ixD S (fdOf b).D (.int 3) = some (.str (rs (bMsk b))) := rfl
    have fl := rs_filter (X := rBin ixD (rCall g_fields_of (rCons (rVar 0) rNil)) (rCon (.int 3))) (i := 2) (cond := rTest (rBin inD (rVar 2) (rVar 1))) (e := [some (.tup [.bl true, .int b]), some (.str (rs r)), none]) (S := S) (m := bMsk b) (m' := bMsk b &&& r) (fun c => decide (c ∈ rc r))
      (by simp [f, i3]) (by simp) (fun c => by simp [rs_eq, inD_one]) (rc_and _ _)
    have wr := with_rights_eq (mk := true) (S := S) hw (and_lt (bMsk_lt b) (r := r)) (lawM_and (bMsk_lt b) (hw.2.2 rfl).2)
    simp [io, fl, rMth, tyM, join_rsS, ofP, wr, wless, ho]
theorem LW.less {r : Nat} (h : LW m b) : LW (wless m b r).1 (wless m b r).2 := by
  unfold wless
  split
  · rename_i ho
    obtain ⟨rfl, hk, hw⟩ := h.open_ ho
    exact LW.of_fd (okMsk hw (and_lt (bMsk_lt b)) (lawM_and (bMsk_lt b) (hw.2.2 rfl).2))
  · exact h.bare
theorem kind_told_eq {i : Nat} (hi : i < 9) (h : LW m b) : g_kind_told [.tup [.bl m, .int b], .str (sC [rg i])] S = .ok (match wkt m b i with | some k => .int k | none => .non) S := by
  have io := is_open_eq (S := S) h
  unfold g_kind_told runDef m_kind_told
  cases ho : wopen m b with
  | false =>
    rw [ho] at io
    simp [io, wkt, ho]
  | true =>
    obtain ⟨rfl, hk, hw⟩ := h.open_ ho
    rw [ho] at io
    have f := fields_lw (m := .bl true) (S := S) hw
    have pa : parts S (fdOf b).D = some [.int (bLow b), .int (bHigh b), .int (bAt b), .str (rs (bMsk b)), .int (bKnd b)] := rfl
    have nm := nmem_rs (m := bMsk b) hi (S := S)
    cases hb : (bMsk b).testBit i with
    | false =>
      rw [hb] at nm
      simp [io, f, pa, nm, wkt, hb]
    | true =>
      rw [hb] at nm
      by_cases c1 : bLow b ≤ bAt b <;> by_cases c2 : bAt b < bHigh b <;> by_cases c3 : 3 ≤ bAt b <;> by_cases c4 : bAt b ≤ 15 <;> simp [io, f, pa, nm, wkt, ho, hb, c1, c2, c3, c4]
theorem wkt_rng {i : Nat} {k : Int} (h : wkt m b i = some k) : 3 ≤ k ∧ k ≤ 15 := by
  unfold wkt at h
  split at h
  · rename_i z
    cases h
    omega
  · cases h
theorem sealed_eq {m' : Bool} {b' : Int} (h : LW m b) (h' : LW m' b') : g_sealed [.tup [.bl m, .int b], .tup [.bl m', .int b']] S = .ok (.tup [.bl (wseal m b m' b').1, .int (wseal m b m' b').2]) S := by
  have io := is_open_eq (S := S) h
  have bq := bare_eq (b := b) (S := S) (m := .bl m)
  have kt := kind_told_eq (S := S) (i := 7) (by omega) h'
  rw [← lit_c] at kt
  unfold g_sealed runDef m_sealed
  cases hk : wkt m' b' 7 with
  | none =>
    rw [hk] at kt
    cases ho : wopen m b <;> rw [ho] at io <;> simp [kt, io, bq, wseal, hk]
  | some k =>
    rw [hk] at kt
    obtain ⟨k3, k15⟩ := wkt_rng hk
    have ni : isN S (.int k) .non = some (.bl false) := rfl
    cases ho : wopen m b with
    | false =>
      rw [ho] at io
      simp [kt, io, bq, wseal, hk, ho]
    | true =>
      obtain ⟨rfl, _, hw⟩ := h.open_ ho
      rw [ho] at io
      have wk := with_kind_eq (mk := true) (S := S) hw (k := k) (by omega) (by omega)
      simp [kt, io, ni, wk, wseal, hk, ho]
theorem LW.seal {m' : Bool} {b' : Int} (h : LW m b) : LW (wseal m b m' b').1 (wseal m b m' b').2 := by
  unfold wseal
  split
  · rename_i k hk
    obtain ⟨k3, k15⟩ := wkt_rng hk
    split
    · rename_i ho
      obtain ⟨rfl, _, hw⟩ := h.open_ ho
      exact LW.of_fd (okKnd hw (by omega) (by omega))
    · exact h.bare
  · exact h.bare
theorem noF_lt {m : Nat} (h : m < 512) : noF' m < 512 := and_lt h
theorem oMsk_ok {b' : Int} (h : LW true b) : oMsk b b' < 512 ∧ lawM (oMsk b b') = true := by
  unfold oMsk
  split
  · exact ⟨bMsk_lt b, (h.2.2 rfl).2⟩
  · exact ⟨noF_lt (bMsk_lt b), lawM_and (bMsk_lt b) (h.2.2 rfl).2⟩
theorem okO {b' : Int} (h : LW true b) : Fd.ok ⟨bLow b, bHigh b, bAt b, oMsk b b', 0⟩ := by
  obtain ⟨⟨g0, g1, g2, g3, g4, g5, g6, g7, g8⟩, _⟩ := h.fd.1
  exact ⟨⟨g0, g1, g2, g3, g4, g5, (oMsk_ok h).1, by show (0 : Int) ≤ 0; decide, by show (0 : Int) < 16; decide⟩, (oMsk_ok h).2⟩
theorem opened_by_eq {mk mk' : Bool} {b' : Int} (h : LW true b) (h' : LW true b') : g_opened_by [.tup [.bl mk, .int b], .tup [.bl mk', .int b']] S = .ok (.tup [.bl true, .int (oBits b b')]) S := by
  have wk := with_kind_eq (mk := mk) (S := S) h (k := 0) (by omega) (by omega)
  have f := fields_lw (m := .bl mk) (S := S) h
  have f' := fields_lw (m := .bl mk') (S := S) h'
  have i3 : ixD S (fdOf b).D (.int 3) = some (.str (rs (bMsk b))) := rfl
  have i3' : ixD S (fdOf b').D (.int 3) = some (.str (rs (bMsk b'))) := rfl
  have im := mem_rs (m := bMsk b') (i := 5) (by omega) (S := S)
  rw [← lit_f] at im
  unfold g_opened_by runDef m_opened_by
  cases hf : (bMsk b').testBit 5 with
  | true =>
    rw [hf] at im
    have e : oBits b b' = sKnd b 0 := by unfold oBits oMsk sKnd; rw [if_pos hf]
    simp [wk, f', i3', im, e]
  | false =>
    rw [hf] at im
    have ok0 := okKnd h (k := 0) (by omega) (by omega)
    have lw0 : LW true (sKnd b 0) := LW.of_fd ok0
    obtain ⟨e1, e2, e3, e4, e5⟩ := fd_parts ok0
    have wr := with_rights_eq (mk := true) (S := S) lw0 (noF_lt (bMsk_lt b)) (lawM_and (bMsk_lt b) (h.2.2 rfl).2)
    have e : sMsk (sKnd b 0) (noF' (bMsk b)) = oBits b b' := by
      unfold sMsk oBits oMsk
      rw [if_neg (by rw [hf]; decide)]
      unfold sKnd
      rw [e1, e2, e3, e5]
    rw [e] at wr
    have fl := rs_filter (X := rBin ixD (rCall g_fields_of (rCons (rVar 0) rNil)) (rCon (.int 3))) (i := 3) (cond := rTest (rBin neD (rVar 3) (rCon (.str "f")))) (e := [some (.tup [.bl mk, .int b]), some (.tup [.bl mk', .int b']), some (.tup [.bl true, .int (sKnd b 0)]), none]) (S := S) (m := bMsk b) (m' := noF' (bMsk b)) (fun c => !decide (c = rg 5))
      (by simp [f, i3]) (by simp) (fun c => by rw [lit_f]; simp [-eqB_ss, ne_oneB]) (rc_noF _)
    simp [wk, f', i3', im, fl, rMth, tyM, join_rsS, ofP, wr]
theorem opened_eq {m' : Bool} {b' : Int} (h : LW m b) (h' : LW m' b') : g_opened [.tup [.bl m, .int b], .tup [.bl m', .int b']] S = .ok (.tup [.bl (wopn m b m' b').1, .int (wopn m b m' b').2]) S := by
  have bq := bare_eq (b := b) (S := S) (m := .bl m)
  have kt := kind_told_eq (S := S) (i := 8) (by omega) h'
  rw [← lit_o] at kt
  have i0 : ixD S (.tup [.bl m, .int b]) (.int 0) = some (.bl m) := by simp [ixD, atI, ixN]
  unfold g_opened runDef m_opened
  cases m with
  | false =>
    cases hk : wkt m' b' 8 <;> rw [hk] at kt <;> simp [kt, i0, bq, wopn, hk]
  | true =>
    cases hk : wkt m' b' 8 with
    | none =>
      rw [hk] at kt
      simp [kt, i0, bq, wopn, hk]
    | some k =>
      rw [hk] at kt
      have ni : isN S (.int k) .non = some (.bl false) := rfl
      have f := fields_lw (m := .bl true) (S := S) h
      have i4 : ixD S (fdOf b).D (.int 4) = some (.int (bKnd b)) := rfl
      have hm' : m' = true ∧ LW true b' := by
        unfold wkt at hk
        split at hk
        · rename_i z
          obtain ⟨rfl, _, hw⟩ := h'.open_ z.1
          exact ⟨rfl, hw⟩
        · cases hk
      obtain ⟨rfl, hw'⟩ := hm'
      have ob := opened_by_eq (mk := true) (mk' := true) (S := S) h hw'
      by_cases ck : bKnd b = k
      · simp [kt, i0, ni, f, i4, ck, ob, wopn, hk]
      · simp [kt, i0, ni, f, i4, ck, bq, wopn, hk]
theorem LW.opn {m' : Bool} {b' : Int} (h : LW m b) : LW (wopn m b m' b').1 (wopn m b m' b').2 := by
  unfold wopn
  split
  · split
    · rename_i z
      obtain ⟨rfl, _⟩ := z
      exact LW.of_fd (okO h)
    · exact h.bare
  · exact h.bare
theorem entry_eq (h : LW m b) : g_entry [.tup [.bl m, .int b]] S = .ok (.tup [.bl (went m b).1, .int (went m b).2]) S := by
  have io := is_open_eq (S := S) h
  have bq := bare_eq (b := b) (S := S) (m := .bl m)
  unfold g_entry runDef m_entry
  cases ho : wopen m b with
  | false =>
    rw [ho] at io
    simp [io, bq, went, ho]
  | true =>
    obtain ⟨rfl, hk, hw⟩ := h.open_ ho
    rw [ho] at io
    have f := fields_lw (m := .bl true) (S := S) hw
    have i3 : ixD S (fdOf b).D (.int 3) = some (.str (rs (bMsk b))) := rfl
    have nm := nmem_rs (m := bMsk b) (i := 6) (by omega) (S := S)
    rw [← lit_x] at nm
    have wk := with_kind_eq (mk := true) (S := S) hw (k := 1) (by omega) (by omega)
    cases hb : (bMsk b).testBit 6 <;> rw [hb] at nm <;> simp [io, f, i3, nm, bq, wk, went, ho, hb]
theorem LW.ent (h : LW m b) : LW (went m b).1 (went m b).2 := by
  unfold went
  split
  · rename_i z
    obtain ⟨rfl, _, hw⟩ := h.open_ z.1
    exact LW.of_fd (okKnd hw (by omega) (by omega))
  · exact h.bare
end
end Lw
namespace Lw
open PySem PySem.Spec L2 Ev
/-! ### words above: what seals may be opened, as lists of bits -/
def kc (w o : Int) : Bool := decide (2 < bKnd w) && (decide (bKnd o = 0) && ((bMsk o).testBit 8 && (decide (bLow o ≤ bKnd w) && decide (bKnd w < bHigh o))))
def stA (w o : Int) (M : List Int) : List Int := if kc w o = true ∧ sKnd w 0 ∉ M then M ++ [sKnd w 0] else M
def inn (L : List Int) (w : Int) (M : List Int) : List Int := L.foldl (fun M o => stA w o M) M
def turnA (L : List Int) : List Int := L.foldl (fun M w => inn M w M) L
def turnN : Nat → List Int → List Int
  | 0, L => L
  | n + 1, L => turnN n (turnA L)
def closedA (L : List Int) : Prop := ∀ w ∈ L, ∀ o ∈ L, kc w o = true → sKnd w 0 ∈ L
theorem knd_sKnd {b k : Int} (h : LW true b) (h0 : 0 ≤ k) (h1 : k < 16) : LW true (sKnd b k) ∧ bLow (sKnd b k) = bLow b ∧ bHigh (sKnd b k) = bHigh b ∧ bMsk (sKnd b k) = bMsk b ∧ bKnd (sKnd b k) = k := by
  have ok := okKnd h h0 h1
  obtain ⟨e1, e2, e3, e4, e5⟩ := fd_parts ok
  exact ⟨LW.of_fd ok, e1, e2, e4, e5⟩
/-- what has come beside the first ones -/
structure GA (I M : List Int) : Prop where
  lw : ∀ x ∈ M, LW true x
  ext : ∃ A, M = I ++ A ∧ A.Nodup ∧ ∀ x ∈ A, bKnd x = 0 ∧ ∃ w ∈ I, 2 < bKnd w ∧ x = sKnd w 0
theorem GA.st {I M L : List Int} {w o : Int} (g : GA I M) (gl : GA I L) (hw : w ∈ L) : GA I (stA w o M) := by
  unfold stA
  split
  · rename_i hc
    obtain ⟨hk, hn⟩ := hc
    have k2 : 2 < bKnd w := by unfold kc at hk; simp at hk; exact hk.1
    have lw := gl.lw w hw
    obtain ⟨l0, _, _, _, e5⟩ := knd_sKnd lw (k := 0) (by omega) (by omega)
    obtain ⟨A, rfl, nd, hA⟩ := g.ext
    refine ⟨fun x hx => ?_, A ++ [sKnd w 0], by simp, ?_, fun x hx => ?_⟩
    · rcases List.mem_append.mp hx with hx | hx
      · exact g.lw x hx
      · rw [List.mem_singleton.mp hx]; exact l0
    · rw [List.nodup_append]
      refine ⟨nd, by simp, fun a ha b hb e => ?_⟩
      rw [List.mem_singleton.mp hb] at e
      exact hn (List.mem_append_right _ (e ▸ ha))
    · rcases List.mem_append.mp hx with hx | hx
      · exact hA x hx
      · rw [List.mem_singleton.mp hx]
        refine ⟨e5, w, ?_, k2, rfl⟩
        obtain ⟨B, rfl, _, hB⟩ := gl.ext
        rcases List.mem_append.mp hw with z | z
        · exact z
        · have := (hB w z).1; omega
  · exact g
theorem sub_st (w o : Int) (M : List Int) : ∃ A, stA w o M = M ++ A := by
  unfold stA
  split
  · exact ⟨_, rfl⟩
  · exact ⟨[], by simp⟩
theorem fold_pre {A : Type} (f : List Int → A → List Int) (h : ∀ M a, ∃ B, f M a = M ++ B) : ∀ (as : List A) (M : List Int), ∃ B, as.foldl f M = M ++ B
  | [], M => ⟨[], by simp⟩
  | a :: as, M => by
    obtain ⟨B, e⟩ := h M a
    obtain ⟨B2, e2⟩ := fold_pre f h as (f M a)
    exact ⟨B ++ B2, by rw [List.foldl_cons, e2, e, List.append_assoc]⟩
theorem inn_pre (L : List Int) (w : Int) (M : List Int) : ∃ A, inn L w M = M ++ A := fold_pre _ (fun M o => sub_st w o M) L M
theorem turn_pre (L : List Int) : ∃ A, turnA L = L ++ A := fold_pre _ (fun M w => inn_pre M w M) L L
theorem fold_inv {A : Type} {P : List Int → Prop} (f : List Int → A → List Int) : ∀ (as : List A) (M : List Int), (∀ a ∈ as, ∀ M, P M → P (f M a)) → P M → P (as.foldl f M)
  | [], M, _, h => h
  | a :: as, M, hs, h => fold_inv f as (f M a) (fun b hb => hs b (List.mem_cons_of_mem _ hb)) (hs a List.mem_cons_self M h)
theorem GA.inn {I M L N : List Int} {w : Int} (g : GA I M) (gl : GA I L) (hw : w ∈ L) : GA I (inn N w M) := fold_inv (P := GA I) _ N M (fun o _ M h => h.st gl hw) g
theorem GA.turn {I L : List Int} (g : GA I L) : GA I (turnA L) := fold_inv (P := GA I) _ L L (fun w hw M h => h.inn g hw) g
/-- what a fold does at one of its items stays -/
theorem fold_mem {A : Type} {x : Int} {L : List Int} (f : List Int → A → List Int) (h : ∀ M a, ∃ B, f M a = M ++ B) : ∀ (as : List A) (M : List Int) (a : A), (∃ B, M = L ++ B) → a ∈ as → (∀ M, (∃ B, M = L ++ B) → x ∈ f M a) → x ∈ as.foldl f M
  | b :: as, M, a, hM, ha, hx => by
    rcases List.mem_cons.mp ha with rfl | ha
    · obtain ⟨B, e⟩ := fold_pre f h as (f M a)
      rw [List.foldl_cons, e]
      exact List.mem_append_left _ (hx M hM)
    · obtain ⟨B, rfl⟩ := hM
      obtain ⟨B2, e⟩ := h (L ++ B) b
      exact fold_mem f h as (f (L ++ B) b) a ⟨B ++ B2, by rw [e, List.append_assoc]⟩ ha hx
theorem mem_st {w o : Int} (hk : kc w o = true) (M : List Int) : sKnd w 0 ∈ stA w o M := by
  unfold stA
  split
  · simp
  · rename_i hc
    exact Classical.byContradiction fun z => hc ⟨hk, z⟩
theorem mem_turn {L : List Int} {w o : Int} (hw : w ∈ L) (ho : o ∈ L) (hk : kc w o = true) : sKnd w 0 ∈ turnA L :=
  fold_mem (L := L) _ (fun M w => inn_pre M w M) L L w ⟨[], by simp⟩ hw fun M ⟨B, hB⟩ => fold_mem (L := []) _ (fun M o => sub_st w o M) M M o ⟨M, rfl⟩ (by rw [hB]; exact List.mem_append_left _ ho) fun M _ => mem_st hk M
theorem st_closed {L M : List Int} {w o : Int} (h : closedA L) (hw : w ∈ L) (ho : o ∈ L) (hM : M = L) : stA w o M = L := by
  subst hM
  unfold stA
  rw [if_neg]
  rintro ⟨a, b⟩
  exact b (h w hw o ho a)
theorem turn_closed {L : List Int} (h : closedA L) : turnA L = L :=
  fold_inv (P := fun M => M = L) _ L L (fun w hw M hM => fold_inv (P := fun M => M = L) _ M M (fun o ho N hN => st_closed h hw (hM ▸ ho) hN) hM) rfl
theorem turnN_closed {L : List Int} (h : closedA L) : ∀ n, turnN n L = L
  | 0 => rfl
  | n + 1 => by unfold turnN; rw [turn_closed h]; exact turnN_closed h n
theorem turn_grow {L : List Int} (h : ¬ closedA L) : L.length < (turnA L).length := by
  obtain ⟨A, e⟩ := turn_pre L
  cases A with
  | nil =>
    exfalso
    apply h
    intro w hw o ho hk
    have := mem_turn hw ho hk
    rw [e, List.append_nil] at this
    exact this
  | cons a A => rw [e]; simp
theorem turnN_grow : ∀ (n : Nat) {I L : List Int}, GA I L → GA I (turnN n L) ∧ (∃ A, turnN n L = L ++ A) ∧ (closedA (turnN n L) ∨ L.length + n ≤ (turnN n L).length)
  | 0, I, L, g => ⟨g, ⟨[], by simp [turnN]⟩, .inr (by simp [turnN])⟩
  | n + 1, I, L, g => by
    by_cases h : closedA L
    · rw [turnN_closed h]
      exact ⟨g, ⟨[], by simp⟩, .inl h⟩
    · obtain ⟨a, ⟨A, b⟩, c⟩ := turnN_grow n g.turn
      obtain ⟨B, e⟩ := turn_pre L
      have gr := turn_grow h
      refine ⟨a, ⟨B ++ A, ?_⟩, ?_⟩
      · show turnN n (turnA L) = _
        rw [b, e, List.append_assoc]
      · rcases c with c | c
        · exact .inl c
        · right
          show _ ≤ (turnN n (turnA L)).length
          omega
theorem nodup_len {A : Type} [DecidableEq A] : ∀ (xs ys : List A), xs.Nodup → (∀ x ∈ xs, x ∈ ys) → xs.length ≤ ys.length
  | [], ys, _, _ => by simp
  | x :: xs, ys, nd, h => by
    have hx := h x List.mem_cons_self
    have := nodup_len xs (ys.erase x) (List.nodup_cons.mp nd).2 fun y hy => by
      have : y ≠ x := fun e => (List.nodup_cons.mp nd).1 (e ▸ hy)
      exact (List.mem_erase_of_ne this).mpr (h y (List.mem_cons_of_mem _ hy))
    rw [List.length_erase_of_mem hx] at this
    have := List.length_pos_of_mem hx
    simp
    omega
/-- six turns are enough where at most five of the first words are sealed -/
theorem above_closed {J : List Int} {z : Int} {n : Nat} (hJ : J.length < n) (hl : ∀ x ∈ J ++ [z], LW true x) (hz : bKnd z = 0) : closedA (turnN n (J ++ [z])) ∧ (∀ x ∈ J ++ [z], x ∈ turnN n (J ++ [z])) ∧ (∀ x ∈ turnN n (J ++ [z]), LW true x) ∧ (turnN n (J ++ [z])).length ≤ 2 * n := by
  have g : GA (J ++ [z]) (J ++ [z]) := ⟨hl, [], by simp, .nil, fun x hx => nomatch hx⟩
  obtain ⟨g2, ⟨A, e⟩, c⟩ := turnN_grow n g
  obtain ⟨B, e2, nd, hB⟩ := g2.ext
  have eAB : A = B := List.append_cancel_left (e.symm.trans e2)
  subst eAB
  have len : A.length ≤ (J.map fun w => sKnd w 0).length := nodup_len _ _ nd fun x hx => by
    obtain ⟨_, w, hw, k2, rfl⟩ := hB x hx
    rcases List.mem_append.mp hw with hw | hw
    · exact List.mem_map.mpr ⟨w, hw, rfl⟩
    · rw [List.mem_singleton.mp hw, hz] at k2; omega
  rw [List.length_map] at len
  refine ⟨?_, fun x hx => by rw [e]; exact List.mem_append_left _ hx, g2.lw, by rw [e]; simp; omega⟩
  rcases c with c | c
  · exact c
  · exfalso
    rw [e] at c
    simp at c
    omega
/-! ### what is made lies within -/
theorem lwb_iff {a b : Int} : lwb a b = true ↔ bLow b ≤ bLow a ∧ bHigh a ≤ bHigh b ∧ knd (bKnd a) (bKnd b) = true ∧ ∀ i, i < 9 → (bMsk a).testBit i = true → (bMsk b).testBit i = true := by
  unfold lwb
  simp only [Bool.and_eq_true, decide_eq_true_eq, subM_iff]
theorem knd_iff {a b : Int} : knd a b = true ↔ a = b ∨ (b = 0 ∧ a ≠ 2) := by
  unfold knd
  simp
theorem lwb_trans {a b c : Int} (h : lwb a b = true) (h2 : lwb b c = true) : lwb a c = true := by
  rw [lwb_iff] at *
  obtain ⟨h1, h2', h3, h4⟩ := h
  obtain ⟨k1, k2, k3, k4⟩ := h2
  refine ⟨by omega, by omega, ?_, fun i hi hb => k4 i hi (h4 i hi hb)⟩
  rw [knd_iff] at *
  omega
theorem lwb_refl (b : Int) : lwb b b = true := lwb_iff.mpr ⟨by omega, by omega, knd_iff.mpr (.inl rfl), fun _ _ h => h⟩
theorem less_in {m : Bool} {b : Int} {r : Nat} (h : LW m b) (hm : (wless m b r).1 = true) : m = true ∧ lwb (wless m b r).2 b = true := by
  unfold wless at hm ⊢
  split at hm
  · rename_i ho
    rw [if_pos ho]
    obtain ⟨rfl, hk, hw⟩ := h.open_ ho
    obtain ⟨e1, e2, e3, e4, e5⟩ := fd_parts (okMsk hw (and_lt (bMsk_lt b) (r := r)) (lawM_and (bMsk_lt b) (hw.2.2 rfl).2))
    refine ⟨rfl, lwb_iff.mpr ?_⟩
    unfold sMsk
    simp only [e1, e2, e4, e5]
    exact ⟨by omega, by omega, knd_iff.mpr (.inl rfl), fun i hi hb => by rw [Nat.testBit_and] at hb; simp at hb; exact hb.1⟩
  · cases hm
theorem seal_in {m m' : Bool} {b b' : Int} (h : LW m b) (hm : (wseal m b m' b').1 = true) : m = true ∧ lwb (wseal m b m' b').2 b = true := by
  unfold wseal at hm ⊢
  split at hm
  · rename_i k hk
    obtain ⟨k3, k15⟩ := wkt_rng hk
    split at hm
    · rename_i ho
      simp only [if_pos ho]
      obtain ⟨rfl, h0, hw⟩ := h.open_ ho
      obtain ⟨_, e1, e2, e4, e5⟩ := knd_sKnd hw (k := k) (by omega) (by omega)
      refine ⟨rfl, lwb_iff.mpr ?_⟩
      rw [e1, e2, e4, e5]
      exact ⟨by omega, by omega, knd_iff.mpr (.inr ⟨h0, by omega⟩), fun _ _ h => h⟩
    · cases hm
  · cases hm
theorem ent_in {m : Bool} {b : Int} (h : LW m b) (hm : (went m b).1 = true) : m = true ∧ lwb (went m b).2 b = true := by
  unfold went at hm ⊢
  split at hm
  · rename_i ho
    rw [if_pos ho]
    obtain ⟨rfl, h0, hw⟩ := h.open_ ho.1
    obtain ⟨_, e1, e2, e4, e5⟩ := knd_sKnd hw (k := 1) (by omega) (by omega)
    refine ⟨rfl, lwb_iff.mpr ?_⟩
    rw [e1, e2, e4, e5]
    exact ⟨by omega, by omega, knd_iff.mpr (.inr ⟨h0, by omega⟩), fun _ _ h => h⟩
  · cases hm
theorem opn_in {m m' : Bool} {b b' : Int} {L : List Int} (h : LW m b) (h' : LW m' b') (hl : ∀ x ∈ L, LW true x) (hc : closedA L) (hb : m = true → ∃ a ∈ L, lwb b a = true) (hb' : m' = true → ∃ a ∈ L, lwb b' a = true) (hm : (wopn m b m' b').1 = true) : m = true ∧ ∃ a ∈ L, lwb (wopn m b m' b').2 a = true := by
  unfold wopn at hm ⊢
  split at hm
  · rename_i k hk
    split at hm
    · rename_i ho
      simp only [if_pos ho]
      obtain ⟨rfl, rfl⟩ := ho
      refine ⟨rfl, ?_⟩
      obtain ⟨a, ha, ia⟩ := hb rfl
      unfold wkt at hk
      split at hk
      · rename_i z
        obtain ⟨zo, zb, z1, z2, z3, z4⟩ := z
        obtain ⟨rfl, k0, _⟩ := h'.open_ zo
        obtain ⟨o, ho, io⟩ := hb' rfl
        injection hk with hk
        rw [hk] at z1 z2 z3 z4
        obtain ⟨f1, f2, f3, f4, f5⟩ := fd_parts (okO (b' := b') h)
        have msub : ∀ i, i < 9 → (oMsk b b').testBit i = true → (bMsk b).testBit i = true := fun i hi hx => by
          unfold oMsk at hx
          split at hx
          · exact hx
          · unfold noF' at hx
            rw [Nat.testBit_and] at hx
            simp at hx
            exact hx.1
        rw [lwb_iff] at ia io
        obtain ⟨a1, a2, a3, a4⟩ := ia
        obtain ⟨o1, o2, o3, o4⟩ := io
        rw [knd_iff] at a3 o3
        have ok0 : bKnd o = 0 := by omega
        by_cases c : bKnd a = 0
        · refine ⟨a, ha, lwb_iff.mpr ?_⟩
          unfold oBits
          rw [f1, f2, f4, f5]
          exact ⟨a1, a2, knd_iff.mpr (.inl c.symm), fun i hi hx => a4 i hi (msub i hi hx)⟩
        · have ek : bKnd b = bKnd a := by omega
          have kk : kc a o = true := by
            unfold kc
            simp only [Bool.and_eq_true, decide_eq_true_eq]
            exact ⟨by omega, ok0, o4 8 (by omega) zb, by omega, by omega⟩
          obtain ⟨_, e1, e2, e4, e5⟩ := knd_sKnd (hl a ha) (k := 0) (by omega) (by omega)
          refine ⟨sKnd a 0, hc a ha o ho kk, lwb_iff.mpr ?_⟩
          unfold oBits
          rw [f1, f2, f4, f5, e1, e2, e4, e5]
          exact ⟨a1, a2, knd_iff.mpr (.inl rfl), fun i hi hx => a4 i hi (msub i hi hx)⟩
      · cases hk
    · cases hm
  · cases hm
end Lw
namespace Lw
open PySem PySem.Spec L2 Ev
/-! ### the law's own look for words above -/
def wd (b : Int) : Ev.D := .tup [.bl true, .int b]
theorem pyD_wd {S : Store} {n : Nat} (b : Int) : pyD S (n + 1) (wd b) = some (.tuple [.bool true, .int b]) := by
  unfold wd
  simp [pyD]
theorem pyAll_wds {S : Store} {n : Nat} : ∀ M : List Int, pyAll (pyD S (n + 1)) (M.map wd) = some (M.map fun b => .tuple [.bool true, .int b])
  | [] => rfl
  | b :: M => by simp [pyD_wd, pyAll_wds M]
theorem inAny_wds (x : Int) (M : List Int) : inAny (M.map fun b => .tuple [.bool true, .int b]) (.tuple [.bool true, .int x]) = decide (x ∈ M) := by
  unfold inAny
  rw [List.any_map, Bool.eq_iff_iff, List.any_eq_true, decide_eq_true_eq]
  constructor
  · rintro ⟨y, hy, e⟩
    simp [PyData.eqv, PyData.eqvAll] at e
    exact e ▸ hy
  · intro h
    exact ⟨x, h, by simp [PyData.eqv, PyData.eqvAll]⟩
theorem nin_wd {S : Store} {f : Nat} {M : List Int} {x : Int} (h : S[f]? = some (.lst (M.map wd))) : ninD S (wd x) (.loc f) = some (.bl (!decide (x ∈ M))) := by
  have h1 : pyD S deepN (wd x) = some (.tuple [.bool true, .int x]) := pyD_wd x
  have h2 : pyD S deepN (.loc f) = some (.list (M.map fun b => .tuple [.bool true, .int b])) := by
    show pyD S (58 + 1 + 1) (.loc f) = _
    unfold pyD
    rw [h]
    dsimp only
    rw [pyAll_wds]
    rfl
  unfold ninD
  have e : inB S (wd x) (.loc f) = some (decide (x ∈ M)) := by
    rw [← inAny_wds x M]
    show ((pyD S deepN (wd x)).bind fun x => (pyD S deepN (.loc f)).bind fun y => (seqP y).bind fun ps => some (inAny ps x)) = _
    rw [h1, h2]
    rfl
  rw [e]
  rfl
theorem law_with_kind_eq {S : Store} {b : Int} {m : Bool} (h : LW true b) : g_law_with_kind [.tup [.bl m, .int b], .int 0] S = .ok (wd (sKnd b 0)) S := by
  have f := law_fieldsW (m := .bl m) (S := S) h.1
  have e : fD b = (fdOf b).D := by
    unfold fD
    rw [if_pos (h.2.2 rfl).1]
    rfl
  rw [e] at f
  have pa : parts S (fdOf b).D = some [.int (bLow b), .int (bHigh b), .int (bAt b), .str (rs (bMsk b)), .int (bKnd b)] := rfl
  have mk := law_made_eq (S := S) (okKnd h (k := 0) (by omega) (by omega)).1
  simp only at mk
  unfold g_law_with_kind runDef m_law_with_kind
  simp [f, pa, mk, wd, sKnd]
theorem law_fields_lw {S : Store} {b : Int} {m : Ev.D} (h : LW true b) : g_law_fields [.tup [m, .int b]] S = .ok (fdOf b).D S := by
  rw [law_fieldsW (m := m) (S := S) h.1]
  unfold fD
  rw [if_pos (h.2.2 rfl).1]
  rfl
/-- the store, but for the found ones at f -/
def FA (T S : Store) (f : Nat) (M : List Int) : Prop := S[f]? = some (.lst (M.map wd)) ∧ S.length = T.length ∧ ∀ k, k ≠ f → S[k]? = T[k]?
theorem FA.put {T S : Store} {f : Nat} {M N : List Int} (h : FA T S f M) : FA T (S.set f (.lst (N.map wd))) f N := by
  have hl : f < S.length := (List.getElem?_eq_some_iff.mp h.1).1
  exact ⟨List.getElem?_set_self hl, by rw [List.length_set, h.2.1], fun k hk => by rw [List.getElem?_set_ne (Ne.symm hk)]; exact h.2.2 k hk⟩
theorem GA.len {I M : List Int} (g : GA I M) : M.length ≤ 2 * I.length := by
  obtain ⟨A, rfl, nd, hA⟩ := g.ext
  have := nodup_len A (I.map fun w => sKnd w 0) nd fun x hx => by
    obtain ⟨_, w, hw, _, rfl⟩ := hA x hx
    exact List.mem_map.mpr ⟨w, hw, rfl⟩
  simp at this ⊢
  omega
theorem lb1_ok {T S : Store} {f : Nat} {I L M : List Int} {w o : Int} (hI : I.length ≤ 1000) (fa : FA T S f M) (g : GA I M) (gl : GA I L) (hw : w ∈ L) (lo : LW true o) {x0 x3 x6 x7 x8 x9 x10 x11 : Option Ev.D} :
    ∃ S' y6 y7 y8 y9 y10 y11, lb1_law_above [x0, some (.loc f), some (wd w), x3, some (.int (bKnd w)), some (wd o), x6, x7, x8, x9, x10, x11] S = .nx [x0, some (.loc f), some (wd w), x3, some (.int (bKnd w)), some (wd o), y6, y7, y8, y9, y10, y11] S' ∧ FA T S' f (stA w o M) := by
  have lw := gl.lw w hw
  have f1 := law_fields_lw (m := .bl true) (S := S) lo
  have wk := law_with_kind_eq (m := true) (S := S) lw
  have pa : parts S (fdOf o).D = some [.int (bLow o), .int (bHigh o), .int (bAt o), .str (rs (bMsk o)), .int (bKnd o)] := rfl
  have im := mem_rs (m := bMsk o) (i := 8) (by omega) (S := S)
  rw [← lit_o] at im
  have nw := nin_wd (x := sKnd w 0) fa.1
  have gl2 := g.len
  have hz : M.length < sizeLine := Nat.lt_of_le_of_lt (show M.length ≤ 2000 by omega) (by decide)
  have ap : ∀ x, rMth "list" appendL (rVar 1) (rCons (rVar 11) rNil) [x0, some (.loc f), some (wd w), x3, some (.int (bKnd w)), some (wd o), some (.int (bLow o)), some (.int (bHigh o)), some (.int (bAt o)), some (.str (rs (bMsk o))), some (.int (bKnd o)), some (wd x)] S = .ok .non (S.set f (.lst ((M ++ [x]).map wd))) := fun x => by
    simp [rMth, tyM, fa.1, appendL, hz, ofP]
  unfold lb1_law_above stA kc
  generalize sKnd w 0 = B at *
  have f1' : g_law_fields [wd o] S = .ok (fdOf o).D S := f1
  have wk' : g_law_with_kind [wd w, .int 0] S = .ok (wd B) S := wk
  by_cases c1 : 2 < bKnd w
  rotate_left
  · refine ⟨S, _, _, _, _, _, _, by simp [f1', pa, wk', c1]; exact ⟨rfl, rfl, rfl, rfl, rfl, rfl⟩, ?_⟩
    simp [c1]
    exact fa
  by_cases c2 : bKnd o = 0
  rotate_left
  · refine ⟨S, _, _, _, _, _, _, by simp [f1', pa, wk', c1, c2]; exact ⟨rfl, rfl, rfl, rfl, rfl, rfl⟩, ?_⟩
    simp [c1, c2]
    exact fa
  cases c3 : (bMsk o).testBit 8 with
  | false =>
    rw [c3] at im
    refine ⟨S, _, _, _, _, _, _, by simp [f1', pa, wk', c1, c2, im]; exact ⟨rfl, rfl, rfl, rfl, rfl, rfl⟩, ?_⟩
    simp [c1, c2]
    exact fa
  | true =>
  rw [c3] at im
  by_cases c4 : bLow o ≤ bKnd w
  rotate_left
  · refine ⟨S, _, _, _, _, _, _, by simp [f1', pa, wk', c1, c2, im, c4]; exact ⟨rfl, rfl, rfl, rfl, rfl, rfl⟩, ?_⟩
    simp [c1, c2, c4]
    exact fa
  by_cases c5 : bKnd w < bHigh o
  rotate_left
  · refine ⟨S, _, _, _, _, _, _, by simp [f1', pa, wk', c1, c2, im, c4, c5]; exact ⟨rfl, rfl, rfl, rfl, rfl, rfl⟩, ?_⟩
    simp [c1, c2, c4, c5]
    exact fa
  by_cases c6 : B ∈ M
  · refine ⟨S, _, _, _, _, _, _, by simp [f1', pa, wk', c1, c2, im, c4, c5, nw, c6]; exact ⟨rfl, rfl, rfl, rfl, rfl, rfl⟩, ?_⟩
    simp [c1, c2, c4, c5, c6]
    exact fa
  · rw [c2] at ap
    refine ⟨S.set f (.lst ((M ++ [B]).map wd)), _, _, _, _, _, _, by simp [f1', pa, wk', c1, c2, im, c4, c5, nw, c6, ap]; exact ⟨rfl, rfl, rfl, rfl, rfl, rfl⟩, ?_⟩
    simp [c1, c2, c4, c5, c6]
    have := fa.put (N := M ++ [B])
    simpa using this
theorem lb2_ok {T S : Store} {f : Nat} {I L M : List Int} {w : Int} (hI : I.length ≤ 1000) (fa : FA T S f M) (g : GA I M) (gl : GA I L) (hw : w ∈ L) {x0 x3 x4 x5 x6 x7 x8 x9 x10 x11 : Option Ev.D} :
    ∃ S' y4 y5 y6 y7 y8 y9 y10 y11, lb2_law_above [x0, some (.loc f), some (wd w), x3, x4, x5, x6, x7, x8, x9, x10, x11] S = .nx [x0, some (.loc f), some (wd w), x3, y4, y5, y6, y7, y8, y9, y10, y11] S' ∧ FA T S' f (inn M w M) := by
  have lw := gl.lw w hw
  have f1 : g_law_fields [wd w] S = .ok (fdOf w).D S := law_fields_lw (m := .bl true) (S := S) lw
  have i4 : ixD S (fdOf w).D (.int 4) = some (.int (bKnd w)) := rfl
  obtain ⟨e', S', h1, fa', g', y5, y6, y7, y8, y9, y10, y11, rfl⟩ := forL_fold (t := .nm 5) (body := lb1_law_above) wd (fun N o => stA w o N)
    (fun N e S => FA T S f N ∧ GA I N ∧ ∃ y5 y6 y7 y8 y9 y10 y11, e = [x0, some (.loc f), some (wd w), x3, some (.int (bKnd w)), y5, y6, y7, y8, y9, y10, y11]) M (b := M) (e := [x0, some (.loc f), some (wd w), x3, some (.int (bKnd w)), x5, x6, x7, x8, x9, x10, x11]) (S := S)
    (fun o ho N e S ⟨fN, gN, y5, y6, y7, y8, y9, y10, y11, he⟩ => by
      subst he
      obtain ⟨S', z6, z7, z8, z9, z10, z11, h, fa2⟩ := lb1_ok hI fN gN gl hw (g.lw o ho) (x0 := x0) (x3 := x3) (x6 := y6) (x7 := y7) (x8 := y8) (x9 := y9) (x10 := y10) (x11 := y11)
      exact ⟨_, rfl, _, S', h, fa2, gN.st gl hw, _, _, _, _, _, _, _, rfl⟩) ⟨fa, g, _, _, _, _, _, _, _, rfl⟩
  refine ⟨S', some (.int (bKnd w)), y5, y6, y7, y8, y9, y10, y11, ?_, fa'⟩
  unfold lb2_law_above
  simp [f1, i4, fa.1, h1]
theorem lb3_ok {T S : Store} {f : Nat} {I L : List Int} (hI : I.length ≤ 1000) (fa : FA T S f L) (g : GA I L) {x0 x2 x3 x4 x5 x6 x7 x8 x9 x10 x11 : Option Ev.D} :
    ∃ S' y2 y4 y5 y6 y7 y8 y9 y10 y11, lb3_law_above [x0, some (.loc f), x2, x3, x4, x5, x6, x7, x8, x9, x10, x11] S = .nx [x0, some (.loc f), y2, x3, y4, y5, y6, y7, y8, y9, y10, y11] S' ∧ FA T S' f (turnA L) := by
  obtain ⟨e', S', h1, fa', g', y2, y4, y5, y6, y7, y8, y9, y10, y11, rfl⟩ := forL_fold (t := .nm 2) (body := lb2_law_above) wd (fun N w => inn N w N)
    (fun N e S => FA T S f N ∧ GA I N ∧ ∃ y2 y4 y5 y6 y7 y8 y9 y10 y11, e = [x0, some (.loc f), y2, x3, y4, y5, y6, y7, y8, y9, y10, y11]) L (b := L) (e := [x0, some (.loc f), x2, x3, x4, x5, x6, x7, x8, x9, x10, x11]) (S := S)
    (fun w hw N e S ⟨fN, gN, y2, y4, y5, y6, y7, y8, y9, y10, y11, he⟩ => by
      subst he
      obtain ⟨S', z4, z5, z6, z7, z8, z9, z10, z11, h, fa2⟩ := lb2_ok hI fN gN g hw (x0 := x0) (x3 := x3) (x4 := y4) (x5 := y5) (x6 := y6) (x7 := y7) (x8 := y8) (x9 := y9) (x10 := y10) (x11 := y11)
      exact ⟨_, rfl, _, S', h, fa2, gN.inn g hw, _, _, _, _, _, _, _, _, _, rfl⟩) ⟨fa, g, _, _, _, _, _, _, _, _, _, rfl⟩
  refine ⟨S', y2, y4, y5, y6, y7, y8, y9, y10, y11, ?_, fa'⟩
  unfold lb3_law_above
  simp [fa.1, h1]
theorem turnN_fold : ∀ (ds : List Nat) (L : List Int), ds.foldl (fun M _ => turnA M) L = turnN ds.length L
  | [], L => rfl
  | d :: ds, L => by simp [turnN, turnN_fold ds]
/-- words, marked or not -/
abbrev wD (p : Bool × Int) : Ev.D := .tup [.bl p.1, .int p.2]
theorem law_above_eq {S : Store} {q : Nat} {W : List (Bool × Int)} (hq : S[q]? = some (.lst (W.map wD))) (hW : W.length ≤ 900) (hl : ∀ p ∈ W, LW p.1 p.2) :
    ∃ S', g_law_above [.loc q] S = .ok (.loc S.length) S' ∧ S'.length = S.length + 1 ∧ (∀ k, k < S.length → S'[k]? = S[k]?) ∧ S'[S.length]? = some (.lst ((turnN W.length ((W.filter (·.1)).map (·.2))).map wd)) := by
  have hI : ((W.filter (·.1)).map (·.2)).length ≤ 1000 := by
    rw [List.length_map]
    have := List.length_filter_le (fun p : Bool × Int => p.1) W
    omega
  have hlw : ∀ x ∈ (W.filter (·.1)).map (·.2), LW true x := fun x hx => by
    obtain ⟨p, hp, rfl⟩ := List.mem_map.mp hx
    obtain ⟨p1, p2⟩ := List.mem_filter.mp hp
    have := hl p p1
    rw [p2] at this
    exact this
  have it : ∀ i, itemAt S (.loc q) i = some ((W.map wD)[i]?) := fun i => by simp [itemAt, hq]
  have hql : q < S.length := (List.getElem?_eq_some_iff.mp hq).1
  have lc := lcV_map (t := .nm 2) (c := rTruth (rBin ixD (rVar 2) (rCon (.int 0)))) (elt := rVar 2) (e0 := [some (.loc q), none, none, none, none, none, none, none, none, none, none, none]) (x := .loc q) (S := S) wD
    (fun p => [some (.loc q), none, some (wD p), none, none, none, none, none, none, none, none, none]) (·.1) (fun p => wD p) W it (fun p hp => ⟨by simp, by simp [ixD, atI, ixN], fun _ => by simp⟩) 1000 0 (by omega) (by omega)
  have em : ((W.drop 0).filter (·.1)).map (fun p => wD p) = ((W.filter (·.1)).map (·.2)).map wd := by
    rw [List.drop_zero, List.map_map]
    apply List.map_congr_left
    intro p hp
    have := (List.mem_filter.mp hp).2
    simp only [Function.comp, wd, wD]
    rw [this]
  rw [em] at lc
  have lr : rLcV mutL (rVar 0) (.nm 2) [2] (rTruth (rBin ixD (rVar 2) (rCon (.int 0)))) (rVar 2) 1000 [some (.loc q), none, none, none, none, none, none, none, none, none, none, none] S = .ok (.loc S.length) (S ++ [.lst (((W.filter (·.1)).map (·.2)).map wd)]) := by
    have lv : rLive (rVar 0) [some (.loc q), none, none, none, none, none, none, none, none, none, none, none] S = .ok (.loc q) S := by simp [okIt, hq]
    have w : wipeE [some (.loc q), none, none, none, none, none, none, none, none, none, none, none] [2] = [some (.loc q), none, none, none, none, none, none, none, none, none, none, none] := rfl
    unfold rLcV
    rw [lv, bind_ok, if_pos (by decide), w, lc]
    rfl
  generalize hJ : (W.filter (·.1)).map (·.2) = J at *
  have g : GA J J := ⟨hlw, [], by simp, .nil, fun x hx => nomatch hx⟩
  have fa : FA (S ++ [.lst (J.map wd)]) (S ++ [.lst (J.map wd)]) S.length J := ⟨by simp, rfl, fun _ _ => rfl⟩
  obtain ⟨e', S', h1, fa', g', y2, y3, y4, y5, y6, y7, y8, y9, y10, y11, rfl⟩ := forL_fold (t := .nm 3) (body := lb3_law_above) (fun i : Nat => Ev.D.int (0 + (i : Int))) (fun M _ => turnA M)
    (fun N e S' => FA (S ++ [.lst (J.map wd)]) S' S.length N ∧ GA J N ∧ ∃ y2 y3 y4 y5 y6 y7 y8 y9 y10 y11, e = [some (.loc q), some (.loc S.length), y2, y3, y4, y5, y6, y7, y8, y9, y10, y11]) (List.range W.length) (b := J) (e := [some (.loc q), some (.loc S.length), none, none, none, none, none, none, none, none, none, none]) (S := S ++ [.lst (J.map wd)])
    (fun i hi N e S' ⟨fN, gN, y2, y3, y4, y5, y6, y7, y8, y9, y10, y11, he⟩ => by
      subst he
      obtain ⟨S'', z2, z4, z5, z6, z7, z8, z9, z10, z11, h, fa2⟩ := lb3_ok hI fN gN (x0 := some (.loc q)) (x2 := y2) (x3 := some (.int (0 + (i : Int)))) (x4 := y4) (x5 := y5) (x6 := y6) (x7 := y7) (x8 := y8) (x9 := y9) (x10 := y10) (x11 := y11)
      exact ⟨_, rfl, _, S'', h, fa2, gN.turn, _, _, _, _, _, _, _, _, _, _, rfl⟩) ⟨fa, g, _, _, _, _, _, _, _, _, _, _, rfl⟩
  rw [turnN_fold, List.length_range] at fa'
  refine ⟨S', ?_, by rw [fa'.2.1]; simp, fun k hk => ?_, fa'.1⟩
  · unfold g_law_above runDef m_law_above
    have ln : lenD (S ++ [.lst (J.map wd)]) [.loc q] = some (.int W.length) := by
      have e : (S ++ [MO.lst (J.map wd)])[q]? = some (.lst (W.map wD)) := by rw [List.getElem?_append_left hql]; exact hq
      unfold lenD
      simp [e]
    have hr : (-(2 ^ 62) : Int) ≤ (W.length : Int) ∧ (W.length : Int) < 2 ^ 62 := by omega
    have rg : (rangeD 0 W.length) = (List.range W.length).map (fun i : Nat => Ev.D.int (0 + (i : Int))) := rfl
    rw [← rg] at h1
    have hr2 : (W.length : Int) < 4611686018427387904 := by omega
    simp [lr, ln, hr2, h1]
  · rw [fa'.2.2 k (by omega), List.getElem?_append_left hk]
end Lw
namespace Lw
open PySem PySem.Spec L2 Ev
theorem law_done_ok {T S : Store} {n : Nat} {m m' : Bool} {b b' : Int} (hp : PoolF T S n) (h : LW m b) (h' : LW m' b') :
    ∃ m2 b2 S', g_law_done [.loc n, .tup [.bl m, .int b], .tup [.bl m', .int b']] S = .ok (.tup [.bl m2, .int b2]) S' ∧ PoolF T S' n ∧ LW m2 b2 ∧ (m2 = true → m = true ∧ (lwb b2 b = true ∨ (m2, b2) = wopn m b m' b')) := by
  obtain ⟨r0, S0, t0, a0, b0, p0, _⟩ := take_okF 8 hp (by omega) (by omega)
  obtain ⟨r1, S1, t1, a1, b1, p1, _⟩ := take_okF 4096 p0 (by omega) (by omega)
  obtain ⟨r2, S2, t2, a2, b2, p2, _⟩ := take_okF 40 p1 (by omega) (by omega)
  obtain ⟨r3, S3, t3, a3, b3, p3, _⟩ := take_okF 2 p2 (by omega) (by omega)
  obtain ⟨d, hd, hm⟩ := atI_mem (xs := [Ev.D.int r1, .int r2]) a3 (by simpa using b3)
  obtain ⟨z, rfl⟩ : ∃ z, d = .int z := by
    simp only [List.mem_cons, List.not_mem_nil, or_false] at hm
    rcases hm with rfl | rfl <;> exact ⟨_, rfl⟩
  have ixl : ∀ (S : Store) (xs : List Ev.D) (i : Int), ixD S (.lst xs) (.int i) = atI xs i := fun S xs i => by simp [ixD]
  unfold g_law_done runDef m_law_done
  by_cases c1 : r0 < 2
  · have e := walked_eq (n := z) (S := S3) h
    exact ⟨(wwalk m b z).1, (wwalk m b z).2, S3, by simp [t0, t1, t2, t3, ixl, hd, c1, e], p3, h.walk, fun hm => ⟨(walk_in h hm).1, .inl (walk_in h hm).2⟩⟩
  by_cases c2 : r0 < 4
  · obtain ⟨r4, S4, t4, a4, b4, p4, _⟩ := take_okF 2 p3 (by omega) (by omega)
    have e := narrowed_eq (n := z) (ex := r4 == 0) (S := S4) h
    exact ⟨(wnarrow m b z (r4 == 0)).1, (wnarrow m b z (r4 == 0)).2, S4, by simp [t0, t1, t2, t3, ixl, hd, c1, c2, t4, e], p4, h.narrow, fun hm => ⟨(narrow_in h hm).1, .inl (narrow_in h hm).2⟩⟩
  by_cases c3 : r0 = 4
  · obtain ⟨r, S4, t4, p4, _, _⟩ := law_rights_ok p3
    have e := lessened_eq (r := r) (S := S4) h
    exact ⟨(wless m b r).1, (wless m b r).2, S4, by simp [t0, t1, t2, t3, ixl, hd, c3, t4, e], p4, h.less, fun hm => ⟨(less_in h hm).1, .inl (less_in h hm).2⟩⟩
  by_cases c4 : r0 = 5
  · have e := sealed_eq (S := S3) h h'
    exact ⟨(wseal m b m' b').1, (wseal m b m' b').2, S3, by simp [t0, t1, t2, t3, ixl, hd, c4, e], p3, h.seal, fun hm => ⟨(seal_in h hm).1, .inl (seal_in h hm).2⟩⟩
  have e1 := opened_eq (S := S3) h h'
  have e2 := entry_eq (S := S3) h
  by_cases c5 : r0 = 6
  · refine ⟨(wopn m b m' b').1, (wopn m b m' b').2, S3, by simp [t0, t1, t2, t3, ixl, hd, c5, e1, e2]; simp [atI, ixN], p3, h.opn, fun hm => ⟨?_, .inr rfl⟩⟩
    unfold wopn at hm
    split at hm
    · split at hm
      · rename_i z; exact z.1
      · cases hm
    · cases hm
  · have c6 : r0 = 7 := by omega
    exact ⟨(went m b).1, (went m b).2, S3, by simp [t0, t1, t2, t3, ixl, hd, c6, e1, e2]; simp [atI, ixN], p3, h.ent, fun hm => ⟨(ent_in h hm).1, .inl (ent_in h hm).2⟩⟩
/-- what stands in the store of a cell's turn: the pool, the words, those above -/
structure St3 (S : Store) (n : Nat) (W : List (Bool × Int)) (L : List Int) : Prop where
  pool : PoolAt S n
  ws : S[n + 1]? = some (.lst (W.map wD))
  ab : S[n + 2]? = some (.lst (L.map wd))
theorem St3.pf {S S' : Store} {n : Nat} {W : List (Bool × Int)} {L : List Int} (h : St3 S n W L) (p : PoolF S S' n) : St3 S' n W L :=
  ⟨p.1, by rw [p.2.2 _ (by omega)]; exact h.ws, by rw [p.2.2 _ (by omega)]; exact h.ab⟩
def InA (L : List Int) (W : List (Bool × Int)) : Prop := ∀ p ∈ W, LW p.1 p.2 ∧ (p.1 = true → ∃ a ∈ L, lwb p.2 a = true)
theorem ix_ws {S : Store} {n : Nat} {W : List (Bool × Int)} {r : Int} (h : S[n]? = some (.lst (W.map wD))) (h0 : 0 ≤ r) (h1 : r < W.length) : ∃ m b, (m, b) ∈ W ∧ ixD S (.loc n) (.int r) = some (.tup [.bl m, .int b]) := by
  obtain ⟨d, hd, hm⟩ := atI_mem (xs := W.map wD) h0 (by simpa using h1)
  obtain ⟨p, hp, rfl⟩ := List.mem_map.mp hm
  exact ⟨p.1, p.2, hp, by simp [ixD, h, hd]⟩
theorem above_find {S : Store} {n : Nat} {L : List Int} {b : Int} (h : S[n]? = some (.lst (L.map wd))) (hL : L.length < 1000) (hl : ∀ x ∈ L, LW true x) (hb : LW true b) {x0 x1 x2 x3 x4 x6 x8 : Option Ev.D} :
    rLcV frzL (rVar 5) (.nm 8) [8] (rTruth (rCall g_lies_within (rCons (rVar 7) (rCons (rVar 8) rNil)))) (rVar 8) 1000 [x0, x1, x2, x3, x4, some (.loc n), x6, some (.tup [.bl true, .int b]), x8] S = .ok (.lst ((L.filter fun a => lwb b a).map wd)) S := by
  have it : ∀ i, itemAt S (.loc n) i = some ((L.map wd)[i]?) := fun i => by simp [itemAt, h]
  have lc := lcV_map (t := .nm 8) (c := rTruth (rCall g_lies_within (rCons (rVar 7) (rCons (rVar 8) rNil)))) (elt := rVar 8) (e0 := [x0, x1, x2, x3, x4, some (.loc n), x6, some (.tup [.bl true, .int b]), none]) (x := .loc n) (S := S) wd
    (fun a => [x0, x1, x2, x3, x4, some (.loc n), x6, some (.tup [.bl true, .int b]), some (wd a)]) (fun a => lwb b a) wd L it (fun a ha => ⟨by simp, by
      have e := lies_within_eq (m := true) (m' := true) (S := S) hb (hl a ha)
      have e' : g_lies_within [.tup [.bl true, .int b], wd a] S = .ok (.bl (lwb b a)) S := e
      simp [e'], fun _ => by simp⟩) 1000 0 (by omega) (by omega)
  have lv : rLive (rVar 5) [x0, x1, x2, x3, x4, some (.loc n), x6, some (.tup [.bl true, .int b]), x8] S = .ok (.loc n) S := by simp [okIt, h]
  have w : wipeE [x0, x1, x2, x3, x4, some (.loc n), x6, some (.tup [.bl true, .int b]), x8] [8] = [x0, x1, x2, x3, x4, some (.loc n), x6, some (.tup [.bl true, .int b]), none] := rfl
  unfold rLcV
  rw [lv, bind_ok, if_pos (by decide), w, lc, List.drop_zero]
  rfl
theorem eq_nil {S : Store} {L : List Int} : eqB S (.lst (L.map wd)) (.lst []) = some L.isEmpty := by
  rw [eqB_ll, show (59 : Nat) = 58 + 1 from rfl, pyAll_wds]
  cases L <;> simp [PyData.eqvAll]
theorem deed_ok {S : Store} {n : Nat} {W : List (Bool × Int)} {L : List Int} (h : St3 S n W L) (hW : 0 < W.length) (hW2 : W.length < 1000) (hL : L.length < 1000) (hl : ∀ x ∈ L, LW true x) (hc : closedA L) (hi : InA L W) {x0 x1 x4 x6 x7 x8 : Option Ev.D} :
    ∃ S' W' y6 y7, lb1_law [x0, x1, some (.loc n), some (.loc (n + 1)), x4, some (.loc (n + 2)), x6, x7, x8] S = .nx [x0, x1, some (.loc n), some (.loc (n + 1)), x4, some (.loc (n + 2)), y6, y7, x8] S' ∧ St3 S' n W' L ∧ W'.length = W.length + 1 ∧ InA L W' := by
  have ln : ∀ S, S[n + 1]? = some (.lst (W.map wD)) → lenD S [.loc (n + 1)] = some (.int W.length) := fun S h => by
    unfold lenD
    simp [h]
  obtain ⟨r1, S1, t1, a1, b1, p1, _⟩ := take_okF (W.length : Int) h.pool.f (by omega) (by omega)
  have h1 := h.pf p1
  obtain ⟨m, b, hm, i1⟩ := ix_ws h1.ws a1 (by omega)
  obtain ⟨r2, S2, t2, a2, b2, p2, _⟩ := take_okF (W.length : Int) h1.pool.f (by omega) (by omega)
  have h2 := h1.pf p2
  obtain ⟨m', b', hm', i2⟩ := ix_ws h2.ws a2 (by omega)
  obtain ⟨lw, iw⟩ := hi _ hm
  obtain ⟨lw', iw'⟩ := hi _ hm'
  obtain ⟨m2, b2, S3, e3, p3, lw2, in2⟩ := law_done_ok h2.pool.f lw lw'
  have h3 := h2.pf p3
  have il := is_lawful_pair (S := S3) (m := m2) lw2.1 lw2.2.1
  have lb : lawB m2 b2 = true := by
    unfold lawB
    cases m2 with
    | false => rfl
    | true => simp [lw2.2.2 rfl]
  rw [lb] at il
  have i0 : ∀ (S : Store) (m : Bool) (b : Int), ixD S (.tup [.bl m, .int b]) (.int 0) = some (.bl m) := fun S m b => by simp [ixD, atI, ixN]
  have hz : W.length < sizeLine := Nat.lt_trans hW2 (by decide)
  have ap : ∀ y6, rMth "list" appendL (rVar 3) (rCons (rVar 7) rNil) [x0, x1, some (.loc n), some (.loc (n + 1)), x4, some (.loc (n + 2)), y6, some (.tup [.bl m2, .int b2]), x8] S3 = .ok .non (S3.set (n + 1) (.lst ((W ++ [(m2, b2)]).map wD))) := fun y6 => by
    simp [rMth, tyM, h3.ws, appendL, hz, ofP]
  have isn : isNot S3 (.bl true) (.bl true) = some (.bl false) := rfl
  have fin : m2 = true → ∃ a ∈ L, lwb b2 a = true := fun hm2 => by
    obtain ⟨hm1, hr⟩ := in2 hm2
    rcases hr with hr | hr
    · obtain ⟨a, ha, ia⟩ := iw hm1
      exact ⟨a, ha, lwb_trans hr ia⟩
    · have e1 : (wopn m b m' b').1 = true := by rw [← hr]; exact hm2
      obtain ⟨_, a, ha, ia⟩ := opn_in lw lw' hl hc iw iw' e1
      rw [← hr] at ia
      exact ⟨a, ha, ia⟩
  refine ⟨S3.set (n + 1) (.lst ((W ++ [(m2, b2)]).map wD)), W ++ [(m2, b2)], some (.tup [.bl m, .int b]), some (.tup [.bl m2, .int b2]), ?_, ⟨?_, ?_, ?_⟩, by simp, fun p hp => ?_⟩
  · unfold lb1_law
    cases m2 with
    | false => simp [ln S h.ws, t1, i1, ln S1 h1.ws, t2, i2, e3, il, isn, i0, ap]
    | true =>
      obtain ⟨rfl, _⟩ := in2 rfl
      obtain ⟨a, ha, ia⟩ := fin rfl
      have af := above_find h3.ab hL hl lw2 (x0 := x0) (x1 := x1) (x2 := some (.loc n)) (x3 := some (.loc (n + 1))) (x4 := x4) (x6 := some (.tup [.bl true, .int b])) (x8 := x8)
      have ne : (L.filter fun a => lwb b2 a).isEmpty = false := by
        cases q : L.filter fun a => lwb b2 a with
        | nil =>
          have := List.mem_filter.mpr ⟨ha, ia⟩
          rw [q] at this
          cases this
        | cons _ _ => rfl
      have en := eq_nil (S := S3) (L := L.filter fun a => lwb b2 a)
      rw [ne] at en
      simp [-eqB_ll, ln S h.ws, t1, i1, ln S1 h1.ws, t2, i2, e3, il, isn, i0, ap, af, en]
  · obtain ⟨a, b, e, q⟩ := h3.pool
    exact ⟨a, b, by rw [List.getElem?_set_ne (by omega)]; exact e, q⟩
  · exact List.getElem?_set_self (List.getElem?_eq_some_iff.mp h3.ws).1
  · rw [List.getElem?_set_ne (by omega)]; exact h3.ab
  · rcases List.mem_append.mp hp with hp | hp
    · exact hi p hp
    · rw [List.mem_singleton.mp hp]
      exact ⟨lw2, fin⟩
theorem words_ok {T S : Store} {n : Nat} (hp : PoolF T S n) {x0 x1 x3 x4 x5 x6 x7 x8 : Option Ev.D} : ∃ (W : List (Bool × Int)) (S' : Store), rLc frzL (rRan ran1 (rCons (rCon (.int 5)) rNil)) (.nm 4) [4] rYes (rCall g_law_word (rCons (rVar 2) rNil)) [x0, x1, some (.loc n), x3, x4, x5, x6, x7, x8] S = .ok (.lst (W.map wD)) S' ∧ PoolF T S' n ∧ (∀ p ∈ W, LW p.1 p.2) ∧ W.length = 5 := by
  have lp : ∀ (ds : List Ev.D) (S : Store), PoolF T S n → ∃ (W : List (Bool × Int)) (S' : Store), lcL (.nm 4) rYes (rCall g_law_word (rCons (rVar 2) rNil)) (wipeE [x0, x1, some (.loc n), x3, x4, x5, x6, x7, x8] [4]) ds S = .ok (W.map wD) S' ∧ PoolF T S' n ∧ (∀ p ∈ W, LW p.1 p.2) ∧ W.length = ds.length := by
    intro ds
    induction ds with
    | nil => intro S h; exact ⟨[], S, rfl, h, (fun p hp => nomatch hp), rfl⟩
    | cons d ds ih =>
      intro S h
      obtain ⟨m, b, S1, t1, p1, lw⟩ := law_word_ok h
      obtain ⟨W, S2, t2, p2, hw, hl⟩ := ih S1 p1
      refine ⟨(m, b) :: W, S2, ?_, p2, fun p hp => ?_, by simp [hl]⟩
      · unfold lcL
        simp only [wipeE, List.set] at t2
        simp [wipeE, rYes, t1, t2]
      · rcases List.mem_cons.mp hp with rfl | hp
        · exact lw
        · exact hw p hp
  obtain ⟨W, S', h1, p1, hw, hl⟩ := lp (rangeD 0 5) S hp
  refine ⟨W, S', ?_, p1, hw, by rw [hl]; rfl⟩
  unfold rLc
  have it : rRan ran1 (rCons (rCon (.int 5)) rNil) [x0, x1, some (.loc n), x3, x4, x5, x6, x7, x8] S = .ok (rangeD 0 5) S := by simp
  rw [it, bind_ok, if_pos (show (rangeD 0 5).length ≤ sizeLine by decide), h1]
  rfl
theorem cell_ok {ns : List Int} {k : Nat} {x2 x3 x4 x5 x6 x7 x8 : Option Ev.D} {S : Store} (hk : k < 1000) :
    ∃ S' y2 y3 y4 y5 y6 y7 y8, lb2_law [some (.lst (ns.map D.int)), some (.int k), x2, x3, x4, x5, x6, x7, x8] S = .nx [some (.lst (ns.map D.int)), some (.int k), y2, y3, y4, y5, y6, y7, y8] S' := by
  obtain ⟨a, b, ha, hb, hb2, hp⟩ := pool_ok ns k S (by omega) (by omega)
  have p0 : PoolAt (S ++ [.lst [.int a, .int b]]) S.length := ⟨a, b, by simp, ha, hb, hb2⟩
  obtain ⟨W, S1, w1, p1, hw, hl⟩ := words_ok p0.f (x0 := some (.lst (ns.map D.int))) (x1 := some (.int k)) (x3 := x3) (x4 := x4) (x5 := x5) (x6 := x6) (x7 := x7) (x8 := x8)
  have len1 : S1.length = S.length + 1 := by rw [p1.2.1]; simp
  obtain ⟨_, ⟨_, _, l5, _⟩, _⟩ := rs_lits
  have ok1 : Fd.ok ⟨3, 5, 4, 416, 0⟩ := ⟨⟨by show (0 : Int) ≤ 3; decide, by show (3 : Int) < 5; decide, by show (5 : Int) ≤ 4096; decide, by show exb 3 5 = true; decide, by show (0 : Int) ≤ 4; decide, by show (4 : Int) < 4096; decide, by show 416 < 512; decide, by show (0 : Int) ≤ 0; decide, by show (0 : Int) < 16; decide⟩, by show lawM 416 = true; decide⟩
  have m1 := law_made_eq (S := S1) ok1.1
  have w_1 := LW.of_fd ok1
  obtain ⟨_, _, _, _, kz⟩ := fd_parts ok1
  generalize Fd.bits ⟨3, 5, 4, 416, 0⟩ = B1 at *
  simp only at m1 kz
  rw [← l5] at m1
  have hz : W.length + 1 ≤ sizeLine := by rw [hl]; decide
  have lw2 : ∀ p ∈ W ++ [(true, B1)], LW p.1 p.2 := fun p hp => by
    rcases List.mem_append.mp hp with hp | hp
    · exact hw p hp
    · rw [List.mem_singleton.mp hp]; exact w_1
  have q2 : (S1 ++ [.lst ((W ++ [(true, B1)]).map wD)])[S.length + 1]? = some (.lst ((W ++ [(true, B1)]).map wD)) := by rw [← len1]; simp
  obtain ⟨S2, a2, len2, fr2, ab2⟩ := law_above_eq q2 (by simp; omega) lw2
  have eI : ((W ++ [(true, B1)]).filter (·.1)).map (·.2) = (W.filter (·.1)).map (·.2) ++ [B1] := by simp
  rw [eI] at ab2
  have hJ : ((W.filter (·.1)).map (·.2)).length < (W ++ [(true, B1)]).length := by
    have := List.length_filter_le (fun p : Bool × Int => p.1) W
    simp
    omega
  have hlJ : ∀ x ∈ (W.filter (·.1)).map (·.2) ++ [B1], LW true x := fun x hx => by
    rw [← eI] at hx
    obtain ⟨p, hp, rfl⟩ := List.mem_map.mp hx
    obtain ⟨p1, p2⟩ := List.mem_filter.mp hp
    have := lw2 p p1
    rw [p2] at this
    exact this
  obtain ⟨cl, sub, lwL, lenL⟩ := above_closed hJ hlJ kz
  have el : (S1 ++ [MO.lst ((W ++ [(true, B1)]).map wD)]).length = S.length + 2 := by simp [len1]
  rw [el] at a2 len2 ab2 fr2
  generalize turnN (W ++ [(true, B1)]).length ((W.filter (·.1)).map (·.2) ++ [B1]) = L at *
  have hL : L.length < 1000 := by simp at lenL; omega
  have inA : InA L (W ++ [(true, B1)]) := fun p hp => ⟨lw2 p hp, fun hm => ⟨p.2, sub _ (by rw [← eI]; exact List.mem_map.mpr ⟨p, List.mem_filter.mpr ⟨hp, hm⟩, rfl⟩), lwb_refl _⟩⟩
  have st : St3 S2 S.length (W ++ [(true, B1)]) L := by
    refine ⟨?_, ?_, ab2⟩
    · obtain ⟨c, d, e, q⟩ := p1.1
      exact ⟨c, d, by rw [fr2 _ (by omega), List.getElem?_append_left (by omega)]; exact e, q⟩
    · rw [fr2 _ (by omega)]; exact q2
  obtain ⟨e', S', h1, ⟨W', st', hW1, hW2, inA'⟩, y4, y6, y7, rfl⟩ := forL_pre (t := .nm 4) (body := lb1_law) (fun pre e S' => (∃ W', St3 S' S.length W' L ∧ 0 < W'.length ∧ W'.length = 6 + pre.length ∧ InA L W') ∧ ∃ y4 y6 y7, e = [some (.lst (ns.map D.int)), some (.int k), some (.loc S.length), some (.loc (S.length + 1)), y4, some (.loc (S.length + 2)), y6, y7, x8]) (rangeD 0 40) []
    (e := [some (.lst (ns.map D.int)), some (.int k), some (.loc S.length), some (.loc (S.length + 1)), x4, some (.loc (S.length + 2)), x6, x7, x8]) (S := S2)
    (fun pre d post eq e S' ⟨⟨W', st', hW1, hW2, inA'⟩, y4, y6, y7, he⟩ => by
      subst he
      have : pre.length < 40 := by
        have := congrArg List.length eq
        simp [rangeD] at this
        omega
      obtain ⟨S3, W3, z6, z7, h3, s3, l3, i3⟩ := deed_ok st' hW1 (by omega) hL lwL cl inA' (x0 := some (.lst (ns.map D.int))) (x1 := some (.int k)) (x4 := some d) (x6 := y6) (x7 := y7) (x8 := x8)
      exact ⟨_, rfl, _, S3, h3, ⟨W3, s3, by omega, by simp; omega, i3⟩, _, _, _, rfl⟩) ⟨⟨_, st, by simp, by simp [hl], inA⟩, _, _, _, rfl⟩
  refine ⟨S', some (.loc S.length), some (.loc (S.length + 1)), y4, some (.loc (S.length + 2)), y6, y7, x8, ?_⟩
  simp only [List.map_append, List.map_cons, List.map_nil] at a2
  unfold lb2_law
  simp [hp, w1, m1, hz, len1, a2, h1]
theorem law_true (ns : List Int) (hl : ns.length ≤ 63) : ∃ S, g_law [.lst (ns.map D.int)] [] = .ok (.bl true) S := by
  obtain ⟨m, hm, hr⟩ := ran_cells ns.length 6 (by omega) (by omega)
  obtain ⟨e', S', h1, y1, y2, y3, y4, y5, y6, y7, y8, rfl⟩ := forL_inv (t := .nm 1) (body := lb2_law) (fun e S' => ∃ y1 y2 y3 y4 y5 y6 y7 y8, e = [some (.lst (ns.map D.int)), y1, y2, y3, y4, y5, y6, y7, y8]) (rangeD 0 m) (e := [some (.lst (ns.map D.int)), none, none, none, none, none, none, none, none]) (S := [])
    (fun d hd e S' ⟨y1, y2, y3, y4, y5, y6, y7, y8, he⟩ => by
      obtain ⟨i, hi, rfl⟩ := mem_rangeD hd
      subst he
      rw [Int.zero_add]
      obtain ⟨S3, z2, z3, z4, z5, z6, z7, z8, h2⟩ := cell_ok (ns := ns) (k := i) (x2 := y2) (x3 := y3) (x4 := y4) (x5 := y5) (x6 := y6) (x7 := y7) (x8 := y8) (S := S') (by omega)
      exact ⟨_, rfl, _, S3, h2, _, _, _, _, _, _, _, _, rfl⟩) ⟨_, _, _, _, _, _, _, _, rfl⟩
  refine ⟨S', ?_⟩
  unfold g_law runDef m_law
  simp at hr
  simp [hr, h1]
end Lw
open PySem PySem.W PyProof.Rows
set_option maxHeartbeats 0 in
theorem PySem.Challenge.cw_sealedreach_k14_whole_whatever_is_made_l_holds : PySem.Challenge.rw_sealedreach_k14_whole_whatever_is_made_l.Holds := by
  w_on; o_law; k_head; (case hw => w_witness2)
  k_fill
  refine Ev.walk_ev (l := PySem.Challenge.rw_sealedreach_k14_whole_whatever_is_made_l) (n := 63) (k := 9) (x := "_law_script") (g := Lw.g_law) rfl (by decide) rfl ⟨rfl, by decide, by decide⟩ (fun w h Y => PySem.W.kIn_of Y) ?F Lw.law_true
  case F =>
    intro w mg fa h KX G hmg
    refine' Lw.all_mk KX G hmg ?a0 ?l0 ?o0 ?p0 ?a1 ?l1 ?o1 ?p1 ?a2 ?l2 ?o2 ?p2 ?a3 ?l3 ?o3 ?p3 ?a4 ?l4 ?o4 ?p4 ?a5 ?l5 ?o5 ?p5 ?a6 ?l6 ?o6 ?p6 ?a7 ?l7 ?o7 ?p7 ?a8 ?l8 ?o8 ?p8 ?a9 ?l9 ?o9 ?p9 ?a10 ?l10 ?o10 ?p10 ?a11 ?l11 ?kw11_marked ?o11 ?p11 ?a12 ?l12 ?o12 ?p12 ?a13 ?l13 ?o13 ?p13 ?a14 ?l14 ?o14 ?p14 ?a15 ?l15 ?o15 ?p15 ?a16 ?l16 ?o16 ?p16 ?a17 ?l17 ?o17 ?p17 ?a18 ?l18 ?kw18_exact ?o18 ?p18 ?a19 ?l19 ?o19 ?p19 ?a20 ?l20 ?o20 ?p20 ?a21 ?l21 ?o21 ?p21 ?a22 ?l22 ?o22 ?p22 ?a23 ?l23 ?o23 ?p23 ?a24 ?l24 ?o24 ?p24 ?a25 ?l25 ?o25 ?p25 ?a26 ?l26 ?o26 ?p26 ?a27 ?l27 ?o27 ?p27 ?a28 ?l28 ?o28 ?p28 ?a29 ?l29 ?o29 ?p29 ?a30 ?l30 ?o30 ?p30 ?a31 ?l31 ?o31 ?p31 ?a32 ?l32 ?o32 ?p32 ?a33 ?l33 ?o33 ?p33 ?a34 ?l34 ?o34 ?p34 ?a35 ?l35 ?o35 ?p35 ?a36 ?l36 ?o36 ?p36 ?a37 ?l37 ?o37 ?p37 ?a38 ?l38 ?o38 ?p38 ?k_CELLS ?k_MOST_COUNT ?k_MOST_STEP ?k_RIGHTS ?k_WORDS ?k_KINDS ?k_CELL_GROUP ?k_GATE ?k_ENTRY ?k_LEAST_KIND ?k_MOST_KIND ?z_abs ?z_all ?z_any ?z_bool ?z_enumerate ?z_int ?z_isinstance ?z_len ?z_list ?z_max ?z_min ?z_range ?z_str ?z_sum ?z_tuple ?g_ReachError ?g_NoFields ?x_NoFields ?p_NoFields ?u_NoFields ?y_NoFields
    (case a0 => first | k_is | rfl); (case l0 => first | k_is | rfl); (case o0 => first | k_is | rfl); (case p0 => first | k_is | rfl); (case a1 => first | k_is | rfl); (case l1 => first | k_is | rfl)
    (case o1 => first | k_is | rfl); (case p1 => first | k_is | rfl); (case a2 => first | k_is | rfl); (case l2 => first | k_is | rfl); (case o2 => first | k_is | rfl); (case p2 => first | k_is | rfl)
    (case a3 => first | k_is | rfl); (case l3 => first | k_is | rfl); (case o3 => first | k_is | rfl); (case p3 => first | k_is | rfl); (case a4 => first | k_is | rfl); (case l4 => first | k_is | rfl)
    (case o4 => first | k_is | rfl); (case p4 => first | k_is | rfl); (case a5 => first | k_is | rfl); (case l5 => first | k_is | rfl); (case o5 => first | k_is | rfl); (case p5 => first | k_is | rfl)
    (case a6 => first | k_is | rfl); (case l6 => first | k_is | rfl); (case o6 => first | k_is | rfl); (case p6 => first | k_is | rfl); (case a7 => first | k_is | rfl); (case l7 => first | k_is | rfl)
    (case o7 => first | k_is | rfl); (case p7 => first | k_is | rfl); (case a8 => first | k_is | rfl); (case l8 => first | k_is | rfl); (case o8 => first | k_is | rfl); (case p8 => first | k_is | rfl)
    (case a9 => first | k_is | rfl); (case l9 => first | k_is | rfl); (case o9 => first | k_is | rfl); (case p9 => first | k_is | rfl); (case a10 => first | k_is | rfl); (case l10 => first | k_is | rfl)
    (case o10 => first | k_is | rfl); (case p10 => first | k_is | rfl); (case a11 => first | k_is | rfl); (case l11 => first | k_is | rfl); (case kw11_marked => first | k_is | rfl); (case o11 => first | k_is | rfl)
    (case p11 => first | k_is | rfl); (case a12 => first | k_is | rfl); (case l12 => first | k_is | rfl); (case o12 => first | k_is | rfl); (case p12 => first | k_is | rfl); (case a13 => first | k_is | rfl)
    (case l13 => first | k_is | rfl); (case o13 => first | k_is | rfl); (case p13 => first | k_is | rfl); (case a14 => first | k_is | rfl); (case l14 => first | k_is | rfl); (case o14 => first | k_is | rfl)
    (case p14 => first | k_is | rfl); (case a15 => first | k_is | rfl); (case l15 => first | k_is | rfl); (case o15 => first | k_is | rfl); (case p15 => first | k_is | rfl); (case a16 => first | k_is | rfl)
    (case l16 => first | k_is | rfl); (case o16 => first | k_is | rfl); (case p16 => first | k_is | rfl); (case a17 => first | k_is | rfl); (case l17 => first | k_is | rfl); (case o17 => first | k_is | rfl)
    (case p17 => first | k_is | rfl); (case a18 => first | k_is | rfl); (case l18 => first | k_is | rfl); (case kw18_exact => first | k_is | rfl); (case o18 => first | k_is | rfl); (case p18 => first | k_is | rfl)
    (case a19 => first | k_is | rfl); (case l19 => first | k_is | rfl); (case o19 => first | k_is | rfl); (case p19 => first | k_is | rfl); (case a20 => first | k_is | rfl); (case l20 => first | k_is | rfl)
    (case o20 => first | k_is | rfl); (case p20 => first | k_is | rfl); (case a21 => first | k_is | rfl); (case l21 => first | k_is | rfl); (case o21 => first | k_is | rfl); (case p21 => first | k_is | rfl)
    (case a22 => first | k_is | rfl); (case l22 => first | k_is | rfl); (case o22 => first | k_is | rfl); (case p22 => first | k_is | rfl); (case a23 => first | k_is | rfl); (case l23 => first | k_is | rfl)
    (case o23 => first | k_is | rfl); (case p23 => first | k_is | rfl); (case a24 => first | k_is | rfl); (case l24 => first | k_is | rfl); (case o24 => first | k_is | rfl); (case p24 => first | k_is | rfl)
    (case a25 => first | k_is | rfl); (case l25 => first | k_is | rfl); (case o25 => first | k_is | rfl); (case p25 => first | k_is | rfl); (case a26 => first | k_is | rfl); (case l26 => first | k_is | rfl)
    (case o26 => first | k_is | rfl); (case p26 => first | k_is | rfl); (case a27 => first | k_is | rfl); (case l27 => first | k_is | rfl); (case o27 => first | k_is | rfl); (case p27 => first | k_is | rfl)
    (case a28 => first | k_is | rfl); (case l28 => first | k_is | rfl); (case o28 => first | k_is | rfl); (case p28 => first | k_is | rfl); (case a29 => first | k_is | rfl); (case l29 => first | k_is | rfl)
    (case o29 => first | k_is | rfl); (case p29 => first | k_is | rfl); (case a30 => first | k_is | rfl); (case l30 => first | k_is | rfl); (case o30 => first | k_is | rfl); (case p30 => first | k_is | rfl)
    (case a31 => first | k_is | rfl); (case l31 => first | k_is | rfl); (case o31 => first | k_is | rfl); (case p31 => first | k_is | rfl); (case a32 => first | k_is | rfl); (case l32 => first | k_is | rfl)
    (case o32 => first | k_is | rfl); (case p32 => first | k_is | rfl); (case a33 => first | k_is | rfl); (case l33 => first | k_is | rfl); (case o33 => first | k_is | rfl); (case p33 => first | k_is | rfl)
    (case a34 => first | k_is | rfl); (case l34 => first | k_is | rfl); (case o34 => first | k_is | rfl); (case p34 => first | k_is | rfl); (case a35 => first | k_is | rfl); (case l35 => first | k_is | rfl)
    (case o35 => first | k_is | rfl); (case p35 => first | k_is | rfl); (case a36 => first | k_is | rfl); (case l36 => first | k_is | rfl); (case o36 => first | k_is | rfl); (case p36 => first | k_is | rfl)
    (case a37 => first | k_is | rfl); (case l37 => first | k_is | rfl); (case o37 => first | k_is | rfl); (case p37 => first | k_is | rfl); (case a38 => first | k_is | rfl); (case l38 => first | k_is | rfl)
    (case o38 => first | k_is | rfl); (case p38 => first | k_is | rfl); (case k_CELLS => first | k_is | rfl); (case k_MOST_COUNT => first | k_is | rfl); (case k_MOST_STEP => first | k_is | rfl); (case k_RIGHTS => first | k_is | rfl)
    (case k_WORDS => first | k_is | rfl); (case k_KINDS => first | k_is | rfl); (case k_CELL_GROUP => first | k_is | rfl); (case k_GATE => first | k_is | rfl); (case k_ENTRY => first | k_is | rfl); (case k_LEAST_KIND => first | k_is | rfl)
    (case k_MOST_KIND => first | k_is | rfl); (case z_abs => first | k_is | rfl); (case z_all => first | k_is | rfl); (case z_any => first | k_is | rfl); (case z_bool => first | k_is | rfl); (case z_enumerate => first | k_is | rfl)
    (case z_int => first | k_is | rfl); (case z_isinstance => first | k_is | rfl); (case z_len => first | k_is | rfl); (case z_list => first | k_is | rfl); (case z_max => first | k_is | rfl); (case z_min => first | k_is | rfl)
    (case z_range => first | k_is | rfl); (case z_str => first | k_is | rfl); (case z_sum => first | k_is | rfl); (case z_tuple => first | k_is | rfl); (case g_ReachError => first | k_is | rfl); (case g_NoFields => first | k_is | rfl)
    (case x_NoFields => k_exc); (case p_NoFields => first | k_is | rfl); (case u_NoFields => first | k_is | rfl); (case y_NoFields => first | k_is | rfl)
