import PyProof.Rows.All
import Wide.All
import OpenK.AllK
import Wide.FinOn
import HandS.ForMost
import HandS.ForExc
import HandS.IsInst
import HandS.Flow
import HandS.TupLe
import HandS.TupAny
import HandS.WideBits
import HandS.Wide
import HandS.Style
import KE.DataEq
import HandS.ExcIs
import HandS.EndBits
import KE.KExcIs
import PyProof.Draws
import PyProof.EnumMake
import HandS.Zip
import HandS.Text
import HandS.Conv
import HandS.Replace
import KE.DatumIndex
import PyProof.ReprRoads
import HandS.Defaults
import HandS.TryOnly
import PyProof.ListStr
import PyProof.TupleOfGen
import PyProof.Rows.StrRev
import HandS.ExcInit
import HandS.ExcField
import HandS.StrSplit
import HandS.ReplaceLit
import HandS.FStr
import HandS.Dict
import HandS.ExcOwn
import KE.GoesMore
import HandS.RaiseMore
import HandS.WrittenGet
import PyProof.AutoListH
import PyProof.ListMulRoad
import KE.KUnpackStar
import KE.KBits
import PyProof.StrLawsRepr
import PyProof.FitsInt
import HandS.Codes
import PySem.Challenge.RW_sealedreach_k27_texts_of_no_rows
set_option Elab.async false
set_option linter.all false
set_option maxRecDepth 100000
set_option maxHeartbeats 4000000
namespace Ev
open PySem PySem.Spec PyProof.Rows L2

/-! ### values, stores, results -/
inductive D where
  | non
  | bl (b : Bool)
  | int (i : Int)
  | str (x : Str)
  | tup (xs : List D)
  | lst (xs : List D)
  | dct (ks : List Key) (xs : List D)
  | loc (n : Nat)
  | exn (c : Nat) (ns : List Str) (xs : List D)
  deriving Inhabited
inductive MO where
  | lst (xs : List D)
  | dK (ks : List Key) (xs : List D)
  | ins (c : Nat) (ns : List Str) (xs : List D)
abbrev Store := List MO
abbrev Env := List (Option D)
structure Exn where
  c : Nat
  ns : List Str
  xs : List D
inductive Res (A : Type) where
  | ok (a : A) (S : Store)
  | err (x : Exn) (S : Store)
  | bad
def Res.bind {A B : Type} : Res A → (A → Store → Res B) → Res B
  | .ok a S, f => f a S
  | .err x S, _ => .err x S
  | .bad, _ => .bad
def ofO {A : Type} : Option A → Store → Res A
  | some a, S => .ok a S
  | none, _ => .bad

/-! ### what a value stands for -/
/-- where the store objects stand; what else is kept aside (a list that a comprehension fills) -/
structure Io where
  l : List Addr
  h : List (Addr × HO)
def Io.all (io : Io) : List Addr := io.l ++ io.h.map (·.1)
/-- the part of the heap that no store object stands in -/
def Fz (io : Io) (H : Hp) : Hp := fun a => if a ∈ io.all then none else H a
theorem Fz_out {io : Io} {H : Hp} {a : Addr} (h : a ∉ io.all) : Fz io H a = H a := by unfold Fz; rw [if_neg h]
theorem Fz_in {io : Io} {H : Hp} {a : Addr} (h : a ∈ io.all) : Fz io H a = none := by unfold Fz; rw [if_pos h]
theorem Fz_same (io : Io) (H : Hp) : Same (Fz io H) H := fun b o e => by
  unfold Fz at e
  split at e
  · cases e
  · exact e
theorem sqT_same {K : PySem.W.Frag} {H H' : Hp} {a : Addr} {xs : List V} (e : Same H H') (h : SqT K H a xs) : SqT K H' a xs := by
  rcases h with (h | ⟨o, h⟩) | h
  · exact .inl (.inl (e _ _ h))
  · exact .inl (.inr ⟨o, e _ _ h⟩)
  · exact .inr h

/-- an exception that was caught: its class, its own dict -/
def exH (a : Addr) (cls : Value) (d : Option Addr) : HO := .ext fun h => ∃ oe vs, h.get? a = some oe ∧ oe.cls = cls ∧ oe.dict = d ∧ oe.data = .fields vs
variable (K : PySem.W.Frag) (C : Nat → Addr)
mutual
inductive Rep (io : Io) (F : Hp) : D → V → Prop
  | non : Rep io F .non .non
  | bl (b : Bool) : Rep io F (.bl b) (.bl b)
  | int (i : Int) : Rep io F (.int i) (.int i)
  | str (x : Str) : Rep io F (.str x) (.str x)
  | tup {a : Addr} {vs : List V} {ds : List D} : SqT K F a vs → Reps io F ds vs → Rep io F (.tup ds) (.ref a)
  | lst {a : Addr} {vs : List V} {ds : List D} : SqL K F a vs → Reps io F ds vs → Rep io F (.lst ds) (.ref a)
  | dct {a : Addr} {kvs : List (Key × V)} {ks : List Key} {vs : List V} {ds : List D} : F a = some (.dK kvs) → kvs.map (·.1) = ks → kvs.map (·.2) = vs → Reps io F ds vs → Rep io F (.dct ks ds) (.ref a)
  | loc {n : Nat} {a : Addr} : io.l[n]? = some a → Rep io F (.loc n) (.ref a)
  | exn0 {c : Nat} {a : Addr} : F a = some (exH a (.ref (C c)) none) → Rep io F (.exn c [] []) (.ref a)
  | exnF {c : Nat} {a d : Addr} {fs : List (Str × V)} {ns : List Str} {vs : List V} {ds : List D} : F a = some (exH a (.ref (C c)) (some d)) → F d = some (.xd fs) → fs.map (·.1) = ns → fs.map (·.2) = vs → Reps io F ds vs → Rep io F (.exn c ns ds) (.ref a)
inductive Reps (io : Io) (F : Hp) : List D → List V → Prop
  | nil : Reps io F [] []
  | cons {d : D} {ds : List D} {v : V} {vs : List V} : Rep io F d v → Reps io F ds vs → Reps io F (d :: ds) (v :: vs)
end
variable {K C}
/-- the world goes on: more store objects, more that stands still -/
structure Ext (io : Io) (H : Hp) (io' : Io) (H' : Hp) : Prop where
  pre : ∀ (n : Nat) (a : Addr), io.l[n]? = some a → io'.l[n]? = some a
  hid : io'.h = io.h
  same : Same (Fz io H) (Fz io' H')
theorem Ext.refl (io : Io) (H : Hp) : Ext io H io H := ⟨fun _ _ h => h, rfl, fun _ _ h => h⟩
theorem Ext.trans {io io1 io2 : Io} {H H1 H2 : Hp} (a : Ext io H io1 H1) (b : Ext io1 H1 io2 H2) : Ext io H io2 H2 :=
  ⟨fun n x h => b.pre n x (a.pre n x h), b.hid.trans a.hid, a.same.trans b.same⟩
mutual
theorem Rep.mono {io io' : Io} {F F' : Hp} (hp : ∀ (n : Nat) (a : Addr), io.l[n]? = some a → io'.l[n]? = some a) (hs : Same F F') : ∀ {d : D} {v : V}, Rep K C io F d v → Rep K C io' F' d v
  | _, _, .non => .non
  | _, _, .bl b => .bl b
  | _, _, .int i => .int i
  | _, _, .str x => .str x
  | _, _, .tup h r => .tup (sqT_same hs h) (Reps.mono hp hs r)
  | _, _, .lst h r => .lst (hs.seq h) (Reps.mono hp hs r)
  | _, _, .dct h e1 e2 r => .dct (hs _ _ h) e1 e2 (Reps.mono hp hs r)
  | _, _, .loc h => .loc (hp _ _ h)
  | _, _, .exn0 h => .exn0 (hs _ _ h)
  | _, _, .exnF h h2 e1 e2 r => .exnF (hs _ _ h) (hs _ _ h2) e1 e2 (Reps.mono hp hs r)
theorem Reps.mono {io io' : Io} {F F' : Hp} (hp : ∀ (n : Nat) (a : Addr), io.l[n]? = some a → io'.l[n]? = some a) (hs : Same F F') : ∀ {ds : List D} {vs : List V}, Reps K C io F ds vs → Reps K C io' F' ds vs
  | _, _, .nil => .nil
  | _, _, .cons h r => .cons (Rep.mono hp hs h) (Reps.mono hp hs r)
end
theorem Rep.ext {io io' : Io} {H H' : Hp} (e : Ext io H io' H') {d : D} {v : V} (r : Rep K C io (Fz io H) d v) : Rep K C io' (Fz io' H') d v := r.mono e.pre e.same
theorem Reps.ext {io io' : Io} {H H' : Hp} (e : Ext io H io' H') {d : List D} {v : List V} (r : Reps K C io (Fz io H) d v) : Reps K C io' (Fz io' H') d v := r.mono e.pre e.same
theorem Reps.length {io : Io} {F : Hp} : ∀ {ds : List D} {vs : List V}, Reps K C io F ds vs → ds.length = vs.length
  | _, _, .nil => rfl
  | _, _, .cons _ r => by simp [Reps.length r]
theorem Reps.get {io : Io} {F : Hp} : ∀ {ds : List D} {vs : List V} {i : Nat} {d : D}, Reps K C io F ds vs → ds[i]? = some d → ∃ v, vs[i]? = some v ∧ Rep K C io F d v
  | _, _, 0, _, .cons h _, e => by simp at e; subst e; exact ⟨_, rfl, h⟩
  | _, _, i + 1, d, .cons _ r, e => by
    obtain ⟨v, h1, h2⟩ := Reps.get (i := i) (d := d) r (by simpa using e)
    exact ⟨v, by simpa using h1, h2⟩
theorem Reps.getV {io : Io} {F : Hp} : ∀ {ds : List D} {vs : List V} {i : Nat} {v : V}, Reps K C io F ds vs → vs[i]? = some v → ∃ d, ds[i]? = some d ∧ Rep K C io F d v
  | _, _, 0, _, .cons h _, e => by simp at e; subst e; exact ⟨_, rfl, h⟩
  | _, _, i + 1, d, .cons _ r, e => by
    obtain ⟨v, h1, h2⟩ := Reps.getV (i := i) (v := d) r (by simpa using e)
    exact ⟨v, by simpa using h1, h2⟩
theorem Reps.append {io : Io} {F : Hp} : ∀ {ds es : List D} {vs us : List V}, Reps K C io F ds vs → Reps K C io F es us → Reps K C io F (ds ++ es) (vs ++ us)
  | _, _, _, _, .nil, s => s
  | _, _, _, _, .cons h r, s => .cons h (Reps.append r s)
theorem Reps.set {io : Io} {F : Hp} {d : D} {v : V} (h : Rep K C io F d v) : ∀ {ds : List D} {vs : List V} (i : Nat), Reps K C io F ds vs → Reps K C io F (ds.set i d) (vs.set i v)
  | _, _, _, .nil => .nil
  | _, _, 0, .cons _ r => .cons h r
  | _, _, i + 1, .cons q r => .cons q (Reps.set h i r)
theorem Reps.take {io : Io} {F : Hp} : ∀ {ds : List D} {vs : List V} (n : Nat), Reps K C io F ds vs → Reps K C io F (ds.take n) (vs.take n)
  | _, _, 0, _ => .nil
  | _, _, _ + 1, .nil => .nil
  | _, _, n + 1, .cons h r => .cons h (Reps.take n r)
theorem Reps.drop {io : Io} {F : Hp} : ∀ {ds : List D} {vs : List V} (n : Nat), Reps K C io F ds vs → Reps K C io F (ds.drop n) (vs.drop n)
  | _, _, 0, r => r
  | _, _, _ + 1, .nil => .nil
  | _, _, n + 1, .cons _ r => Reps.drop n r

/-! ### the store -/
variable (K C) in
def ORep (io : Io) (H : Hp) (a : Addr) : MO → Prop
  | .lst ds => ∃ vs, H a = some (.lst vs) ∧ Reps K C io (Fz io H) ds vs
  | .dK ks ds => ∃ kvs, H a = some (.dK kvs) ∧ kvs.map (·.1) = ks ∧ Reps K C io (Fz io H) ds (kvs.map (·.2))
  | .ins c ns ds => ∃ dx fs, H a = some (.ins (C c) dx fs) ∧ H dx = some (.own a) ∧ fs.map (·.1) = ns ∧ Reps K C io (Fz io H) ds (fs.map (·.2))
/-- what a store object's thing is -/
def isMut : HO → Bool
  | .lst _ => true
  | .dK _ => true
  | .ins _ _ _ => true
  | _ => false
variable (K C) in
structure Den (io : Io) (S : Store) (H : Hp) : Prop where
  len : io.l.length = S.length
  nd : io.all.Nodup
  obj : ∀ (n : Nat) (o : MO) (a : Addr), S[n]? = some o → io.l[n]? = some a → ORep K C io H a o
  hid : ∀ p ∈ io.h, H p.1 = some p.2 ∧ isMut p.2 = true
theorem ORep.at {io : Io} {H : Hp} {a : Addr} {o : MO} (h : ORep K C io H a o) : ∃ u, H a = some u ∧ isMut u = true := by
  cases o with
  | lst ds => obtain ⟨vs, e, _⟩ := h; exact ⟨_, e, rfl⟩
  | dK ks ds => obtain ⟨vs, e, _⟩ := h; exact ⟨_, e, rfl⟩
  | ins c ns ds => obtain ⟨_, _, e, _⟩ := h; exact ⟨_, e, rfl⟩
theorem Den.at {io : Io} {S : Store} {H : Hp} (d : Den K C io S H) {a : Addr} (h : a ∈ io.all) : ∃ u, H a = some u ∧ isMut u = true := by
  rcases List.mem_append.mp h with h | h
  · obtain ⟨n, hn, e⟩ := List.getElem_of_mem h
    have hS : n < S.length := by rw [← d.len]; exact hn
    exact (d.obj n S[n] a (by simp [hS]) (by simp [hn, e])).at
  · obtain ⟨p, hp, rfl⟩ := List.mem_map.mp h
    exact ⟨p.2, d.hid p hp⟩
theorem Den.fresh {io : Io} {S : Store} {H : Hp} (d : Den K C io S H) {p : Addr} (h : H p = none) : p ∉ io.all := fun z => by
  obtain ⟨u, e, _⟩ := d.at z
  rw [h] at e; cases e
theorem Den.notOwn {io : Io} {S : Store} {H : Hp} (d : Den K C io S H) {p x : Addr} (h : H p = some (.own x)) : p ∉ io.all := fun z => by
  obtain ⟨u, e, m⟩ := d.at z
  rw [h] at e; cases e; cases m
theorem mem_all {io : Io} {n : Nat} {a : Addr} (h : io.l[n]? = some a) : a ∈ io.all := List.mem_append_left _ (List.mem_of_getElem? h)
/-- a new thing that stands still -/
theorem Fz_upd_new {io : Io} {H : Hp} {p : Addr} {o : HO} (hp : p ∉ io.all) : Fz io (upd H p o) = upd (Fz io H) p o := by
  funext b
  unfold Fz upd
  by_cases e : b = p
  · subst e; simp [hp]
  · simp [e]
theorem Fz_upd_old {io : Io} {H : Hp} {p : Addr} {o : HO} (hp : p ∈ io.all) : Fz io (upd H p o) = Fz io H := by
  funext b
  unfold Fz upd
  by_cases e : b = p
  · subst e; simp [hp]
  · simp [e]
/-- a further place -/
def Io.add (io : Io) (p : Addr) : Io := ⟨io.l ++ [p], io.h⟩
theorem mem_add {io : Io} {p b : Addr} : b ∈ (io.add p).all ↔ b = p ∨ b ∈ io.all := by
  unfold Io.add Io.all
  simp only [List.mem_append, List.mem_singleton]
  constructor
  · rintro ((h | h) | h)
    · exact .inr (.inl h)
    · exact .inl h
    · exact .inr (.inr h)
  · rintro (h | h | h)
    · exact .inl (.inr h)
    · exact .inl (.inl h)
    · exact .inr h
theorem Fz_upd_loc {io : Io} {H : Hp} {p : Addr} {o : HO} (hp : H p = none) : Fz (io.add p) (upd H p o) = Fz io H := by
  funext b
  unfold Fz upd
  simp only [mem_add]
  by_cases e : b = p
  · subst e; simp [hp]
  · simp [e]
theorem same_new {H : Hp} {p : Addr} {o : HO} (h : H p = none) : Same H (upd H p o) := fun b x e => by
  rw [upd_ne (ne_of_none e h)]; exact e
theorem Ext.new {io : Io} {S : Store} {H : Hp} {p : Addr} {o : HO} (d : Den K C io S H) (h : H p = none) : Ext io H io (upd H p o) :=
  ⟨fun _ _ e => e, rfl, by rw [Fz_upd_new (d.fresh h)]; exact same_new (by rw [Fz_out (d.fresh h)]; exact h)⟩
/-- an object that is left as it is -/
theorem ORep.mono {io io' : Io} {S : Store} {H H' : Hp} {a : Addr} {o : MO} (d : Den K C io S H) (e : Ext io H io' H') (ha : H' a = H a) (h : ORep K C io H a o) : ORep K C io' H' a o := by
  cases o with
  | lst ds => obtain ⟨vs, q, r⟩ := h; exact ⟨vs, by rw [ha]; exact q, r.ext e⟩
  | dK ks ds => obtain ⟨vs, q, q2, r⟩ := h; exact ⟨vs, by rw [ha]; exact q, q2, r.ext e⟩
  | ins c ns ds =>
    obtain ⟨dx, fs, q, q1, q2, r⟩ := h
    refine ⟨dx, fs, by rw [ha]; exact q, ?_, q2, r.ext e⟩
    exact Fz_same _ _ _ _ (e.same dx _ (by rw [Fz_out (d.notOwn q1)]; exact q1))
theorem hid_mem {io : Io} {p : Addr × HO} (h : p ∈ io.h) : p.1 ∈ io.all := List.mem_append_right _ (List.mem_map.mpr ⟨p, h, rfl⟩)
/-- a new frozen thing: the store is as it was -/
theorem Den.new {io : Io} {S : Store} {H : Hp} {p : Addr} {o : HO} (d : Den K C io S H) (h : H p = none) : Den K C io S (upd H p o) :=
  ⟨d.len, d.nd, fun n x a e1 e2 => by
    have e : a ≠ p := fun z => d.fresh h (z ▸ mem_all e2)
    exact (d.obj n x a e1 e2).mono d (Ext.new d h) (upd_ne e), fun q hq => by
    have e : q.1 ≠ p := fun z => d.fresh h (z ▸ hid_mem hq)
    rw [upd_ne e]; exact d.hid q hq⟩
/-- a new store object -/
theorem Ext.loc {io : Io} {H : Hp} {p : Addr} {o : HO} (h : H p = none) : Ext io H (io.add p) (upd H p o) :=
  ⟨fun n a e => by
    have := (List.getElem?_eq_some_iff.mp e).1
    show (io.l ++ [p])[n]? = some a
    rw [List.getElem?_append_left this]; exact e, rfl, by rw [Fz_upd_loc h]; exact fun _ _ e => e⟩
theorem nodup_add {io : Io} {p : Addr} (nd : io.all.Nodup) (h : p ∉ io.all) : (io.add p).all.Nodup := by
  unfold Io.add Io.all at *
  simp only [List.mem_append, not_or] at h
  rw [List.append_assoc]
  rw [List.nodup_append] at nd ⊢
  refine ⟨nd.1, ?_, fun a ha b hb => ?_⟩
  · rw [List.singleton_append, List.nodup_cons]
    exact ⟨h.2, nd.2.1⟩
  · rw [List.singleton_append, List.mem_cons] at hb
    rcases hb with rfl | hb
    · exact fun z => h.1 (z ▸ ha)
    · exact nd.2.2 a ha b hb
theorem Den.loc {io : Io} {S : Store} {H : Hp} {p : Addr} {o : HO} {m : MO} (d : Den K C io S H) (h : H p = none) (hm : ORep K C (io.add p) (upd H p o) p m) : Den K C (io.add p) (S ++ [m]) (upd H p o) := by
  refine ⟨by simp [Io.add, d.len], nodup_add d.nd (d.fresh h), fun n x a e1 e2 => ?_, fun q hq => ?_⟩
  · have e2' : (io.l ++ [p])[n]? = some a := e2
    by_cases hn : n < io.l.length
    · rw [List.getElem?_append_left hn] at e2'
      rw [List.getElem?_append_left (by rw [← d.len]; exact hn)] at e1
      have e : a ≠ p := fun z => d.fresh h (z ▸ mem_all e2')
      exact (d.obj n x a e1 e2').mono d (Ext.loc h) (upd_ne e)
    · have h1 : n = io.l.length := by
        have := (List.getElem?_eq_some_iff.mp e2').1
        simp at this; omega
      subst h1
      rw [List.getElem?_append_right (Nat.le_refl _)] at e2'
      rw [d.len, List.getElem?_append_right (Nat.le_refl _)] at e1
      simp at e1 e2'
      subst e1; subst e2'
      exact hm
  · have hq' : q ∈ io.h := hq
    have e : q.1 ≠ p := fun z => d.fresh h (z ▸ hid_mem hq')
    rw [upd_ne e]; exact d.hid q hq'
/-- a store object is changed -/
theorem Ext.put {io : Io} {H : Hp} {p : Addr} {o : HO} (h : p ∈ io.all) : Ext io H io (upd H p o) :=
  ⟨fun _ _ e => e, rfl, by rw [Fz_upd_old h]; exact fun _ _ e => e⟩
theorem nodup_at {io : List Addr} (nd : io.Nodup) {n m : Nat} {a : Addr} (h1 : io[n]? = some a) (h2 : io[m]? = some a) : n = m := by
  obtain ⟨p1, e1⟩ := List.getElem?_eq_some_iff.mp h1
  obtain ⟨p2, e2⟩ := List.getElem?_eq_some_iff.mp h2
  exact (List.getElem_inj nd).mp (e1.trans e2.symm)
theorem Den.put {io : Io} {S : Store} {H : Hp} {n : Nat} {p : Addr} {o : HO} {m : MO} (d : Den K C io S H) (h : io.l[n]? = some p) (hm : ORep K C io (upd H p o) p m) : Den K C io (S.set n m) (upd H p o) := by
  have nd := List.nodup_append.mp d.nd
  refine ⟨by simp [d.len], d.nd, fun k x a e1 e2 => ?_, fun q hq => ?_⟩
  · by_cases hk : k = n
    · subst hk
      rw [h] at e2
      cases e2
      rw [List.getElem?_set_self (by have := (List.getElem?_eq_some_iff.mp h).1; rw [← d.len]; exact this)] at e1
      cases e1
      exact hm
    · rw [List.getElem?_set_ne (Ne.symm hk)] at e1
      have e : a ≠ p := fun z => hk (nodup_at nd.1 e2 (z ▸ h))
      exact (d.obj k x a e1 e2).mono d (Ext.put (mem_all h)) (upd_ne e)
  · have e : q.1 ≠ p := fun z => nd.2.2 p (List.mem_of_getElem? h) q.1 (List.mem_map.mpr ⟨q, hq, rfl⟩) z.symm
    rw [upd_ne e]; exact d.hid q hq
/-! ### a list that is filled apart -/
def Io.hide (io : Io) (p : Addr) (o : HO) : Io := ⟨io.l, (p, o) :: io.h⟩
theorem mem_hide {io : Io} {p b : Addr} {o : HO} : b ∈ (io.hide p o).all ↔ b = p ∨ b ∈ io.all := by
  unfold Io.hide Io.all
  simp only [List.mem_append, List.map_cons, List.mem_cons]
  constructor
  · rintro (h | h | h)
    · exact .inr (.inl h)
    · exact .inl h
    · exact .inr (.inr h)
  · rintro (h | h | h)
    · exact .inr (.inl h)
    · exact .inl h
    · exact .inr (.inr h)
theorem Fz_hide {io : Io} {H : Hp} {p : Addr} {o u : HO} (hp : H p = none) : Fz (io.hide p o) (upd H p u) = Fz io H := by
  funext b
  unfold Fz upd
  simp only [mem_hide]
  by_cases e : b = p
  · subst e; simp [hp]
  · simp [e]
theorem Fz_hide_put {io : Io} {H : Hp} {p : Addr} {o o' u : HO} : Fz (io.hide p o') (upd H p u) = Fz (io.hide p o) H := by
  funext b
  unfold Fz upd
  simp only [mem_hide]
  by_cases e : b = p
  · subst e; simp
  · simp [e]
theorem nodup_hide {io : Io} {p : Addr} {o : HO} (nd : io.all.Nodup) (h : p ∉ io.all) : (io.hide p o).all.Nodup := by
  unfold Io.hide Io.all at *
  simp only [List.mem_append, not_or] at h
  rw [List.nodup_append] at nd ⊢
  refine ⟨nd.1, ?_, fun a ha b hb => ?_⟩
  · rw [List.map_cons, List.nodup_cons]
    exact ⟨h.2, nd.2.1⟩
  · rw [List.map_cons, List.mem_cons] at hb
    rcases hb with rfl | hb
    · exact fun z => h.1 (z ▸ ha)
    · exact nd.2.2 a ha b hb
/-- the same things, by the same frozen part -/
theorem ORep.same {io io' : Io} {S : Store} {H H' : Hp} {a : Addr} {o : MO} (d : Den K C io S H) (hl : io'.l = io.l) (hs : Same (Fz io H) (Fz io' H')) (ha : H' a = H a) (h : ORep K C io H a o) : ORep K C io' H' a o := by
  have hp : ∀ (n : Nat) (a : Addr), io.l[n]? = some a → io'.l[n]? = some a := fun n a e => by rw [hl]; exact e
  cases o with
  | lst ds => obtain ⟨vs, q, r⟩ := h; exact ⟨vs, by rw [ha]; exact q, r.mono hp hs⟩
  | dK ks ds => obtain ⟨vs, q, q2, r⟩ := h; exact ⟨vs, by rw [ha]; exact q, q2, r.mono hp hs⟩
  | ins c ns ds =>
    obtain ⟨dx, fs, q, q1, q2, r⟩ := h
    refine ⟨dx, fs, by rw [ha]; exact q, ?_, q2, r.mono hp hs⟩
    exact Fz_same _ _ _ _ (hs dx _ (by rw [Fz_out (d.notOwn q1)]; exact q1))
theorem Den.hide {io : Io} {S : Store} {H : Hp} {p : Addr} {o : HO} (d : Den K C io S H) (h : H p = none) (m : isMut o = true) : Den K C (io.hide p o) S (upd H p o) := by
  have hs : Same (Fz io H) (Fz (io.hide p o) (upd H p o)) := by rw [Fz_hide h]; exact fun _ _ e => e
  refine ⟨d.len, nodup_hide d.nd (d.fresh h), fun n x a e1 e2 => ?_, fun q hq => ?_⟩
  · have e : a ≠ p := fun z => d.fresh h (z ▸ mem_all (show io.l[n]? = some a from e2))
    exact (d.obj n x a e1 e2).same d rfl hs (upd_ne e)
  · have hq' : q = (p, o) ∨ q ∈ io.h := List.mem_cons.mp hq
    rcases hq' with rfl | hq'
    · exact ⟨upd_same, m⟩
    · have e : q.1 ≠ p := fun z => d.fresh h (z ▸ hid_mem hq')
      rw [upd_ne e]; exact d.hid q hq'
theorem Den.rehide {io : Io} {S : Store} {H : Hp} {p : Addr} {o o' : HO} (d : Den K C (io.hide p o) S H) (m : isMut o' = true) : Den K C (io.hide p o') S (upd H p o') := by
  have hs : Same (Fz (io.hide p o) H) (Fz (io.hide p o') (upd H p o')) := by rw [Fz_hide_put (o := o)]; exact fun _ _ e => e
  have nd := List.nodup_append.mp d.nd
  have nd2 : p ∉ io.h.map (·.1) ∧ _ := List.nodup_cons.mp (show (p :: io.h.map (·.1)).Nodup from nd.2.1)
  refine ⟨d.len, d.nd, fun n x a e1 e2 => ?_, fun q hq => ?_⟩
  · have e : a ≠ p := fun z => nd.2.2 a (List.mem_of_getElem? e2) p (by simp [Io.hide]) z
    exact (d.obj n x a e1 e2).same d rfl hs (upd_ne e)
  · have hq' : q = (p, o') ∨ q ∈ io.h := List.mem_cons.mp hq
    rcases hq' with rfl | hq'
    · exact ⟨upd_same, m⟩
    · have e : q.1 ≠ p := fun z => nd2.1 (z ▸ List.mem_map.mpr ⟨q, hq', rfl⟩)
      rw [upd_ne e]; exact d.hid q (List.mem_cons_of_mem _ hq')
/-- it is filled: it stands still from now on -/
theorem Fz_unhide {io : Io} {H : Hp} {p : Addr} {o : HO} (hp : p ∉ io.all) (e : H p = some o) : Same (Fz (io.hide p o) H) (Fz io H) ∧ Fz io H p = some o := by
  refine ⟨fun b u q => ?_, by rw [Fz_out hp]; exact e⟩
  unfold Fz at q ⊢
  simp only [mem_hide] at q
  by_cases hb : b ∈ io.all
  · simp [hb] at q
  · simp only [hb, or_false, if_false] at q ⊢
    split at q
    · cases q
    · exact q
theorem Den.unhide {io : Io} {S : Store} {H : Hp} {p : Addr} {o : HO} (d : Den K C (io.hide p o) S H) : Den K C io S H ∧ p ∉ io.all ∧ H p = some o := by
  have nd := List.nodup_append.mp d.nd
  have nd2 : p ∉ io.h.map (·.1) ∧ (io.h.map (·.1)).Nodup := List.nodup_cons.mp (show (p :: io.h.map (·.1)).Nodup from nd.2.1)
  have hp : p ∉ io.all := fun z => by
    rcases List.mem_append.mp z with z | z
    · exact nd.2.2 p z p (by simp [Io.hide]) rfl
    · exact nd2.1 z
  have e : H p = some o := (d.hid (p, o) List.mem_cons_self).1
  refine ⟨⟨d.len, ?_, fun n x a e1 e2 => ?_, fun q hq => d.hid q (List.mem_cons_of_mem _ hq)⟩, hp, e⟩
  · unfold Io.all
    rw [List.nodup_append]
    exact ⟨nd.1, nd2.2, fun a ha b hb => nd.2.2 a ha b (List.mem_cons_of_mem _ hb)⟩
  · exact (d.obj n x a e1 e2).same d rfl (Fz_unhide hp e).1 rfl
end Ev
namespace Ev
open PySem PySem.Spec L2

/-! ### states -/
structure Slots (K : PySem.W.Frag) (C : Nat → Addr) (io : Io) (F : Hp) (e : Env) (sg : St) : Prop where
  len : e.length = sg.length
  get : ∀ (i : Nat) (d : D), e[i]? = some (some d) → ∃ v, sg[i]? = some (some v) ∧ Rep K C io F d v
theorem Slots.ext {K : PySem.W.Frag} {C : Nat → Addr} {io io' : Io} {H H' : Hp} {e : Env} {sg : St} (x : Ext io H io' H') (s : Slots K C io (Fz io H) e sg) : Slots K C io' (Fz io' H') e sg :=
  ⟨s.len, fun i d h => let ⟨v, h1, h2⟩ := s.get i d h; ⟨v, h1, h2.ext x⟩⟩
theorem Slots.set {K : PySem.W.Frag} {C : Nat → Addr} {io : Io} {F : Hp} {e : Env} {sg : St} {d : D} {v : V} (s : Slots K C io F e sg) (i : Nat) (r : Rep K C io F d v) : Slots K C io F (e.set i (some d)) (sg.set i (some v)) := by
  refine ⟨by simp [s.len], fun j x h => ?_⟩
  by_cases hj : j = i
  · subst hj
    by_cases hl : j < e.length
    · rw [List.getElem?_set_self hl] at h
      cases h
      exact ⟨v, by rw [List.getElem?_set_self (by rw [← s.len]; exact hl)], r⟩
    · rw [List.getElem?_eq_none (by simp; omega)] at h; cases h
  · rw [List.getElem?_set_ne (Ne.symm hj)] at h
    obtain ⟨u, h1, h2⟩ := s.get j x h
    exact ⟨u, by rw [List.getElem?_set_ne (Ne.symm hj)]; exact h1, h2⟩
theorem Slots.none {K : PySem.W.Frag} {C : Nat → Addr} {io : Io} {F : Hp} {e : Env} {sg : St} (s : Slots K C io F e sg) (i : Nat) : Slots K C io F (e.set i none) (sg.set i none) := by
  refine ⟨by simp [s.len], fun j x h => ?_⟩
  by_cases hj : j = i
  · subst hj
    by_cases hl : j < e.length
    · rw [List.getElem?_set_self hl] at h; cases h
    · rw [List.getElem?_eq_none (by simp; omega)] at h; cases h
  · rw [List.getElem?_set_ne (Ne.symm hj)] at h
    obtain ⟨u, h1, h2⟩ := s.get j x h
    exact ⟨u, by rw [List.getElem?_set_ne (Ne.symm hj)]; exact h1, h2⟩
/-- an exception: its class, its own dict -/
def XR (K : PySem.W.Frag) (C : Nat → Addr) (io : Io) (H : Hp) (x : Exn) (cls : Value) (dd : Option Addr) : Prop :=
  cls = .ref (C x.c) ∧ ((x.ns = [] ∧ x.xs = [] ∧ dd = none) ∨ ∃ d fs, dd = some d ∧ H d = some (.xd fs) ∧ fs.map (·.1) = x.ns ∧ Reps K C io (Fz io H) x.xs (fs.map (·.2)))

/-! ### what is wanted behind a result -/
def Post {A B : Type} (K : PySem.W.Frag) (C : Nat → Addr) (R : Io → Hp → A → B → Prop) (W : WX) (sg : St) (io : Io) (H : Hp) (r : Res A) (Q : B → Hp → Prop) : Prop :=
  match r with
  | .ok a S => ∀ b H' io', Ext io H io' H' → Den K C io' S H' → R io' (Fz io' H') a b → Q b H'
  | .err x S => ∀ cls dd H' io', Ext io H io' H' → Den K C io' S H' → XR K C io' H' x cls dd → W cls dd sg H'
  | .bad => False
abbrev RepR (K : PySem.W.Frag) (C : Nat → Addr) : Io → Hp → D → V → Prop := fun io F d v => Rep K C io F d v
abbrev RepsR (K : PySem.W.Frag) (C : Nat → Addr) : Io → Hp → List D → List V → Prop := fun io F d v => Reps K C io F d v
abbrev EqR {A : Type} : Io → Hp → A → A → Prop := fun _ _ a b => a = b
section
variable {K : PySem.W.Frag} {C : Nat → Addr} {A B A' B' : Type} {R : Io → Hp → A → B → Prop} {R' : Io → Hp → A' → B' → Prop} {W : WX} {sg : St} {io io' : Io} {H H' : Hp} {r : Res A} {Q Q' : B → Hp → Prop}
theorem Post.ext (e : Ext io H io' H') (h : Post K C R W sg io H r Q) : Post K C R W sg io' H' r Q := by
  cases r with
  | ok a S => exact fun b H2 io2 x d q => h b H2 io2 (e.trans x) d q
  | err x S => exact fun c dd H2 io2 x' d q => h c dd H2 io2 (e.trans x') d q
  | bad => exact h
theorem Post.mono (h : Post K C R W sg io H r Q) (m : ∀ b H', Q b H' → Q' b H') : Post K C R W sg io H r Q' := by
  cases r with
  | ok a S => exact fun b H2 io2 x d q => m _ _ (h b H2 io2 x d q)
  | err x S => exact h
  | bad => exact h
theorem Post.bind {k : A → Store → Res A'} {Q : B' → Hp → Prop} (h : Post K C R' W sg io H (r.bind k) Q) :
    Post K C R W sg io H r (fun b H1 => ∃ io1 S1 a, Ext io H io1 H1 ∧ Den K C io1 S1 H1 ∧ R io1 (Fz io1 H1) a b ∧ Post K C R' W sg io1 H1 (k a S1) Q) := by
  cases r with
  | ok a S => exact fun b H2 io2 x d q => ⟨io2, S, a, x, d, q, Post.ext x h⟩
  | err x S => exact h
  | bad => exact h
theorem Post.ofO {o : Option A} {S : Store} (h : Post K C R W sg io H (ofO o S) Q) : ∃ a, o = some a ∧ ∀ b H' io', Ext io H io' H' → Den K C io' S H' → R io' (Fz io' H') a b → Q b H' := by
  cases o with
  | some a => exact ⟨a, rfl, h⟩
  | none => exact h.elim
/-- nothing of the heap has changed -/
theorem Post.here {a : A} {S : Store} {b : B} (h : Post K C R W sg io H (.ok a S) Q) (d : Den K C io S H) (q : R io (Fz io H) a b) : Q b H := h b H io (Ext.refl io H) d q
end
/-- an expression, a test, arguments, by what they come to -/
abbrev RE := Env → Store → Res D
abbrev RT := Env → Store → Res Bool
abbrev RA := Env → Store → Res (List D)
def tR {A B : Type} (K : PySem.W.Frag) (C : Nat → Addr) (R : Io → Hp → A → B → Prop) (W : WX) (r : Env → Store → Res A) : St → Hp → (B → Hp → Prop) → Prop := fun sg H Q =>
  ∃ (e : Env) (S : Store) (io : Io), Den K C io S H ∧ Slots K C io (Fz io H) e sg ∧ Post K C R W sg io H (r e S) Q
abbrev tE (K : PySem.W.Frag) (C : Nat → Addr) (W : WX) (r : RE) : TE := tR K C (RepR K C) W r
abbrev tT (K : PySem.W.Frag) (C : Nat → Addr) (W : WX) (r : RT) : TT := tR K C EqR W r
abbrev tA (K : PySem.W.Frag) (C : Nat → Addr) (W : WX) (r : RA) : TA := tR K C (RepsR K C) W r
section
variable {K : PySem.W.Frag} {C : Nat → Addr} {A B A' B' A2 B2 : Type} {R : Io → Hp → A → B → Prop} {R' : Io → Hp → A' → B' → Prop} {R2 : Io → Hp → A2 → B2 → Prop} {W : WX} {sg : St} {H : Hp}
theorem tR.mono {r : Env → Store → Res A} {Q Q' : B → Hp → Prop} (h : tR K C R W r sg H Q) (m : ∀ b H', Q b H' → Q' b H') : tR K C R W r sg H Q' := by
  obtain ⟨e, S, io, d, s, p⟩ := h
  exact ⟨e, S, io, d, s, p.mono m⟩
/-- one thing, then the rest -/
theorem tR.seq1 {r : Env → Store → Res A} {r' : Env → Store → Res A'} {Q : B' → Hp → Prop} (k : Env → A → Store → Res A') (h : tR K C R' W r' sg H Q) (e' : ∀ e S, r' e S = (r e S).bind (k e)) :
    tR K C R W r sg H fun b H1 => ∃ e S io a, Den K C io S H1 ∧ Slots K C io (Fz io H1) e sg ∧ R io (Fz io H1) a b ∧ Post K C R' W sg io H1 (k e a S) Q := by
  obtain ⟨e, S, io, d, s, p⟩ := h
  rw [e'] at p
  exact ⟨e, S, io, d, s, p.bind.mono fun b H1 ⟨io1, S1, a, x, d1, q, p1⟩ => ⟨e, S1, io1, a, d1, s.ext x, q, p1⟩⟩
/-- two things, then the rest -/
theorem tR.seq2 {r : Env → Store → Res A} {r2 : Env → Store → Res A2} {r' : Env → Store → Res A'} (hm : ∀ {io io' H H' a b}, Ext io H io' H' → R io (Fz io H) a b → R io' (Fz io' H') a b) {Q : B' → Hp → Prop} (k : Env → A → A2 → Store → Res A')
    (h : tR K C R' W r' sg H Q) (e' : ∀ e S, r' e S = (r e S).bind fun a S1 => (r2 e S1).bind (k e a)) :
    tR K C R W r sg H fun b H1 => tR K C R2 W r2 sg H1 fun b2 H2 => ∃ e S io a a2, Den K C io S H2 ∧ Slots K C io (Fz io H2) e sg ∧ R io (Fz io H2) a b ∧ R2 io (Fz io H2) a2 b2 ∧ Post K C R' W sg io H2 (k e a a2 S) Q := by
  obtain ⟨e, S, io, d, s, p⟩ := h
  rw [e'] at p
  refine ⟨e, S, io, d, s, p.bind.mono fun b H1 ⟨io1, S1, a, x, d1, q, p1⟩ => ?_⟩
  exact ⟨e, S1, io1, d1, s.ext x, p1.bind.mono fun b2 H2 ⟨io2, S2, a2, x2, d2, q2, p2⟩ => ⟨e, S2, io2, a, a2, d2, (s.ext x).ext x2, hm x2 q, q2, p2⟩⟩
theorem bind_assoc {A B E : Type} (r : Res A) (f : A → Store → Res B) (g : B → Store → Res E) : (r.bind f).bind g = r.bind fun a S => (f a S).bind g := by cases r <;> rfl
end
theorem repM {K : PySem.W.Frag} {C : Nat → Addr} {io io' : Io} {H H' : Hp} {a : D} {b : V} (x : Ext io H io' H') (h : RepR K C io (Fz io H) a b) : RepR K C io' (Fz io' H') a b := Rep.ext x h
theorem repsM {K : PySem.W.Frag} {C : Nat → Addr} {io io' : Io} {H H' : Hp} {a : List D} {b : List V} (x : Ext io H io' H') (h : RepsR K C io (Fz io H) a b) : RepsR K C io' (Fz io' H') a b := Reps.ext x h
theorem eqM {A : Type} {io io' : Io} {H H' : Hp} {a b : A} (x : Ext io H io' H') (h : EqR io (Fz io H) a b) : EqR io' (Fz io' H') a b := h

theorem _root_.L2.PE.imp {X : Cx} {e : Expr} {t t' : TE} (h : PE X e t) (hi : ∀ sg H Q, t' sg H Q → t sg H Q) : PE X e t' := ⟨fun pins s sg H Q I hw => h.run pins s sg H Q I (hi _ _ _ hw)⟩
theorem _root_.L2.PT.imp {X : Cx} {e : Expr} {t t' : TT} (h : PT X e t) (hi : ∀ sg H Q, t' sg H Q → t sg H Q) : PT X e t' := ⟨fun pins s sg H Q I hw => h.run pins s sg H Q I (hi _ _ _ hw)⟩
theorem _root_.L2.PW.imp {X : Cx} {e : Expr} {t t' : TT} (h : PW X e t) (hi : ∀ sg H Q, t' sg H Q → t sg H Q) : PW X e t' := ⟨fun wh pins s sg H Q I hw => h.run wh pins s sg H Q I (hi _ _ _ hw)⟩
theorem _root_.L2.PA.imp {X : Cx} {e : List Expr} {t t' : TA} (h : PA X e t) (hi : ∀ sg H Q, t' sg H Q → t sg H Q) : PA X e t' := ⟨fun p pins s sg H Q I hw => h.run p pins s sg H Q I (hi _ _ _ hw)⟩
theorem _root_.L2.PS.imp {X : Cx} {e : Stmt} {t t' : TS} (h : PS X e t) (hi : ∀ D sg H, t' D sg H → t D sg H) : PS X e t' := ⟨fun pins s sg H D I hw => h.run pins s sg H D I (hi _ _ _ hw)⟩
theorem _root_.L2.PSs.imp {X : Cx} {e : List Stmt} {t t' : TS} (h : PSs X e t) (hi : ∀ D sg H, t' D sg H → t D sg H) : PSs X e t' := ⟨fun pins s sg H D I hw => h.run pins s sg H D I (hi _ _ _ hw)⟩
theorem _root_.L2.PE.or {X : Cx} {e : Expr} {t t' : TE} (h : PE X e t) (h' : PE X e t') : PE X e (fun sg H Q => t sg H Q ∨ t' sg H Q) := ⟨fun pins s sg H Q I hw => hw.elim (h.run pins s sg H Q I) (h'.run pins s sg H Q I)⟩

/-! ### operations by values -/
/-- an operation of two values over the store -/
def OpD (X : Cx) (C : Nat → Addr) (g : Value → Value → Sem Value) (f : Store → D → D → Option D) : Prop :=
  OpR X g (fun x y H Q => ∃ io S a b d, Den X.K C io S H ∧ Rep X.K C io (Fz io H) a x ∧ Rep X.K C io (Fz io H) b y ∧ f S a b = some d ∧ ∀ v H' io', Ext io H io' H' → Den X.K C io' S H' → Rep X.K C io' (Fz io' H') d v → Q v H')
def UnD (X : Cx) (C : Nat → Addr) (g : Value → Sem Value) (f : Store → D → Option D) : Prop :=
  UnR X g (fun x H Q => ∃ io S a d, Den X.K C io S H ∧ Rep X.K C io (Fz io H) a x ∧ f S a = some d ∧ ∀ v H' io', Ext io H io' H' → Den X.K C io' S H' → Rep X.K C io' (Fz io' H') d v → Q v H')
def CallD (X : Cx) (C : Nat → Addr) (g : Value) (f : Store → List D → Option D) : Prop :=
  CallR X g (fun xs H Q => ∃ io S as d, Den X.K C io S H ∧ Reps X.K C io (Fz io H) as xs ∧ f S as = some d ∧ ∀ v H' io', Ext io H io' H' → Den X.K C io' S H' → Rep X.K C io' (Fz io' H') d v → Q v H')
def rBin (f : Store → D → D → Option D) (a b : RE) : RE := fun e S => (a e S).bind fun x S1 => (b e S1).bind fun y S2 => ofO (f S2 x y) S2
def rUn (f : Store → D → Option D) (a : RE) : RE := fun e S => (a e S).bind fun x S1 => ofO (f S1 x) S1
def rCal (f : Store → List D → Option D) (a : RA) : RE := fun e S => (a e S).bind fun xs S1 => ofO (f S1 xs) S1
section
variable {X : Cx} {C : Nat → Addr} {W : WX} {a b : Expr} {ra rb : RE} {pos : Pos}
theorem ee_op {op : Operator} {f : Store → D → D → Option D} (ho : OpD X C (binaryOp op) f) (ha : PE X a (tE X.K C W ra)) (hb : PE X b (tE X.K C W rb)) : PE X (.BinOp a op b pos) (tE X.K C W (rBin f ra rb)) :=
  (pe_op ho ha hb).imp fun sg H Q h => (tR.seq2 repM (fun _ x y S => ofO (f S x y) S) h fun _ _ => rfl).mono fun x H1 h1 => h1.mono fun y H2 ⟨e, S, io, x1, y1, d, s, r1, r2, p⟩ => by
    obtain ⟨z, ez, p⟩ := p.ofO
    exact ⟨io, S, x1, y1, z, d, r1, r2, ez, p⟩
theorem ee_un {op : UnaryOp} {f : Store → D → Option D} (ho : UnD X C (unaryOp op) f) (ha : PE X a (tE X.K C W ra)) : PE X (.UnaryOp op a pos) (tE X.K C W (rUn f ra)) :=
  (pe_un ho ha).imp fun sg H Q h => (tR.seq1 (fun _ x S => ofO (f S x) S) h fun _ _ => rfl).mono fun x H1 ⟨e, S, io, x1, d, s, r1, p⟩ => by
    obtain ⟨z, ez, p⟩ := p.ofO
    exact ⟨io, S, x1, z, d, r1, ez, p⟩
theorem ee_cmp {op : CmpOp} {f : Store → D → D → Option D} (ho : OpD X C (compareOp op) f) (ha : PE X a (tE X.K C W ra)) (hb : PE X b (tE X.K C W rb)) (hm : behindInMarks op b = false) : PE X (.Compare a [op] [b] pos) (tE X.K C W (rBin f ra rb)) :=
  (pe_cmpR ho ha hb hm).imp fun sg H Q h => (tR.seq2 repM (fun _ x y S => ofO (f S x y) S) h fun _ _ => rfl).mono fun x H1 h1 => h1.mono fun y H2 ⟨e, S, io, x1, y1, d, s, r1, r2, p⟩ => by
    obtain ⟨z, ez, p⟩ := p.ofO
    exact ⟨io, S, x1, y1, z, d, r1, r2, ez, p⟩
/-- a truth of an answer -/
def asB : D → Option Bool
  | .bl b => some b
  | _ => none
def rTest (a : RE) : RT := fun e S => (a e S).bind fun x S1 => ofO (asB x) S1
theorem asB_rep {K : PySem.W.Frag} {C : Nat → Addr} {io : Io} {F : Hp} {d : D} {v : V} {k : Bool} (h : asB d = some k) (r : Rep K C io F d v) : v = .bl k := by
  cases d <;> cases h
  cases r
  rfl
/-- what a test wants behind the value -/
theorem tTest_of {t : TE} {r : RE} (h1 : ∀ sg H Q, tE X.K C W r sg H Q → t sg H Q) (sg : L2.St) (H : Hp) (Q : Bool → Hp → Prop) (h : tT X.K C W (rTest r) sg H Q) : tTest t sg H Q :=
  h1 sg H _ ((tR.seq1 (R := RepR X.K C) (r := r) (fun _ x S => ofO (asB x) S) h fun _ _ => rfl).mono fun x H1 ⟨e, S, io, x1, d, s, r1, p⟩ => by
    obtain ⟨k, ek, p⟩ := p.ofO
    exact ⟨k, asB_rep ek r1, p k H1 io (Ext.refl _ _) d rfl⟩)
theorem et_cmp {op : CmpOp} {f : Store → D → D → Option D} (ho : OpD X C (compareOp op) f) (ha : PE X a (tE X.K C W ra)) (hb : PE X b (tE X.K C W rb)) (hm : behindInMarks op b = false) : PT X (.Compare a [op] [b] pos) (tT X.K C W (rTest (rBin f ra rb))) :=
  (pt_cmpR ho ha hb hm).imp (tTest_of fun sg H Q h => (tR.seq2 repM (fun _ x y S => ofO (f S x y) S) h fun _ _ => rfl).mono fun x H1 h1 => h1.mono fun y H2 ⟨e, S, io, x1, y1, d, s, r1, r2, p⟩ => by
    obtain ⟨z, ez, p⟩ := p.ofO
    exact ⟨io, S, x1, y1, z, d, r1, r2, ez, p⟩)
end
end Ev
namespace Ev
open PySem PySem.Spec L2

/-! ### names and constants -/
def rVar (i : Nat) : RE := fun e S => match e[i]? with
  | some (some d) => .ok d S
  | _ => .bad
def rCon (d : D) : RE := fun _ S => .ok d S
section
variable {X : Cx} {C : Nat → Addr} {W : WX}
theorem ee_var (i : Nat) {x : Str} {pos : Pos} (hN : X.N[i]? = some x := by rfl) (hv : Vis X.env.scope x := by first | exact Or.inl rfl | exact Or.inr (Or.inl rfl) | exact Or.inr (Or.inr rfl)) (hd : (x == ("__debug__" : Str)) = false := by decide)
    (hcd : (x == ("__classdict__" : Str)) = false := by decide) : PE X (.Name x pos) (tE X.K C W (rVar i)) :=
  (pv i hN hv hd hcd).imp fun sg H Q h => by
    obtain ⟨e, S, io, d, s, p⟩ := h
    unfold rVar at p
    split at p
    · rename_i y ey
      obtain ⟨v, h1, h2⟩ := s.get i y ey
      exact ⟨v, h1, p.here d h2⟩
    · exact p.elim
theorem ee_con {v : V} {d : D} {e : Expr} (h : PE X e (tC v)) (r : ∀ io F, Rep X.K C io F d v) : PE X e (tE X.K C W (rCon d)) :=
  h.imp fun sg H Q h => by
    obtain ⟨e, S, io, d, s, p⟩ := h
    exact p.here d (r _ _)
theorem ee_int {i j pos} : PE X (.Constant (.int i) j pos) (tE X.K C W (rCon (.int i))) := ee_con pe_int fun _ _ => .int i
theorem ee_bl {i j pos} : PE X (.Constant (.bool i) j pos) (tE X.K C W (rCon (.bl i))) := ee_con pe_bl fun _ _ => .bl i
theorem ee_str {i j pos} : PE X (.Constant (.str i) j pos) (tE X.K C W (rCon (.str i))) := ee_con pe_str fun _ _ => .str i
theorem ee_non {j pos} : PE X (.Constant .none j pos) (tE X.K C W (rCon .non)) := ee_con pe_non fun _ _ => .non
theorem ee_glob {x : Str} {v : V} {u : Value} {d : D} {pos : Pos} (hg : Gl X x) (hm : X.mg x = some u) (r : RelV v u) (rd : ∀ io F, Rep X.K C io F d v) (hd : (x == ("__debug__" : Str)) = false := by decide) : PE X (.Name x pos) (tE X.K C W (rCon d)) :=
  ee_con (pe_glob hg hm r hd) rd
end

/-! ### truth -/
def asL (S : Store) : D → Option (List D)
  | .lst xs => some xs
  | .loc n => match S[n]? with
    | some (.lst xs) => some xs
    | _ => none
  | _ => none
theorem asL_rep {K : PySem.W.Frag} {C : Nat → Addr} {io : Io} {S : Store} {H : Hp} {d : D} {v : V} {xs : List D} (h : asL S d = some xs) (dn : Den K C io S H) (r : Rep K C io (Fz io H) d v) :
    ∃ a vs, v = .ref a ∧ SqL K H a vs ∧ Reps K C io (Fz io H) xs vs := by
  cases r with
  | lst q rs => cases h; exact ⟨_, _, rfl, (Fz_same _ _).seq q, rs⟩
  | @loc n a q =>
    simp only [asL] at h
    split at h
    · rename_i ys e
      cases h
      obtain ⟨vs, h1, h2⟩ := dn.obj n _ a e q
      exact ⟨a, vs, rfl, .of h1, h2⟩
    · cases h
  | _ => cases h
theorem SqL.len {X : Cx} {pins : List (Addr × Obj)} {sg : L2.St} {H : Hp} {s : Shared} {a : Addr} {vs : List V} (I : Inv X pins sg H s) (h : SqL X.K H a vs) : vs.length ≤ sizeLine := let ⟨_, _, _, z⟩ := I.list h; z
def truthD (S : Store) : D → Option Bool
  | .non => some false
  | .bl b => some b
  | .int i => some (i != 0)
  | .str x => if x.length ≤ sizeLine then some ((x.length : Int) != 0) else none
  | .tup xs => some (!xs.isEmpty)
  | .lst xs => some (!xs.isEmpty)
  | .dct ks _ => some (!ks.isEmpty)
  | .loc n => match S[n]? with
    | some (.lst xs) => some (!xs.isEmpty)
    | some (.dK ks _) => some (!ks.isEmpty)
    | _ => none
  | .exn _ _ _ => none
theorem isEmpty_len {A B : Type} {xs : List A} {ys : List B} (h : xs.length = ys.length) : xs.isEmpty = ys.isEmpty := by
  cases xs <;> cases ys <;> first | rfl | cases h
theorem truth_rep {K : PySem.W.Frag} {C : Nat → Addr} {io : Io} {S : Store} {H : Hp} {d : D} {v : V} {k : Bool} (h : truthD S d = some k) (dn : Den K C io S H) (r : Rep K C io (Fz io H) d v) : TruV K v H k := by
  cases r with
  | non => cases h; rfl
  | bl => cases h; rfl
  | int => cases h; rfl
  | str x =>
    simp only [truthD] at h
    split at h
    · cases h; exact ⟨by assumption, rfl⟩
    · cases h
  | tup q rs => cases h; exact .inr (.inl ⟨_, sqT_same (Fz_same _ _) q, by rw [isEmpty_len rs.length]⟩)
  | lst q rs => cases h; exact .inl ⟨_, (Fz_same _ _).seq q, by rw [isEmpty_len rs.length]⟩
  | dct q e1 e2 rs => cases h; subst e1; exact .inr (.inr ⟨_, Fz_same _ _ _ _ q, by rw [isEmpty_len (List.length_map ..)]⟩)
  | @loc n a q =>
    simp only [truthD] at h
    split at h
    · rename_i ys e
      cases h
      obtain ⟨vs, h1, h2⟩ := dn.obj n _ a e q
      exact .inl ⟨vs, .of h1, by rw [isEmpty_len h2.length]⟩
    · rename_i ks ys e
      cases h
      obtain ⟨kvs, h1, h2, h3⟩ := dn.obj n _ a e q
      subst h2
      exact .inr (.inr ⟨kvs, h1, by rw [isEmpty_len (List.length_map ..)]⟩)
    · cases h
  | exn0 => cases h
  | exnF => cases h
def rTruth (a : RE) : RT := fun e S => (a e S).bind fun x S1 => ofO (truthD S1 x) S1
def rAndT (a b : RT) : RT := fun e S => (a e S).bind fun k S1 => if k = true then b e S1 else .ok false S1
def rOrT (a b : RT) : RT := fun e S => (a e S).bind fun k S1 => if k = true then .ok true S1 else b e S1
def rNotT (a : RT) : RT := fun e S => (a e S).bind fun k S1 => .ok (!k) S1
def rAnd (a b : RE) : RE := fun e S => (a e S).bind fun x S1 => (ofO (truthD S1 x) S1).bind fun k S2 => if k = true then b e S2 else .ok x S2
def rOr (a b : RE) : RE := fun e S => (a e S).bind fun x S1 => (ofO (truthD S1 x) S1).bind fun k S2 => if k = true then .ok x S2 else b e S2
def rNot (a : RE) : RE := fun e S => (a e S).bind fun x S1 => (ofO (truthD S1 x) S1).bind fun k S2 => .ok (.bl (!k)) S2
def rIf (t : RT) (a b : RE) : RE := fun e S => (t e S).bind fun k S1 => if k = true then a e S1 else b e S1
section
variable {X : Cx} {C : Nat → Addr} {W : WX} {a b c : Expr} {ra rb : RE} {ta tb tc : RT} {rest : List Expr} {pos : Pos}
theorem et_val (ha : PE X a (tE X.K C W ra)) (he : ∀ whole, isTrue a X.env whole = (do let v ← whole; standAt a.pos; holding [v] (truthy v)) := by intro _; rfl) : PT X a (tT X.K C W (rTruth ra)) :=
  (pt_truth ha he).imp fun sg H Q h => (tR.seq1 (fun _ x S => ofO (truthD S x) S) h fun _ _ => rfl).mono fun x H1 ⟨e, S, io, x1, d, s, r1, p⟩ => by
    obtain ⟨k, ek, p⟩ := p.ofO
    exact ⟨k, truth_rep ek d r1, p k H1 io (Ext.refl _ _) d rfl⟩
theorem et_and1 (ha : PT X a (tT X.K C W ta)) : PW X (.BoolOp .And [a] pos) (tT X.K C W ta) := pw_and1 ha
theorem et_or1 (ha : PT X a (tT X.K C W ta)) : PW X (.BoolOp .Or [a] pos) (tT X.K C W ta) := pw_or1 ha
theorem et_and (ha : PT X a (tT X.K C W ta)) (hb : PW X (.BoolOp .And (b :: rest) pos) (tT X.K C W tb)) : PW X (.BoolOp .And (a :: b :: rest) pos) (tT X.K C W (rAndT ta tb)) :=
  (pw_and ha hb).imp fun sg H Q h => (tR.seq1 (R := EqR) (fun e k S1 => if k = true then tb e S1 else .ok false S1) h fun _ _ => rfl).mono fun x H1 ⟨e, S, io, x1, d, s, r1, p⟩ => by
    cases r1
    cases x with
    | true => exact ⟨e, S, io, d, s, p⟩
    | false => exact p false H1 io (Ext.refl _ _) d rfl
theorem et_or (ha : PT X a (tT X.K C W ta)) (hb : PW X (.BoolOp .Or (b :: rest) pos) (tT X.K C W tb)) : PW X (.BoolOp .Or (a :: b :: rest) pos) (tT X.K C W (rOrT ta tb)) :=
  (pw_or ha hb).imp fun sg H Q h => (tR.seq1 (R := EqR) (fun e k S1 => if k = true then .ok true S1 else tb e S1) h fun _ _ => rfl).mono fun x H1 ⟨e, S, io, x1, d, s, r1, p⟩ => by
    cases r1
    cases x with
    | true => exact p true H1 io (Ext.refl _ _) d rfl
    | false => exact ⟨e, S, io, d, s, p⟩
theorem et_not (ha : PT X a (tT X.K C W ta)) : PT X (.UnaryOp .Not a pos) (tT X.K C W (rNotT ta)) :=
  (pt_not ha).imp fun sg H Q h => (tR.seq1 (R := EqR) (fun e k S1 => .ok (!k) S1) h fun _ _ => rfl).mono fun x H1 ⟨e, S, io, x1, d, s, r1, p⟩ => by
    cases r1
    exact p _ H1 io (Ext.refl _ _) d rfl
theorem ee_one {op} (h : PE X a (tE X.K C W ra)) : PE X (.BoolOp op [a] pos) (tE X.K C W ra) := pe_one h
theorem ee_and (ha : PE X a (tE X.K C W ra)) (hb : PE X (.BoolOp .And (b :: rest) pos) (tE X.K C W rb)) : PE X (.BoolOp .And (a :: b :: rest) pos) (tE X.K C W (rAnd ra rb)) :=
  (pe_andT ha hb).imp fun sg H Q h => (tR.seq1 (R := RepR X.K C) (fun e x S1 => (ofO (truthD S1 x) S1).bind fun k S2 => if k = true then rb e S2 else .ok x S2) h fun _ _ => rfl).mono fun x H1 ⟨e, S, io, x1, d, s, r1, p⟩ => by
    cases ek : truthD S x1 with
    | none => simp only [ek, ofO, Res.bind] at p; exact p.elim
    | some k =>
      simp only [ek, ofO, Res.bind] at p
      refine ⟨k, truth_rep ek d r1, ?_⟩
      cases k with
      | true => exact ⟨e, S, io, d, s, p⟩
      | false => exact p _ H1 io (Ext.refl _ _) d r1
theorem ee_or (ha : PE X a (tE X.K C W ra)) (hb : PE X (.BoolOp .Or (b :: rest) pos) (tE X.K C W rb)) : PE X (.BoolOp .Or (a :: b :: rest) pos) (tE X.K C W (rOr ra rb)) :=
  (pe_orT ha hb).imp fun sg H Q h => (tR.seq1 (R := RepR X.K C) (fun e x S1 => (ofO (truthD S1 x) S1).bind fun k S2 => if k = true then .ok x S2 else rb e S2) h fun _ _ => rfl).mono fun x H1 ⟨e, S, io, x1, d, s, r1, p⟩ => by
    cases ek : truthD S x1 with
    | none => simp only [ek, ofO, Res.bind] at p; exact p.elim
    | some k =>
      simp only [ek, ofO, Res.bind] at p
      refine ⟨k, truth_rep ek d r1, ?_⟩
      cases k with
      | true => exact p _ H1 io (Ext.refl _ _) d r1
      | false => exact ⟨e, S, io, d, s, p⟩
theorem ee_not (ha : PE X a (tE X.K C W ra)) : PE X (.UnaryOp .Not a pos) (tE X.K C W (rNot ra)) :=
  (pe_notT ha).imp fun sg H Q h => (tR.seq1 (R := RepR X.K C) (fun e x S1 => (ofO (truthD S1 x) S1).bind fun k S2 => .ok (.bl (!k)) S2) h fun _ _ => rfl).mono fun x H1 ⟨e, S, io, x1, d, s, r1, p⟩ => by
    cases ek : truthD S x1 with
    | none => simp only [ek, ofO, Res.bind] at p; exact p.elim
    | some k =>
      simp only [ek, ofO, Res.bind] at p
      exact ⟨k, truth_rep ek d r1, p _ H1 io (Ext.refl _ _) d (.bl _)⟩
theorem ee_if (hc : PT X c (tT X.K C W tc)) (ha : PE X a (tE X.K C W ra)) (hb : PE X b (tE X.K C W rb)) : PE X (.IfExp c a b pos) (tE X.K C W (rIf tc ra rb)) :=
  (pe_ifExp hc ha hb).imp fun sg H Q h => (tR.seq1 (R := EqR) (fun e k S1 => if k = true then ra e S1 else rb e S1) h fun _ _ => rfl).mono fun x H1 ⟨e, S, io, x1, d, s, r1, p⟩ => by
    cases r1
    cases x with
    | true => exact ⟨e, S, io, d, s, p⟩
    | false => exact ⟨e, S, io, d, s, p⟩
end

/-! ### argument lists, displays -/
def rNil : RA := fun _ S => .ok [] S
def rCons (a : RE) (r : RA) : RA := fun e S => (a e S).bind fun x S1 => (r e S1).bind fun xs S2 => .ok (x :: xs) S2
def AL (n : Nat) (r : RA) : Prop := ∀ e S xs S', r e S = .ok xs S' → xs.length = n
theorem al_nil : AL 0 rNil := fun e S xs S' h => by cases h; rfl
theorem al_cons {n : Nat} {a : RE} {r : RA} (h : AL n r) : AL (n + 1) (rCons a r) := fun e S xs S' q => by
  unfold rCons at q
  cases h1 : a e S with
  | ok x S1 =>
    rw [h1] at q
    simp only [Res.bind] at q
    cases h2 : r e S1 with
    | ok ys S2 =>
      rw [h2] at q
      cases q
      simp [h e S1 ys _ h2]
    | err x S2 => rw [h2] at q; cases q
    | bad => rw [h2] at q; cases q
  | err x S1 => rw [h1] at q; cases q
  | bad => rw [h1] at q; cases q
def rTup (r : RA) : RE := fun e S => (r e S).bind fun xs S1 => .ok (.tup xs) S1
def rLst (r : RA) : RE := fun e S => (r e S).bind fun xs S1 => .ok (.lst xs) S1
def rLstM (r : RA) : RE := fun e S => (r e S).bind fun xs S1 => .ok (.loc S1.length) (S1 ++ [.lst xs])
section
variable {X : Cx} {C : Nat → Addr} {W : WX} {a : Expr} {es : List Expr} {ra : RE} {rs : RA} {pos : Pos}
theorem ea_nil : PA X [] (tA X.K C W rNil) := pa_nil.imp fun sg H Q h => by
  obtain ⟨e, S, io, d, s, p⟩ := h
  exact p.here d .nil
theorem ea_cons (ha : PE X a (tE X.K C W ra)) (hr : PA X es (tA X.K C W rs)) (hs : starEach (a :: es) X.env = (false, eval a X.env) :: starEach es X.env := by rfl) : PA X (a :: es) (tA X.K C W (rCons ra rs)) :=
  (pa_cons ha hr hs).imp fun sg H Q h => (tR.seq2 repM (fun _ x xs S => .ok (x :: xs) S) h fun _ _ => rfl).mono fun x H1 h1 => h1.mono fun y H2 ⟨e, S, io, x1, y1, d, s, r1, r2, p⟩ =>
    p _ H2 io (Ext.refl _ _) d (.cons r1 r2)
/-- what a thing laid anew wants -/
theorem new_tup {K : PySem.W.Frag} {C : Nat → Addr} {io : Io} {S : Store} {H : Hp} {xs : List D} {vs : List V} {p : Addr} (d : Den K C io S H) (r : Reps K C io (Fz io H) xs vs) (hp : H p = none) :
    Ext io H io (upd H p (.tup vs)) ∧ Den K C io S (upd H p (.tup vs)) ∧ Rep K C io (Fz io (upd H p (.tup vs))) (.tup xs) (.ref p) :=
  ⟨Ext.new d hp, d.new hp, .tup (.inl (.inl (by rw [Fz_out (d.fresh hp)]; exact upd_same))) (r.ext (Ext.new d hp))⟩
theorem new_lst {K : PySem.W.Frag} {C : Nat → Addr} {io : Io} {S : Store} {H : Hp} {xs : List D} {vs : List V} {p : Addr} (d : Den K C io S H) (r : Reps K C io (Fz io H) xs vs) (hp : H p = none) :
    Ext io H io (upd H p (.lst vs)) ∧ Den K C io S (upd H p (.lst vs)) ∧ Rep K C io (Fz io (upd H p (.lst vs))) (.lst xs) (.ref p) :=
  ⟨Ext.new d hp, d.new hp, .lst (.inl (.inl (by rw [Fz_out (d.fresh hp)]; exact upd_same))) (r.ext (Ext.new d hp))⟩
theorem new_lstM {K : PySem.W.Frag} {C : Nat → Addr} {io : Io} {S : Store} {H : Hp} {xs : List D} {vs : List V} {p : Addr} (d : Den K C io S H) (r : Reps K C io (Fz io H) xs vs) (hp : H p = none) :
    Ext io H (io.add p) (upd H p (.lst vs)) ∧ Den K C (io.add p) (S ++ [.lst xs]) (upd H p (.lst vs)) ∧ Rep K C (io.add p) (Fz (io.add p) (upd H p (.lst vs))) (.loc S.length) (.ref p) :=
  ⟨Ext.loc hp, d.loc hp ⟨vs, upd_same, r.ext (Ext.loc hp)⟩, .loc (by rw [← d.len]; show (io.l ++ [p])[io.l.length]? = some p; rw [List.getElem?_append_right (Nat.le_refl _)]; simp)⟩
theorem al_le {n : Nat} {r : RA} {e : Env} {S S' : Store} {xs : List D} (h : AL n r) (hn : n ≤ sizeLine) (q : r e S = .ok xs S') : xs.length ≤ sizeLine := by rw [h e S xs S' q]; exact hn
/-- arguments, with their number -/
theorem tA.alen {n : Nat} {K : PySem.W.Frag} {C : Nat → Addr} {sg : L2.St} {H : Hp} {Q : List V → Hp → Prop} (hn : AL n rs) (h : tA K C W rs sg H Q) : tA K C W rs sg H (fun vs H1 => vs.length = n ∧ Q vs H1) := by
  obtain ⟨e, S, io, d, s, p⟩ := h
  refine ⟨e, S, io, d, s, ?_⟩
  cases q : rs e S with
  | ok xs S1 =>
    rw [q] at p
    exact fun b H' io' x d' r => ⟨r.length.symm.trans (hn e S xs S1 q), p b H' io' x d' r⟩
  | err x S1 => rw [q] at p; exact p
  | bad => rw [q] at p; exact p
theorem ee_tup {n : Nat} {k} (h : PA X es (tA X.K C W rs)) (hn : AL n rs) (hz : n ≤ sizeLine := by decide) : PE X (.Tuple es k pos) (tE X.K C W (rTup rs)) :=
  (pe_tup h).imp fun sg H Q h => tR.mono (tA.alen hn (tR.seq1 (fun _ xs S => .ok (.tup xs) S) h fun _ _ => rfl)) fun vs H1 ⟨hl, e, S, io, xs, d, s, r1, p⟩ =>
    ⟨by rw [hl]; exact hz, fun q hq => let ⟨x, d', r'⟩ := new_tup d r1 hq; p _ _ _ x d' r'⟩
theorem ee_lst {n : Nat} (h : PA X es (tA X.K C W rs)) (hn : AL n rs) (hz : n ≤ sizeLine := by decide) : PE X (.List es pos) (tE X.K C W (rLst rs)) :=
  (pe_lst h).imp fun sg H Q h => tR.mono (tA.alen hn (tR.seq1 (fun _ xs S => .ok (.lst xs) S) h fun _ _ => rfl)) fun vs H1 ⟨hl, e, S, io, xs, d, s, r1, p⟩ =>
    ⟨by rw [hl]; exact hz, fun q hq => let ⟨x, d', r'⟩ := new_lst d r1 hq; p _ _ _ x d' r'⟩
theorem ee_lstM {n : Nat} (h : PA X es (tA X.K C W rs)) (hn : AL n rs) (hz : n ≤ sizeLine := by decide) : PE X (.List es pos) (tE X.K C W (rLstM rs)) :=
  (pe_lst h).imp fun sg H Q h => tR.mono (tA.alen hn (tR.seq1 (fun _ xs S => .ok (.loc S.length) (S ++ [.lst xs])) h fun _ _ => rfl)) fun vs H1 ⟨hl, e, S, io, xs, d, s, r1, p⟩ =>
    ⟨by rw [hl]; exact hz, fun q hq => let ⟨x, d', r'⟩ := new_lstM d r1 hq; p _ _ _ x d' r'⟩
end
end Ev
namespace Ev
open PySem PySem.Spec L2

/-! ### numbers -/
section
variable {X : Cx} {C : Nat → Addr}
/-- an operation that lays nothing -/
theorem opD_flat {g : Value → Value → Sem Value} {f : Store → D → D → Option D} {r : R2} (h : OpR X g r)
    (hf : ∀ io S H a b d x y, Den X.K C io S H → Rep X.K C io (Fz io H) a x → Rep X.K C io (Fz io H) b y → f S a b = some d → ∃ z, (∀ F, Rep X.K C io F d z) ∧ ∀ Q : VK, Q z H → r x y H Q) : OpD X C g f := by
  intro pins s sg H x y v u Q I rx ry ⟨io, S, a, b, d, dn, ra, rb, e, q⟩
  obtain ⟨z, rz, hq⟩ := hf io S H a b d x y dn ra rb e
  exact h pins s sg H x y v u Q I rx ry (hq Q (q z H io (Ext.refl _ _) dn (rz _)))
theorem OpD.or {g : Value → Value → Sem Value} {f f1 f2 : Store → D → D → Option D} (h1 : OpD X C g f1) (h2 : OpD X C g f2) (h : ∀ S a b d, f S a b = some d → f1 S a b = some d ∨ f2 S a b = some d) : OpD X C g f := by
  intro pins s sg H x y v u Q I rx ry ⟨io, S, a, b, d, dn, ra, rb, e, q⟩
  rcases h S a b d e with e | e
  · exact h1 pins s sg H x y v u Q I rx ry ⟨io, S, a, b, d, dn, ra, rb, e, q⟩
  · exact h2 pins s sg H x y v u Q I rx ry ⟨io, S, a, b, d, dn, ra, rb, e, q⟩
/-- two ints -/
def i2 (c : Int → Int → Bool) (g : Int → Int → D) : Store → D → D → Option D
  | _, .int i, .int j => if c i j = true then some (g i j) else none
  | _, _, _ => none
theorem i2_some {c : Int → Int → Bool} {g : Int → Int → D} {S : Store} {a b d : D} (h : i2 c g S a b = some d) : ∃ i j, a = .int i ∧ b = .int j ∧ c i j = true ∧ d = g i j := by
  cases a <;> cases b <;> simp only [i2] at h <;> first | cases h | skip
  rename_i i j
  split at h
  · cases h; exact ⟨i, j, rfl, rfl, by assumption, rfl⟩
  · cases h
theorem opD_i2 {g : Value → Value → Sem Value} {c : Int → Int → Bool} {Cc : Int → Int → Prop} {k : Int → Int → V} {kd : Int → Int → D} (h : OpR X g (rI Cc k)) (hc : ∀ i j, c i j = true → Cc i j) (hk : ∀ io F i j, Rep X.K C io F (kd i j) (k i j)) : OpD X C g (i2 c kd) :=
  opD_flat h fun io S H a b d x y dn ra rb e => by
    obtain ⟨i, j, rfl, rfl, hb, rfl⟩ := i2_some e
    cases ra; cases rb
    exact ⟨k i j, fun F => hk io F i j, fun Q q => ⟨i, j, rfl, rfl, hc i j hb, q⟩⟩
theorem opD_i20 {g : Value → Value → Sem Value} {k : Int → Int → V} {kd : Int → Int → D} (h : OpR X g (rI0 k)) (hk : ∀ io F i j, Rep X.K C io F (kd i j) (k i j)) : OpD X C g (i2 (fun _ _ => true) kd) :=
  opD_flat h fun io S H a b d x y dn ra rb e => by
    obtain ⟨i, j, rfl, rfl, hb, rfl⟩ := i2_some e
    cases ra; cases rb
    exact ⟨k i j, fun F => hk io F i j, fun Q q => ⟨i, j, rfl, rfl, q⟩⟩

/-! ### + -/
def addD (S : Store) (a b : D) : Option D := match a, b with
  | .int i, .int j => some (.int (i + j))
  | .str x, .str y => if x.length + y.length ≤ sizeLine then some (.str (x ++ y)) else none
  | .tup xs, .tup ys => if xs.length + ys.length ≤ sizeLine then some (.tup (xs ++ ys)) else none
  | a, b => match asL S a, asL S b with
    | some xs, some ys => if xs.length + ys.length ≤ sizeLine then some (.lst (xs ++ ys)) else none
    | _, _ => none
/-- two lists that are read, glued -/
def rCatL (K : PySem.W.Frag) : R2 := fun x y H Q => ∃ l b xs zs, x = .ref l ∧ y = .ref b ∧ SqL K H l xs ∧ SqL K H b zs ∧ xs.length + zs.length ≤ sizeLine ∧ ∀ p, H p = none → Q (.ref p) (upd H p (.lst (xs ++ zs)))
open PyProof.Rows PySem.P in
theorem op_catL : OpR X (binaryOp .Add) (rCatL X.K) := by
  intro pins s sg H x y v u Q I rx ry h
  obtain ⟨l, b, xs, zs, rfl, rfl, hH, hB, hz, q⟩ := h
  cases rx
  cases ry
  obtain ⟨its, r, ⟨⟨c1, d1, t1, sl1⟩, n, e, hc, hd, hs⟩, z⟩ := I.list hH
  obtain ⟨its2, r2, ⟨⟨c2, d2, t2, sl2⟩, n2, e2, hc2, hd2, hs2⟩, z2⟩ := I.list hB
  simp only at hc hd hs hc2 hd2 hs2
  subst hc hd hs hc2 hd2 hs2
  have hl := r.length
  have hl2 := r2.length
  have ea : its.toArray ++ its2.toArray = (its ++ its2).toArray := by simp
  refine concat_meets ⟨_, e, rfl⟩ ⟨_, e2, rfl⟩ noFill_list_add seq_list_add PySem.F.slot_list_add PySem.F.entry_list_add (PySem.F.args_list_add_2 _ _) (list_addW l b its.toArray its2.toArray n n2 none none sl1 sl2 (by rw [List.size_toArray, List.size_toArray]; omega)) ⟨e, e2, ?_⟩
  rw [ea]
  exact ⟨.ref _, _, I.lnew (t' := s.toks) (r.append r2) (by rw [List.length_append]; omega), rfl, q _ I.fresh⟩

theorem addD_ok : OpD X C (binaryOp .Add) addD := by
  intro pins s sg H x y v u Q I rx ry ⟨io, S, a, b, d, dn, ra, rb, e, q⟩
  unfold addD at e
  split at e
  · cases e; cases ra; cases rb
    exact op_add pins s sg H _ _ v u Q I rx ry ⟨_, _, rfl, rfl, q _ H io (Ext.refl _ _) dn (.int _)⟩
  · split at e
    · cases e; cases ra; cases rb
      exact op_add_str pins s sg H _ _ v u Q I rx ry ⟨_, _, rfl, rfl, by assumption, q _ H io (Ext.refl _ _) dn (.str _)⟩
    · cases e
  · split at e
    · rename_i xs ys hz
      cases e
      cases ra with
      | @tup pa va _ qa ra =>
      cases rb with
      | @tup pb vb _ qb rb =>
      have l1 := ra.length
      have l2 := rb.length
      refine op_catA pins s sg H _ _ v u Q I rx ry ⟨_, _, _, _, rfl, rfl, sqT_same (Fz_same _ _) qa, sqT_same (Fz_same _ _) qb, by omega, fun ex => ?_, fun nx ey => ?_, fun nx ny p hp => ?_⟩
      · subst ex
        cases xs with
        | nil => exact q _ H io (Ext.refl _ _) dn (.tup qb rb)
        | cons _ _ => cases l1
      · subst ey
        cases ys with
        | nil => rw [List.append_nil] at q; exact q _ H io (Ext.refl _ _) dn (.tup qa ra)
        | cons _ _ => cases l2
      · obtain ⟨x1, d1, r1⟩ := new_tup dn (ra.append rb) hp
        exact q _ _ io x1 d1 r1
    · cases e
  · split at e
    · rename_i xs ys e1 e2
      split at e
      · cases e
        obtain ⟨p1, v1, rfl, h1, r1⟩ := asL_rep e1 dn ra
        obtain ⟨p2, v2, rfl, h2, r2⟩ := asL_rep e2 dn rb
        have l1 := r1.length
        have l2 := r2.length
        refine op_catL pins s sg H _ _ v u Q I rx ry ⟨_, _, _, _, rfl, rfl, h1, h2, by omega, fun p hp => ?_⟩
        obtain ⟨x1, d1, r1⟩ := new_lst dn (r1.append r2) hp
        exact q _ _ io x1 d1 r1
      · cases e
    · cases e
/-! ### the other operators of numbers -/
def mulOk (i j : Int) : Bool := (decide (-(2 ^ 64) < i) && decide (i < 2 ^ 64)) || (decide (-(2 ^ 64) < j) && decide (j < 2 ^ 64))
def subD : Store → D → D → Option D := i2 (fun _ _ => true) fun i j => .int (i - j)
def mulD : Store → D → D → Option D := i2 mulOk fun i j => .int (i * j)
def divD : Store → D → D → Option D := i2 (fun _ j => decide (0 < j) && decide (j < 18446744073709551616)) fun i j => .int (i / j)
def modD : Store → D → D → Option D := i2 (fun _ j => decide (0 < j)) fun i j => .int (i % j)
def powOk (i j : Int) : Bool := decide (0 ≤ j) && decide (j ≤ 1000000) && decide (i.natAbs < 2 ^ 64)
def powD : Store → D → D → Option D := i2 powOk fun i j => .int (i ^ j.toNat)
def shlD : Store → D → D → Option D := i2 powOk fun i j => .int (i * 2 ^ j.toNat)
def shrD : Store → D → D → Option D := i2 (fun _ j => decide (0 ≤ j)) fun i j => .int (i / 2 ^ j.toNat)
def andD : Store → D → D → Option D := i2 (fun _ _ => true) fun i j => .int (Builtin.bitAnd i j)
def orD : Store → D → D → Option D := i2 (fun _ _ => true) fun i j => .int (Builtin.bitOr i j)
def xorD : Store → D → D → Option D := i2 (fun _ _ => true) fun i j => .int (Builtin.bitXor i j)
def ltD : Store → D → D → Option D := i2 (fun _ _ => true) fun i j => .bl (decide (i < j))
def leD : Store → D → D → Option D := i2 (fun _ _ => true) fun i j => .bl (decide (i ≤ j))
def gtD : Store → D → D → Option D := i2 (fun _ _ => true) fun i j => .bl (decide (j < i))
def geD : Store → D → D → Option D := i2 (fun _ _ => true) fun i j => .bl (decide (j ≤ i))
theorem subD_ok : OpD X C (binaryOp .Sub) subD := opD_i20 op_sub fun _ _ _ _ => .int _
theorem mulD_ok : OpD X C (binaryOp .Mult) mulD := opD_i2 op_mul (fun i j h => by simpa [mulOk, CMul] using h) fun _ _ _ _ => .int _
theorem divD_ok : OpD X C (binaryOp .FloorDiv) divD := opD_i2 op_fdivW (fun i j h => by
  simp only [Bool.and_eq_true, decide_eq_true_eq] at h
  exact wide_div (b := 64) h.1 (by omega) (by decide) (by decide)) fun _ _ _ _ => .int _
theorem modD_ok : OpD X C (binaryOp .Mod) modD := opD_i2 op_mod (fun i j h => by simpa using h) fun _ _ _ _ => .int _
theorem powOk_of {i j : Int} (h : powOk i j = true) : CPow i j := by
  unfold powOk at h
  rw [Bool.and_eq_true, Bool.and_eq_true, decide_eq_true_iff, decide_eq_true_iff, decide_eq_true_iff] at h
  exact ⟨h.1.1, h.1.2, h.2⟩
theorem powD_ok : OpD X C (binaryOp .Pow) powD := opD_i2 op_pow (fun i j h => powOk_of h) fun _ _ _ _ => .int _
theorem shlD_ok : OpD X C (binaryOp .LShift) shlD := opD_i2 op_shl (fun i j h => powOk_of h) fun _ _ _ _ => .int _
theorem shrD_ok : OpD X C (binaryOp .RShift) shrD := opD_i2 op_shr (fun i j h => by simpa using h) fun _ _ _ _ => .int _
theorem andD_ok : OpD X C (binaryOp .BitAnd) andD := opD_i20 op_and fun _ _ _ _ => .int _
theorem orD_ok : OpD X C (binaryOp .BitOr) orD := opD_i20 op_or fun _ _ _ _ => .int _
theorem xorD_ok : OpD X C (binaryOp .BitXor) xorD := opD_i20 op_xor fun _ _ _ _ => .int _
theorem ltD_ok : OpD X C (compareOp .Lt) ltD := opD_i20 op_lt fun _ _ _ _ => .bl _
theorem leD_ok : OpD X C (compareOp .LtE) leD := opD_i20 op_le fun _ _ _ _ => .bl _
theorem gtD_ok : OpD X C (compareOp .Gt) gtD := opD_i20 op_gt fun _ _ _ _ => .bl _
theorem geD_ok : OpD X C (compareOp .GtE) geD := opD_i20 op_ge fun _ _ _ _ => .bl _
def negD : Store → D → Option D
  | _, .int i => some (.int (-i))
  | _, _ => none
theorem negD_ok : UnD X C (unaryOp .USub) negD := by
  intro pins s sg H x v Q I rx ⟨io, S, a, d, dn, ra, e, q⟩
  cases ra <;> cases e
  exact un_neg pins s sg H _ v Q I rx ⟨_, rfl, q _ H io (Ext.refl _ _) dn (.int _)⟩

/-! ### is None; data, == -/
def isN : Store → D → D → Option D
  | _, .non, .non => some (.bl true)
  | _, .loc _, .non => some (.bl false)
  | _, .exn _ _ _, .non => some (.bl false)
  | _, .bl _, .non => some (.bl false)
  | _, .int _, .non => some (.bl false)
  | _, .str _, .non => some (.bl false)
  | _, .tup _, .non => some (.bl false)
  | _, .lst _, .non => some (.bl false)
  | _, .dct _ _, .non => some (.bl false)
  | _, .bl a, .bl b => some (.bl (decide (a = b)))
  | _, _, _ => none
def isNot : Store → D → D → Option D
  | _, .non, .non => some (.bl false)
  | _, .loc _, .non => some (.bl true)
  | _, .exn _ _ _, .non => some (.bl true)
  | _, .bl _, .non => some (.bl true)
  | _, .int _, .non => some (.bl true)
  | _, .str _, .non => some (.bl true)
  | _, .tup _, .non => some (.bl true)
  | _, .lst _, .non => some (.bl true)
  | _, .dct _ _, .non => some (.bl true)
  | _, .bl a, .bl b => some (.bl (!decide (a = b)))
  | _, _, _ => none
theorem isN_ok : OpD X C (compareOp .Is) isN := opD_flat (op_isN.or op_is_bl) fun io S H a b d x y dn ra rb e => by
  cases rb <;> cases ra <;> cases e <;> first
    | exact ⟨.bl true, fun _ => .bl _, fun Q q => .inl ⟨rfl, q⟩⟩
    | exact ⟨.bl false, fun _ => .bl _, fun Q q => .inl ⟨rfl, q⟩⟩
    | exact ⟨_, fun _ => .bl _, fun Q q => .inr ⟨_, _, rfl, rfl, q⟩⟩
theorem isNot_ok : OpD X C (compareOp .IsNot) isNot := opD_flat (op_notN.or op_isnot_bl) fun io S H a b d x y dn ra rb e => by
  cases rb <;> cases ra <;> cases e <;> first
    | exact ⟨.bl true, fun _ => .bl _, fun Q q => .inl ⟨rfl, q⟩⟩
    | exact ⟨.bl false, fun _ => .bl _, fun Q q => .inl ⟨rfl, q⟩⟩
    | exact ⟨_, fun _ => .bl _, fun Q q => .inr ⟨_, _, rfl, rfl, q⟩⟩
end
def pyAll (f : D → Option PyData) : List D → Option (List PyData)
  | [] => some []
  | x :: xs => (f x).bind fun y => (pyAll f xs).bind fun ys => some (y :: ys)
/-- a value as plain data -/
def pyD (S : Store) : Nat → D → Option PyData
  | _, .non => some .none
  | _, .bl b => some (.bool b)
  | _, .int i => some (.int i)
  | _, .str x => some (.str x)
  | n + 1, .tup xs => (pyAll (pyD S n) xs).bind fun ys => some (.tuple ys)
  | n + 1, .lst xs => (pyAll (pyD S n) xs).bind fun ys => some (.list ys)
  | n + 1, .loc k => match S[k]? with
    | some (.lst xs) => (pyAll (pyD S n) xs).bind fun ys => some (.list ys)
    | _ => none
  | _, _ => none
theorem pyAll_cons {f : D → Option PyData} {x : D} {xs : List D} {ps : List PyData} (h : pyAll f (x :: xs) = some ps) : ∃ y ys, f x = some y ∧ pyAll f xs = some ys ∧ ps = y :: ys := by
  simp only [pyAll] at h
  cases h1 : f x with
  | none => rw [h1] at h; cases h
  | some y =>
    rw [h1] at h
    cases h2 : pyAll f xs with
    | none => rw [h2] at h; cases h
    | some ys => rw [h2] at h; cases h; exact ⟨y, ys, rfl, rfl, rfl⟩
theorem bind_some' {A B : Type} {o : Option A} {f : A → Option B} {b : B} (h : o.bind f = some b) : ∃ a, o = some a ∧ f a = some b := by
  cases o with
  | none => cases h
  | some a => exact ⟨a, rfl, h⟩
section
variable {X : Cx} {C : Nat → Addr} {io : Io} {S : Store} {H : Hp} {pins : List (Addr × Obj)} {sg : L2.St} {s : Shared}
theorem pyAll_reads {K : PySem.W.Frag} {C : Nat → Addr} {f : D → Option PyData} (hf : ∀ d v p, f d = some p → Rep K C io (Fz io H) d v → Dp K H v p ∧ p.plain = true) : ∀ {xs : List D} {vs : List V} {ps : List PyData}, pyAll f xs = some ps → Reps K C io (Fz io H) xs vs → DpAll K H vs ps ∧ PyData.plainAll ps = true
  | _, _, _, h, .nil => by cases h; exact ⟨.nil, rfl⟩
  | _, _, _, h, .cons r rs => by
    obtain ⟨y, ys, h1, h2, rfl⟩ := pyAll_cons h
    obtain ⟨a, b⟩ := hf _ _ _ h1 r
    obtain ⟨c, d⟩ := pyAll_reads hf h2 rs
    exact ⟨.cons a c, by simp only [PyData.plainAll, b, d, Bool.and_self]⟩
theorem pyD_reads {K : PySem.W.Frag} {C : Nat → Addr} (dn : Den K C io S H) : ∀ (n : Nat) (d : D) (v : V) (p : PyData), pyD S n d = some p → Rep K C io (Fz io H) d v → Dp K H v p ∧ p.plain = true := by
  intro n
  induction n with
  | zero =>
    intro d v p h r
    cases r <;> simp only [pyD] at h <;> cases h
    · exact ⟨.non, rfl⟩
    · exact ⟨.bl _, rfl⟩
    · exact ⟨.int _, rfl⟩
    · exact ⟨.str _, rfl⟩
  | succ n ih =>
    intro d v p h r
    cases r with
    | non => cases h; exact ⟨.non, rfl⟩
    | bl => cases h; exact ⟨.bl _, rfl⟩
    | int => cases h; exact ⟨.int _, rfl⟩
    | str => cases h; exact ⟨.str _, rfl⟩
    | tup q rs =>
      obtain ⟨ys, h1, h2⟩ := bind_some' h
      cases h2
      obtain ⟨a, b⟩ := pyAll_reads ih h1 rs
      exact ⟨.tup (sqT_same (Fz_same _ _) q) a, by simp only [PyData.plain]; exact b⟩
    | lst q rs =>
      obtain ⟨ys, h1, h2⟩ := bind_some' h
      cases h2
      obtain ⟨a, b⟩ := pyAll_reads ih h1 rs
      exact ⟨.lst ((Fz_same _ _).seq q) a, by simp only [PyData.plain]; exact b⟩
    | @loc k a q =>
      simp only [pyD] at h
      split at h
      · rename_i xs e
        obtain ⟨ys, h1, h2⟩ := bind_some' h
        cases h2
        obtain ⟨vs, e1, rs⟩ := dn.obj k _ a e q
        obtain ⟨a, b⟩ := pyAll_reads ih h1 rs
        exact ⟨.lst (.of e1) a, by simp only [PyData.plain]; exact b⟩
      · cases h
    | dct => cases h
    | exn0 => cases h
    | exnF => cases h
theorem pyAll_depth {f : D → Option PyData} {n : Nat} (hf : ∀ d p, f d = some p → p.depth ≤ n) : ∀ {xs : List D} {ps : List PyData}, pyAll f xs = some ps → PyData.depthAll ps ≤ n
  | [], _, h => by cases h; simp [PyData.depthAll]
  | x :: xs, _, h => by
    obtain ⟨y, ys, h1, h2, rfl⟩ := pyAll_cons h
    have a := hf _ _ h1
    have b := pyAll_depth hf h2
    simp only [PyData.depthAll]
    omega
theorem pyD_depth : ∀ (n : Nat) (d : D) (p : PyData), pyD S n d = some p → p.depth ≤ n := by
  intro n
  induction n with
  | zero => intro d p h; cases d <;> simp only [pyD] at h <;> cases h <;> simp [PyData.depth]
  | succ n ih =>
    intro d p h
    cases d with
    | non => cases h; simp [PyData.depth]
    | bl => cases h; simp [PyData.depth]
    | int => cases h; simp [PyData.depth]
    | str => cases h; simp [PyData.depth]
    | tup xs =>
      obtain ⟨ys, h1, h2⟩ := bind_some' h
      cases h2
      simp only [PyData.depth]
      exact Nat.succ_le_succ (pyAll_depth ih h1)
    | lst xs =>
      obtain ⟨ys, h1, h2⟩ := bind_some' h
      cases h2
      simp only [PyData.depth]
      exact Nat.succ_le_succ (pyAll_depth ih h1)
    | loc k =>
      simp only [pyD] at h
      split at h
      · obtain ⟨ys, h1, h2⟩ := bind_some' h
        cases h2
        simp only [PyData.depth]
        exact Nat.succ_le_succ (pyAll_depth ih h1)
      · cases h
    | dct => cases h
    | exn => cases h
/-- a value that reads as data -/
theorem reads_of (I : L2.Inv X pins sg H s) (dn : Den X.K C io S H) {n : Nat} {d : D} {v : V} {p : PyData} {u : Value} (h : pyD S n d = some p) (r : Rep X.K C io (Fz io H) d v) (ru : RelV v u) :
    (∃ as, Reads s.heap u p as) ∧ p.plain = true ∧ p.depth ≤ n := by
  obtain ⟨a, b⟩ := pyD_reads dn n d v p h r
  exact ⟨Dp.reads I p v u a ru, b, pyD_depth n d p h⟩
end
/-- how deep data may lie -/
def deepN : Nat := 60
def eqB (S : Store) (a b : D) : Option Bool := (pyD S deepN a).bind fun x => (pyD S deepN b).bind fun y => some (PyData.eqv x y)
def eqD (S : Store) (a b : D) : Option D := (eqB S a b).bind fun k => some (.bl k)
def neD (S : Store) (a b : D) : Option D := (eqB S a b).bind fun k => some (.bl (!k))
section
variable {X : Cx} {C : Nat → Addr}
theorem eqD_ok (hu : X.A.units + 64 < cLine) : OpD X C (compareOp .Eq) eqD := by
  intro pins s sg H x y v u Q I rx ry ⟨io, S, a, b, d, dn, ra, rb, e, q⟩
  obtain ⟨k, e1, e2⟩ := bind_some' e
  obtain ⟨p, h1, e1⟩ := bind_some' e1
  obtain ⟨p', h2, e1⟩ := bind_some' e1
  cases e1; cases e2
  obtain ⟨⟨as, r1⟩, b1, l1⟩ := reads_of I dn h1 ra rx
  obtain ⟨⟨bs, r2⟩, b2, l2⟩ := reads_of I dn h2 rb ry
  have hl : min p.depth p'.depth ≤ 60 := Nat.le_trans (Nat.min_le_left _ _) l1
  exact SeqAt.eq_plain r1 r2 b1 b2 (by omega) ⟨.bl _, H, I, rfl, q _ H io (Ext.refl _ _) dn (.bl _)⟩
theorem neD_ok (hu : X.A.units + 64 < cLine) : OpD X C (compareOp .NotEq) neD := by
  intro pins s sg H x y v u Q I rx ry ⟨io, S, a, b, d, dn, ra, rb, e, q⟩
  obtain ⟨k, e1, e2⟩ := bind_some' e
  obtain ⟨p, h1, e1⟩ := bind_some' e1
  obtain ⟨p', h2, e1⟩ := bind_some' e1
  cases e1; cases e2
  obtain ⟨⟨as, r1⟩, b1, l1⟩ := reads_of I dn h1 ra rx
  obtain ⟨⟨bs, r2⟩, b2, l2⟩ := reads_of I dn h2 rb ry
  have hl : min p.depth p'.depth ≤ 60 := Nat.le_trans (Nat.min_le_left _ _) l1
  exact SeqAt.ne_plain r1 r2 b1 b2 (by omega) ⟨.bl _, H, I, rfl, q _ H io (Ext.refl _ _) dn (.bl _)⟩
end
end Ev
namespace Ev
open PySem PySem.Spec L2

/-! ### chains of comparisons -/
abbrev RC := D → RE
def rLast (f : Store → D → D → Option D) (b : RE) : RC := fun x e S => (b e S).bind fun y S1 => ofO (f S1 x y) S1
def rLink (f : Store → D → D → Option D) (b : RE) (k : RC) : RC := fun x e S => (b e S).bind fun y S1 => (ofO ((f S1 x y).bind asB) S1).bind fun t S2 => if t = true then k y e S2 else .ok (.bl false) S2
def rChain (a : RE) (k : RC) : RE := fun e S => (a e S).bind fun x S1 => k x e S1
structure PCh (X : Cx) (C : Nat → Addr) (W : WX) (ops : List CmpOp) (es : List Expr) (r : RC) : Prop where
  run : ∀ (pos : Pos) (pins : List (Addr × Obj)) (s : Shared) (sg : L2.St) (H : Hp) (Q : VK) (x : V) (v : Value) (e : Env) (S : Store) (io : Io) (d : D), L2.Inv X pins sg H s → RelV x v → Den X.K C io S H → Slots X.K C io (Fz io H) e sg → Rep X.K C io (Fz io H) d x →
    Post X.K C (RepR X.K C) W sg io H (r d e S) Q → wpAny (model X.prog X.w) X.A (compareChain pos v ops (evalEach es X.env)) (EP X pins sg Q) X.xe s
  runT : ∀ (pos : Pos) (pins : List (Addr × Obj)) (s : Shared) (sg : L2.St) (H : Hp) (Q : Bool → Hp → Prop) (x : V) (v : Value) (e : Env) (S : Store) (io : Io) (d : D), L2.Inv X pins sg H s → RelV x v → Den X.K C io S H → Slots X.K C io (Fz io H) e sg → Rep X.K C io (Fz io H) d x →
    Post X.K C EqR W sg io H ((r d e S).bind fun z S1 => ofO (asB z) S1) Q → wpAny (model X.prog X.w) X.A (testChain pos v ops (evalEach es X.env)) (TP X pins sg Q) X.xe s
section
variable {X : Cx} {C : Nat → Addr} {W : WX} {a b b' c : Expr} {bs : List Expr} {ra rb : RE} {op op' : CmpOp} {ops : List CmpOp} {f : Store → D → D → Option D} {k : RC} {pos : Pos}
theorem Post.asB {K : PySem.W.Frag} {C : Nat → Addr} {sg : L2.St} {io : Io} {H : Hp} {z : D} {S : Store} {Q : Bool → Hp → Prop} (h : Post K C EqR W sg io H (Ev.ofO (Ev.asB z) S) Q) : ∃ t, Ev.asB z = some t ∧ ∀ H' io', Ext io H io' H' → Den K C io' S H' → Q t H' := by
  obtain ⟨t, e, p⟩ := h.ofO
  exact ⟨t, e, fun H' io' x d => p t H' io' x d rfl⟩
theorem ch_last (ho : OpD X C (compareOp op) f) (hb : PE X b (tE X.K C W rb)) : PCh X C W [op] [b] (rLast f rb) where
  run := fun pos pins s sg H Q x v e S io d I rx dn sl r p =>
    PyProof.Rows.chain_last (thn (hb.run pins s sg H _ I ⟨e, S, io, dn, sl, Post.bind (R := RepR X.K C) (k := fun y S1 => ofO (f S1 d y) S1) p⟩) fun u s1 ⟨y, H1, I1, r1, io1, S1, y1, x1, d1, q1, p1⟩ => by
      obtain ⟨z, ez, p1⟩ := p1.ofO
      exact ho pins s1 sg H1 x y v u Q I1 rx r1 ⟨io1, S1, d, y1, z, d1, r.ext x1, q1, ez, p1⟩)
  runT := fun pos pins s sg H Q x v e S io d I rx dn sl r p =>
    PyProof.Rows.test_last (thn (hb.run pins s sg H _ I ⟨e, S, io, dn, sl, Post.bind (R := RepR X.K C) (R' := EqR) (Q := Q) (k := fun y S1 => (ofO (f S1 d y) S1).bind fun z S2 => ofO (asB z) S2) (by rw [← bind_assoc]; exact p)⟩) fun u s1 ⟨y, H1, I1, r1, io1, S1, y1, x1, d1, q1, p1⟩ => by
      cases ez : f S1 d y1 with
      | none => rw [ez] at p1; exact p1.elim
      | some z =>
        rw [ez] at p1
        obtain ⟨t, et, p1⟩ := p1.asB
        refine thn (ho pins s1 sg H1 x y v u (fun w H' => w = .bl t ∧ Q t H') I1 rx r1 ⟨io1, S1, d, y1, z, d1, r.ext x1, q1, ez, fun w H' io' x' d' r' => ⟨asB_rep et r', p1 H' io' x' d'⟩⟩) fun w s2 ⟨w', H2, I2, r2, e2, q2⟩ => ?_
        subst e2
        cases r2
        exact wpAny_truthy_bool ⟨H2, I2, q2⟩)
theorem ch_link (ho : OpD X C (compareOp op) f) (hb : PE X b (tE X.K C W rb)) (hr : PCh X C W (op' :: ops) (b' :: bs) k) : PCh X C W (op :: op' :: ops) (b :: b' :: bs) (rLink f rb k) where
  run := fun pos pins s sg H Q x v e S io d I rx dn sl r p =>
    PyProof.Rows.chain_link (thn (hb.run pins s sg H _ I ⟨e, S, io, dn, sl, Post.bind (R := RepR X.K C) (k := fun y S1 => (ofO ((f S1 d y).bind asB) S1).bind fun t S2 => if t = true then k y e S2 else .ok (.bl false) S2) p⟩) fun u s1 ⟨y, H1, I1, r1, io1, S1, y1, x1, d1, q1, p1⟩ => by
      cases ez : f S1 d y1 with
      | none => rw [ez] at p1; exact p1.elim
      | some z =>
        rw [ez] at p1
        cases et : asB z with
        | none => simp only [Option.bind, et] at p1; exact p1.elim
        | some t =>
        simp only [Option.bind, et, Ev.ofO, Res.bind] at p1
        refine thn (ho pins s1 sg H1 x y v u (fun w H' => w = .bl t ∧ ∃ io', Ext io1 H1 io' H' ∧ Den X.K C io' S1 H') I1 rx r1 ⟨io1, S1, d, y1, z, d1, r.ext x1, q1, ez, fun w H' io' x' d' r' => ⟨asB_rep et r', io', x', d'⟩⟩) fun w s2 ⟨w', H2, I2, r2, e2, io2, x2, d2⟩ => ?_
        subst e2
        cases r2
        refine wpAny_truthy_bool ?_
        cases t with
        | true => exact hr.run pos pins s2 sg H2 Q y u e S1 io2 y1 I2 r1 d2 ((sl.ext x1).ext x2) (q1.ext x2) (p1.ext x2)
        | false => exact ⟨.bl false, H2, I2, rfl, p1 _ H2 io2 x2 d2 (.bl _)⟩)
  runT := fun pos pins s sg H Q x v e S io d I rx dn sl r p =>
    PyProof.Rows.test_link (thn (hb.run pins s sg H _ I ⟨e, S, io, dn, sl, Post.bind (R := RepR X.K C) (R' := EqR) (Q := Q) (k := fun y S1 => ((ofO ((f S1 d y).bind asB) S1).bind fun t S2 => if t = true then k y e S2 else .ok (.bl false) S2).bind fun z S2 => ofO (asB z) S2) (by rw [← bind_assoc]; exact p)⟩) fun u s1 ⟨y, H1, I1, r1, io1, S1, y1, x1, d1, q1, p1⟩ => by
      cases ez : f S1 d y1 with
      | none => rw [ez] at p1; exact p1.elim
      | some z =>
        rw [ez] at p1
        cases et : asB z with
        | none => simp only [Option.bind, et] at p1; exact p1.elim
        | some t =>
        simp only [Option.bind, et, Ev.ofO, Res.bind] at p1
        refine thn (ho pins s1 sg H1 x y v u (fun w H' => w = .bl t ∧ ∃ io', Ext io1 H1 io' H' ∧ Den X.K C io' S1 H') I1 rx r1 ⟨io1, S1, d, y1, z, d1, r.ext x1, q1, ez, fun w H' io' x' d' r' => ⟨asB_rep et r', io', x', d'⟩⟩) fun w s2 ⟨w', H2, I2, r2, e2, io2, x2, d2⟩ => ?_
        subst e2
        cases r2
        refine wpAny_truthy_bool ?_
        cases t with
        | true => exact hr.runT pos pins s2 sg H2 Q y u e S1 io2 y1 I2 r1 d2 ((sl.ext x1).ext x2) (q1.ext x2) (p1.ext x2)
        | false => exact ⟨H2, I2, p1 _ H2 io2 x2 d2 rfl⟩)
theorem ee_chain (ha : PE X a (tE X.K C W ra)) (hr : PCh X C W (op :: op' :: ops) (b :: b' :: bs) k) (hm : lastMarks (op :: op' :: ops) (b :: b' :: bs) = false := by with_unfolding_all rfl) : PE X (.Compare a (op :: op' :: ops) (b :: b' :: bs) pos) (tE X.K C W (rChain ra k)) :=
  ⟨fun pins s sg H Q I h => PyProof.Rows.Compare_chain (thn (ha.run pins s sg H _ I (tR.seq1 (R := RepR X.K C) (fun e x S => k x e S) h fun _ _ => rfl)) fun v s1 ⟨x, H1, I1, r1, e, S, io, x1, d, sl, q, p⟩ =>
    hr.run pos pins s1 sg H1 Q x v e S io x1 I1 r1 d sl q p) hm⟩
theorem et_chain (ha : PE X a (tE X.K C W ra)) (hr : PCh X C W (op :: op' :: ops) (b :: b' :: bs) k) (hm : lastMarks (op :: op' :: ops) (b :: b' :: bs) = false := by with_unfolding_all rfl) : PT X (.Compare a (op :: op' :: ops) (b :: b' :: bs) pos) (tT X.K C W (rTest (rChain ra k))) :=
  ⟨fun pins s sg H Q I h => PyProof.Rows.isTrue_chain (thn (ha.run pins s sg H _ I (tR.seq1 (R := RepR X.K C) (fun e x S => (k x e S).bind fun z S1 => ofO (asB z) S1) h fun e S => by
      show (rChain ra k e S).bind _ = _
      unfold rChain
      rw [bind_assoc])) fun v s1 ⟨x, H1, I1, r1, e, S, io, x1, d, sl, q, p⟩ =>
    hr.runT pos pins s1 sg H1 Q x v e S io x1 I1 r1 d sl q p) hm⟩
end

/-! ### calls of built-ins by values -/
section
variable {X : Cx} {C : Nat → Addr} {W : WX} {e : Expr} {es : List Expr} {rs : RA} {x : Str} {p pos : Pos} {bid T : String} {f : Store → List D → Option D}
theorem ee_callB (hc : CallD X C (.builtin bid) f) (hg : Gl X x) (hm : X.mg x = none) (hv : bootBuiltins x = some (.builtin bid)) (ha : PA X (e :: es) (tA X.K C W rs)) (hn : x ≠ "__name__" := by decide) (hdb : (x == ("__debug__" : Str)) = false := by decide)
    (he : starEach (e :: es) X.env = (false, eval e X.env) :: starEach es X.env := by rfl) (hpl : (backTo pos (starEach es X.env)).any (·.1) = false := by rfl) : PE X (.Call (.Name x p) (e :: es) [] pos) (tE X.K C W (rCal f rs)) :=
  (pe_callB hc hg hm hv ha hn hdb he hpl).imp fun sg H Q h => (tR.seq1 (R := RepsR X.K C) (fun _ xs S => ofO (f S xs) S) h fun _ _ => rfl).mono fun vs H1 ⟨e, S, io, x1, d, s, r1, p⟩ => by
    obtain ⟨z, ez, p⟩ := p.ofO
    exact ⟨io, S, x1, z, d, r1, ez, p⟩
theorem ee_callTy (hc : CallD X C (.type T) f) (hg : Gl X x) (hm : X.mg x = none) (hv : bootBuiltins x = some (.type T)) (ha : PA X (e :: es) (tA X.K C W rs)) (hn : x ≠ "__name__" := by decide) (hdb : (x == ("__debug__" : Str)) = false := by decide)
    (he : starEach (e :: es) X.env = (false, eval e X.env) :: starEach es X.env := by rfl) (hpl : (backTo pos (starEach es X.env)).any (·.1) = false := by rfl) : PE X (.Call (.Name x p) (e :: es) [] pos) (tE X.K C W (rCal f rs)) :=
  (pe_callTy hc hg hm hv ha hn hdb he hpl).imp fun sg H Q h => (tR.seq1 (R := RepsR X.K C) (fun _ xs S => ofO (f S xs) S) h fun _ _ => rfl).mono fun vs H1 ⟨e, S, io, x1, d, s, r1, p⟩ => by
    obtain ⟨z, ez, p⟩ := p.ofO
    exact ⟨io, S, x1, z, d, r1, ez, p⟩
/-- a call that lays nothing -/
theorem callD_flat {g : Value} {r : List V → Hp → VK → Prop} (h : CallR X g r)
    (hf : ∀ io S H as d xs, Den X.K C io S H → Reps X.K C io (Fz io H) as xs → f S as = some d → ∃ z, (∀ F, Rep X.K C io F d z) ∧ ∀ Q : VK, Q z H → r xs H Q) : CallD X C g f := by
  intro pins s sg H xs us Q I rx ⟨io, S, as, d, dn, ra, e, q⟩
  obtain ⟨z, rz, hq⟩ := hf io S H as d xs dn ra e
  exact h pins s sg H xs us Q I rx (hq Q (q z H io (Ext.refl _ _) dn (rz _)))
def absD : Store → List D → Option D
  | _, [.int i] => some (.int (if i < 0 then -i else i))
  | _, _ => none
theorem reps1 {K : PySem.W.Frag} {C : Nat → Addr} {io : Io} {F : Hp} {a : D} {xs : List V} (r : Reps K C io F [a] xs) : ∃ v, xs = [v] ∧ Rep K C io F a v := by
  cases r with
  | cons h t => cases t; exact ⟨_, rfl, h⟩
theorem reps2 {K : PySem.W.Frag} {C : Nat → Addr} {io : Io} {F : Hp} {a b : D} {xs : List V} (r : Reps K C io F [a, b] xs) : ∃ v u, xs = [v, u] ∧ Rep K C io F a v ∧ Rep K C io F b u := by
  cases r with
  | cons h t => obtain ⟨u, rfl, h2⟩ := reps1 t; exact ⟨_, u, rfl, h, h2⟩
theorem absD_ok : CallD X C (.builtin "abs") absD := callD_flat call_abs fun io S H as d xs dn ra e => by
  unfold absD at e
  split at e <;> cases e
  obtain ⟨v, rfl, h⟩ := reps1 ra
  cases h
  exact ⟨.int _, fun _ => .int _, fun Q q => ⟨_, rfl, q⟩⟩
def maxD2 : Store → List D → Option D
  | _, [.int i, .int j] => some (.int (if j > i then j else i))
  | _, _ => none
def minD2 : Store → List D → Option D
  | _, [.int i, .int j] => some (.int (if j < i then j else i))
  | _, _ => none
theorem maxD2_ok (hc : X.calm = true) : CallD X C (.builtin "max") maxD2 := callD_flat (call_max2 hc) fun io S H as d xs dn ra e => by
  unfold maxD2 at e
  split at e <;> cases e
  obtain ⟨v, u, rfl, h, h2⟩ := reps2 ra
  cases h; cases h2
  exact ⟨.int _, fun _ => .int _, fun Q q => ⟨_, _, rfl, q⟩⟩
theorem minD2_ok (hc : X.calm = true) : CallD X C (.builtin "min") minD2 := callD_flat (call_min2 hc) fun io S H as d xs dn ra e => by
  unfold minD2 at e
  split at e <;> cases e
  obtain ⟨v, u, rfl, h, h2⟩ := reps2 ra
  cases h; cases h2
  exact ⟨.int _, fun _ => .int _, fun Q q => ⟨_, _, rfl, q⟩⟩
def intD : Store → List D → Option D
  | _, [.int i] => some (.int i)
  | _, [.bl b] => some (.int (if b then 1 else 0))
  | _, _ => none
theorem intD_ok : CallD X C (.type "int") intD := callD_flat call_int1 fun io S H as d xs dn ra e => by
  unfold intD at e
  split at e <;> cases e
  · obtain ⟨v, rfl, h⟩ := reps1 ra
    cases h
    exact ⟨.int _, fun _ => .int _, fun Q q => .inl ⟨_, rfl, q⟩⟩
  · obtain ⟨v, rfl, h⟩ := reps1 ra
    cases h
    exact ⟨.int _, fun _ => .int _, fun Q q => .inr ⟨_, rfl, q⟩⟩
def lenD : Store → List D → Option D
  | _, [.str x] => if x.length ≤ sizeLine then some (.int x.length) else none
  | _, [.tup xs] => some (.int xs.length)
  | S, [a] => (asL S a).bind fun xs => some (.int xs.length)
  | _, _ => none
theorem lenD_ok : CallD X C (.builtin "len") lenD := callD_flat call_len fun io S H as d xs dn ra e => by
  unfold lenD at e
  split at e
  · split at e <;> cases e
    obtain ⟨v, rfl, h⟩ := reps1 ra
    cases h
    exact ⟨.int _, fun _ => .int _, fun Q q => ⟨_, _, rfl, ⟨by assumption, rfl⟩, q⟩⟩
  · cases e
    obtain ⟨v, rfl, h⟩ := reps1 ra
    cases h with
    | tup q rs => exact ⟨.int _, fun _ => .int _, fun Q q' => ⟨_, _, rfl, .inr ⟨_, sqT_same (Fz_same _ _) q, rs.length⟩, q'⟩⟩
  · obtain ⟨ys, e1, e2⟩ := bind_some' e
    cases e2
    obtain ⟨v, rfl, h⟩ := reps1 ra
    obtain ⟨a, vs, rfl, hq, rs⟩ := asL_rep e1 dn h
    exact ⟨.int _, fun _ => .int _, fun Q q' => ⟨_, _, rfl, .inl ⟨_, hq, rs.length⟩, q'⟩⟩
  · cases e
def asI : D → Option Int
  | .int i => some i
  | _ => none
def allI : List D → Option (List Int)
  | [] => some []
  | .int i :: r => (allI r).bind fun l => some (i :: l)
  | _ => none
theorem allI_rep {K : PySem.W.Frag} {C : Nat → Addr} {io : Io} {F : Hp} : ∀ {xs : List D} {vs : List V} {ns : List Int}, allI xs = some ns → Reps K C io F xs vs → vs = ns.map V.int ∧ xs = ns.map D.int
  | _, _, _, h, .nil => by cases h; exact ⟨rfl, rfl⟩
  | _, _, _, h, .cons r rs => by
    cases r <;> simp only [allI] at h <;> first | cases h | skip
    obtain ⟨l, h1, h2⟩ := bind_some' h
    cases h2
    obtain ⟨a, b⟩ := allI_rep h1 rs
    exact ⟨by rw [a]; rfl, by rw [b]; rfl⟩
theorem allI_map (ns : List Int) : allI (ns.map D.int) = some ns := by
  induction ns with
  | nil => rfl
  | cons i r ih => simp [allI, ih]
def sumD : Store → List D → Option D
  | S, [a] => (asL S a).bind fun xs => (allI xs).bind fun ns => some (.int ns.sum)
  | _, _ => none
theorem sumD_ok (hc : X.calm = true) : CallD X C (.builtin "sum") sumD := callD_flat (cr_sum hc) fun io S H as d xs dn ra e => by
  unfold sumD at e
  split at e
  · obtain ⟨ys, e1, e2⟩ := bind_some' e
    obtain ⟨ns, e4, e3⟩ := bind_some' e2
    cases e3
    obtain ⟨v, rfl, h⟩ := reps1 ra
    obtain ⟨a, vs, rfl, hq, rs⟩ := asL_rep e1 dn h
    obtain ⟨rfl, _⟩ := allI_rep e4 rs
    exact ⟨.int _, fun _ => .int _, fun Q q' => ⟨_, _, rfl, hq, q'⟩⟩
  · cases e
def allB : List D → Option (List Bool)
  | [] => some []
  | .bl i :: r => (allB r).bind fun l => some (i :: l)
  | _ => none
theorem allB_rep {K : PySem.W.Frag} {C : Nat → Addr} {io : Io} {F : Hp} : ∀ {xs : List D} {vs : List V} {ns : List Bool}, allB xs = some ns → Reps K C io F xs vs → vs = ns.map V.bl ∧ xs = ns.map D.bl
  | _, _, _, h, .nil => by cases h; exact ⟨rfl, rfl⟩
  | _, _, _, h, .cons r rs => by
    cases r <;> simp only [allB] at h <;> first | cases h | skip
    obtain ⟨l, h1, h2⟩ := bind_some' h
    cases h2
    obtain ⟨a, b⟩ := allB_rep h1 rs
    exact ⟨by rw [a]; rfl, by rw [b]; rfl⟩
theorem allB_map (ns : List Bool) : allB (ns.map D.bl) = some ns := by
  induction ns with
  | nil => rfl
  | cons i r ih => simp [allB, ih]
def anyD : Store → List D → Option D
  | S, [a] => (asL S a).bind fun xs => (allB xs).bind fun ns => some (.bl (ns.any id))
  | _, _ => none
def allD : Store → List D → Option D
  | S, [a] => (asL S a).bind fun xs => (allB xs).bind fun ns => some (.bl (ns.all id))
  | _, _ => none
theorem anyD_ok (hc : X.calm = true) : CallD X C (.builtin "any") anyD := callD_flat (cr_any hc) fun io S H as d xs dn ra e => by
  unfold anyD at e
  split at e
  · obtain ⟨ys, e1, e2⟩ := bind_some' e
    obtain ⟨ns, e4, e3⟩ := bind_some' e2
    cases e3
    obtain ⟨v, rfl, h⟩ := reps1 ra
    obtain ⟨a, vs, rfl, hq, rs⟩ := asL_rep e1 dn h
    obtain ⟨rfl, _⟩ := allB_rep e4 rs
    exact ⟨.bl _, fun _ => .bl _, fun Q q' => ⟨_, _, rfl, hq, q'⟩⟩
  · cases e
theorem allD_ok (hc : X.calm = true) : CallD X C (.builtin "all") allD := callD_flat (cr_all hc) fun io S H as d xs dn ra e => by
  unfold allD at e
  split at e
  · obtain ⟨ys, e1, e2⟩ := bind_some' e
    obtain ⟨ns, e4, e3⟩ := bind_some' e2
    cases e3
    obtain ⟨v, rfl, h⟩ := reps1 ra
    obtain ⟨a, vs, rfl, hq, rs⟩ := asL_rep e1 dn h
    obtain ⟨rfl, _⟩ := allB_rep e4 rs
    exact ⟨.bl _, fun _ => .bl _, fun Q q' => ⟨_, _, rfl, hq, q'⟩⟩
  · cases e
end

/-! ### subscripts, slices -/
def ixD (S : Store) (a b : D) : Option D := match a, b with
  | .tup xs, .int i => atI xs i
  | .str z, .int i => if z.length ≤ sizeLine then (atI z.cps.toList i).bind fun c => some (.str ⟨#[c]⟩) else none
  | a, .int i => (asL S a).bind fun xs => atI xs i
  | _, _ => none
theorem atI_reps {K : PySem.W.Frag} {C : Nat → Addr} {io : Io} {F : Hp} {xs : List D} {vs : List V} {i : Int} {d : D} (h : atI xs i = some d) (r : Reps K C io F xs vs) : ∃ v, atI vs i = some v ∧ Rep K C io F d v := by
  unfold atI at h ⊢
  obtain ⟨j, h1, h2⟩ := bind_some' h
  obtain ⟨v, h3, h4⟩ := r.get h2
  exact ⟨v, by rw [← r.length, h1]; exact h3, h4⟩
def cutD (xs : List D) (lo hi : Option Int) : List D := (xs.drop (HT.sIx xs.length 0 lo)).take (HT.sIx xs.length xs.length hi - HT.sIx xs.length 0 lo)
theorem cut_reps {K : PySem.W.Frag} {C : Nat → Addr} {io : Io} {F : Hp} {xs : List D} {vs : List V} (r : Reps K C io F xs vs) (lo hi : Option Int) : Reps K C io F (cutD xs lo hi) (cutV vs lo hi) := by
  unfold cutD cutV
  rw [r.length]
  exact (r.drop _).take _
/-- a part of a slice -/
abbrev RO := Env → Store → Res (Option Int)
def rNoP : RO := fun _ S => .ok none S
def rPart (a : RE) : RO := fun e S => (a e S).bind fun x S1 => (ofO (asI x) S1).bind fun i S2 => .ok (some i) S2
abbrev tO (K : PySem.W.Frag) (C : Nat → Addr) (W : WX) (r : RO) : TO := tR K C EqR W r
def slD (S : Store) (a : D) (lo hi : Option Int) : Option D := match a with
  | .tup xs => some (.tup (cutD xs lo hi))
  | .str z => if z.length ≤ sizeLine then some (.str (cutS z lo hi)) else none
  | a => (asL S a).bind fun xs => some (.lst (cutD xs lo hi))
def rSl (a : RE) (lo hi : RO) : RE := fun e S => (a e S).bind fun x S1 => (lo e S1).bind fun l S2 => (hi e S2).bind fun h S3 => ofO (slD S3 x l h) S3
section
variable {X : Cx} {C : Nat → Addr} {W : WX} {a b : Expr} {ra rb : RE} {lo hi : Option Expr} {rl rh : RO} {pos p2 : Pos}
theorem ixD_ok : IxR X (fun x y H Q => ∃ io S a b d, Den X.K C io S H ∧ Rep X.K C io (Fz io H) a x ∧ Rep X.K C io (Fz io H) b y ∧ ixD S a b = some d ∧ ∀ v H' io', Ext io H io' H' → Den X.K C io' S H' → Rep X.K C io' (Fz io' H') d v → Q v H') := by
  intro value slice pins s sg H x y v u Q I rx ry ⟨io, S, a, b, d, dn, ra, rb, e, q⟩ hs
  refine ix_seq value slice pins s sg H x y v u Q I rx ry ?_ hs
  unfold ixD at e
  split at e
  · cases rb
    cases ra with
    | tup q1 rs =>
      obtain ⟨w, h1, h2⟩ := atI_reps e rs
      exact .inr (.inl ⟨_, _, _, w, rfl, rfl, sqT_same (Fz_same _ _) q1, h1, q _ H io (Ext.refl _ _) dn h2⟩)
  · split at e
    · obtain ⟨c, h1, h2⟩ := bind_some' e
      cases h2
      cases ra; cases rb
      exact .inr (.inr ⟨_, _, c, rfl, rfl, by assumption, h1, q _ H io (Ext.refl _ _) dn (.str _)⟩)
    · cases e
  · obtain ⟨xs, h1, h2⟩ := bind_some' e
    cases rb
    obtain ⟨p, vs, rfl, hq, rs⟩ := asL_rep h1 dn ra
    obtain ⟨w, h3, h4⟩ := atI_reps h2 rs
    exact .inl ⟨_, _, _, w, rfl, rfl, hq, h3, q _ H io (Ext.refl _ _) dn h4⟩
  · cases e
theorem ee_ix (ha : PE X a (tE X.K C W ra)) (hb : PE X b (tE X.K C W rb)) (hs : PlainIx b := by exact fun _ _ => rfl) : PE X (.Subscript a b pos) (tE X.K C W (rBin ixD ra rb)) :=
  (pe_ix ixD_ok ha hb hs).imp fun sg H Q h => (tR.seq2 repM (fun _ x y S => ofO (ixD S x y) S) h fun _ _ => rfl).mono fun x H1 h1 => h1.mono fun y H2 ⟨e, S, io, x1, y1, d, s, r1, r2, p⟩ => by
    obtain ⟨z, ez, p⟩ := p.ofO
    exact ⟨io, S, x1, y1, z, d, r1, r2, ez, p⟩
theorem eo_none : PO X none (tO X.K C W rNoP) := ⟨fun pins s sg H Q I h => po_none.run pins s sg H Q I (by
  obtain ⟨e, S, io, d, sl, p⟩ := h
  exact p none H io (Ext.refl _ _) d rfl)⟩
theorem eo_some (ha : PE X a (tE X.K C W ra)) : PO X (some a) (tO X.K C W (rPart ra)) := ⟨fun pins s sg H Q I h => (po_some ha).run pins s sg H Q I (by
  refine (tR.seq1 (R := RepR X.K C) (fun _ x S => (ofO (asI x) S).bind fun i S2 => .ok (some i) S2) h fun _ _ => rfl).mono fun x H1 ⟨e, S, io, x1, d, sl, r1, p⟩ => ?_
  cases x1 <;> simp only [asI, ofO, Res.bind] at p <;> first | exact p.elim | skip
  cases r1
  exact ⟨_, rfl, p _ H1 io (Ext.refl _ _) d rfl⟩)⟩
theorem slD_ok : SlR X (fun x l h H Q => ∃ io S a d, Den X.K C io S H ∧ Rep X.K C io (Fz io H) a x ∧ slD S a l h = some d ∧ ∀ v H' io', Ext io H io' H' → Den X.K C io' S H' → Rep X.K C io' (Fz io' H') d v → Q v H') := by
  have hr := (SlR.or (SlR.or (sl_list (X := X)) sl_tupA) sl_str)
  intro pins s sg H x v vl vu l h sl Q I rx h1 h2 h3 ⟨io, S, a, d, dn, ra, e, q⟩
  refine hr pins s sg H x v vl vu l h sl Q I rx h1 h2 h3 ?_
  unfold slD at e
  split at e
  · cases e
    cases ra with
    | tup q1 rs =>
      refine .inl (.inr ⟨_, _, rfl, sqT_same (Fz_same _ _) q1, fun hw => ?_, fun hw p hp => ?_⟩)
      · refine q _ H io (Ext.refl _ _) dn ?_
        rename_i xs va vs
        have e2 : cutD xs l h = xs := by
          unfold cutD
          rw [rs.length, hw.1, hw.2, List.drop_zero, Nat.sub_zero, ← rs.length, List.take_length]
        rw [e2]
        exact .tup q1 rs
      · obtain ⟨x1, d1, r1⟩ := new_tup dn (cut_reps rs l h) hp
        exact q _ _ io x1 d1 r1
  · split at e
    · cases e
      cases ra
      exact .inr ⟨_, rfl, by assumption, q _ H io (Ext.refl _ _) dn (.str _)⟩
    · cases e
  · obtain ⟨xs, e1, e2⟩ := bind_some' e
    cases e2
    obtain ⟨p, vs, rfl, hq, rs⟩ := asL_rep e1 dn ra
    refine .inl (.inl ⟨_, _, rfl, hq, fun p hp => ?_⟩)
    obtain ⟨x1, d1, r1⟩ := new_lst dn (cut_reps rs l h) hp
    exact q _ _ io x1 d1 r1
theorem ee_sl (ha : PE X a (tE X.K C W ra)) (hl : PO X lo (tO X.K C W rl)) (hh : PO X hi (tO X.K C W rh)) : PE X (.Subscript a (.Slice lo hi none p2) pos) (tE X.K C W (rSl ra rl rh)) :=
  (pe_slice slD_ok ha hl hh).imp fun sg H Q h => (tR.seq2 (R2 := EqR) repM (fun e x l S2 => (rh e S2).bind fun h S3 => ofO (slD S3 x l h) S3) h fun _ _ => rfl).mono fun x H1 h1 => h1.mono fun l H2 ⟨e, S, io, x1, l1, d, sl, r1, r2, p⟩ => by
    cases r2
    exact ⟨e, S, io, d, sl, p.bind.mono fun h H3 ⟨io3, S3, h3, x3, d3, r3, p3⟩ => by
      cases r3
      obtain ⟨z, ez, p3⟩ := p3.ofO
      exact ⟨io3, S3, x1, z, d3, r1.ext x3, ez, p3⟩⟩
end
end Ev
namespace Ev
open PySem PySem.Spec L2

/-! ### statements -/
inductive Fl where
  | nx (e : Env) (S : Store)
  | rt (d : D) (S : Store)
  | er (x : Exn) (e : Env) (S : Store)
  | bad
abbrev RS := Env → Store → Fl
def Res.fl {A : Type} (e : Env) : Res A → (A → Store → Fl) → Fl
  | .ok a S, k => k a S
  | .err x S, _ => .er x e S
  | .bad, _ => .bad
def Fl.andThen : Fl → RS → Fl
  | .nx e S, k => k e S
  | .rt d S, _ => .rt d S
  | .er x e S, _ => .er x e S
  | .bad, _ => .bad
def PostS (K : PySem.W.Frag) (C : Nat → Addr) (W : WX) (io : Io) (H : Hp) (f : Fl) (Dn : Ends) : Prop :=
  match f with
  | .nx e S => ∀ sg H' io', Ext io H io' H' → Den K C io' S H' → Slots K C io' (Fz io' H') e sg → Dn.nx sg H'
  | .rt d S => ∀ v H' io', Ext io H io' H' → Den K C io' S H' → Rep K C io' (Fz io' H') d v → Dn.rt v H'
  | .er x e S => ∀ cls dd sg H' io', Ext io H io' H' → Den K C io' S H' → Slots K C io' (Fz io' H') e sg → XR K C io' H' x cls dd → W cls dd sg H'
  | .bad => False
def tS (K : PySem.W.Frag) (C : Nat → Addr) (W : WX) (r : RS) : TS := fun Dn sg H =>
  ∃ (e : Env) (S : Store) (io : Io), Den K C io S H ∧ Slots K C io (Fz io H) e sg ∧ PostS K C W io H (r e S) Dn
section
variable {K : PySem.W.Frag} {C : Nat → Addr} {A B : Type} {R : Io → Hp → A → B → Prop} {W : WX} {sg : L2.St} {io io' : Io} {H H' : Hp} {Dn : Ends}
theorem PostS.ext {f : Fl} (e : Ext io H io' H') (h : PostS K C W io H f Dn) : PostS K C W io' H' f Dn := by
  cases f with
  | nx a S => exact fun sg H2 io2 x d q => h sg H2 io2 (e.trans x) d q
  | rt a S => exact fun sg H2 io2 x d q => h sg H2 io2 (e.trans x) d q
  | er x a S => exact fun c dd sg H2 io2 x' d q => h c dd sg H2 io2 (e.trans x') d q
  | bad => exact h
theorem PostS.of_res {r : Res A} {e : Env} {k : A → Store → Fl} (h : PostS K C W io H (r.fl e k) Dn) (s : Slots K C io (Fz io H) e sg) :
    Post K C R W sg io H r (fun b H1 => ∃ io1 S1 a, Ext io H io1 H1 ∧ Den K C io1 S1 H1 ∧ R io1 (Fz io1 H1) a b ∧ PostS K C W io1 H1 (k a S1) Dn) := by
  cases r with
  | ok a S => exact fun b H2 io2 x d q => ⟨io2, S, a, x, d, q, PostS.ext x h⟩
  | err x S => exact fun cls dd H2 io2 x' d q => h cls dd sg H2 io2 x' d (s.ext x') q
  | bad => exact h
/-- an expression, then the rest -/
theorem tS.seq {r : Env → Store → Res A} {m : RS} (k : Env → A → Store → Fl) (h : tS K C W m Dn sg H) (e' : ∀ e S, m e S = (r e S).fl e (k e)) :
    tR K C R W r sg H fun b H1 => ∃ e S io a, Den K C io S H1 ∧ Slots K C io (Fz io H1) e sg ∧ R io (Fz io H1) a b ∧ PostS K C W io H1 (k e a S) Dn := by
  obtain ⟨e, S, io, d, s, p⟩ := h
  rw [e'] at p
  exact ⟨e, S, io, d, s, (p.of_res s).mono fun b H1 ⟨io1, S1, a, x, d1, q, p1⟩ => ⟨e, S1, io1, a, d1, s.ext x, q, p1⟩⟩
end
def sNil : RS := fun e S => .nx e S
def sSeq (a b : RS) : RS := fun e S => (a e S).andThen b
def sIf (t : RT) (a b : RS) : RS := fun e S => (t e S).fl e fun k S1 => if k = true then a e S1 else b e S1
def sRet (a : RE) : RS := fun e S => (a e S).fl e fun d S1 => .rt d S1
def sRetN : RS := fun _ S => .rt .non S
def sExp (a : RE) : RS := fun e S => (a e S).fl e fun _ S1 => .nx e S1
def sSet (i : Nat) (a : RE) : RS := fun e S => (a e S).fl e fun d S1 => .nx (e.set i (some d)) S1
section
variable {X : Cx} {C : Nat → Addr} {W : WX} {st : Stmt} {rest sa sb : List Stmt} {ma mb : RS} {a c : Expr} {ra : RE} {tc : RT} {pos : Pos}
theorem es_nil : PSs X [] (tS X.K C W sNil) := pss_nil.imp fun Dn sg H ⟨e, S, io, d, s, p⟩ => p sg H io (Ext.refl _ _) d s
theorem es_cons (h1 : PS X st (tS X.K C W ma)) (h2 : PSs X rest (tS X.K C W mb)) : PSs X (st :: rest) (tS X.K C W (sSeq ma mb)) :=
  (pss_cons h1 h2).imp fun Dn sg H ⟨e, S, io, d, s, p⟩ => ⟨e, S, io, d, s, by
    unfold sSeq at p
    cases q : ma e S with
    | nx e1 S1 =>
      rw [q] at p
      exact fun sg' H' io' x d' s' => ⟨e1, S1, io', d', s', PostS.ext x p⟩
    | rt d1 S1 => rw [q] at p; exact p
    | er x e1 S1 => rw [q] at p; exact p
    | bad => rw [q] at p; exact p⟩
theorem es_one (h1 : PS X st (tS X.K C W ma)) : PSs X [st] (tS X.K C W ma) := pss_one h1
theorem s_pass : PS X (.Pass pos) (tS X.K C W sNil) := ps_pass.imp fun Dn sg H ⟨e, S, io, d, s, p⟩ => p sg H io (Ext.refl _ _) d s
theorem s_if (hc : PT X c (tT X.K C W tc)) (ha : PSs X sa (tS X.K C W ma)) (hb : PSs X sb (tS X.K C W mb)) : PS X (.If c sa sb pos) (tS X.K C W (sIf tc ma mb)) :=
  (ps_if hc ha hb).imp fun Dn sg H h => (tS.seq (R := EqR) (fun e k S1 => if k = true then ma e S1 else mb e S1) h fun _ _ => rfl).mono fun k H1 ⟨e, S, io, k1, d, s, q, p⟩ => by
    cases q
    cases k with
    | true => exact ⟨e, S, io, d, s, p⟩
    | false => exact ⟨e, S, io, d, s, p⟩
theorem s_ret (ha : PE X a (tE X.K C W ra)) : PS X (.Return (some a) pos) (tS X.K C W (sRet ra)) :=
  (ps_ret ha).imp fun Dn sg H h => (tS.seq (R := RepR X.K C) (fun e d S1 => .rt d S1) h fun _ _ => rfl).mono fun v H1 ⟨e, S, io, k1, d, s, q, p⟩ => p v H1 io (Ext.refl _ _) d q
theorem s_retN : PS X (.Return none pos) (tS X.K C W sRetN) := ps_retN.imp fun Dn sg H ⟨e, S, io, d, s, p⟩ => p .non H io (Ext.refl _ _) d .non
theorem s_exp (ha : PE X a (tE X.K C W ra)) (hs : swapsWith a none pos.line X.env = pure false := by rfl) : PS X (.Expr a pos) (tS X.K C W (sExp ra)) :=
  (ps_expr ha hs).imp fun Dn sg H h => (tS.seq (R := RepR X.K C) (fun e d S1 => .nx e S1) h fun _ _ => rfl).mono fun v H1 ⟨e, S, io, k1, d, s, q, p⟩ => p sg H1 io (Ext.refl _ _) d s
theorem s_set (i : Nat) {x : Str} {pos' : Pos} (hN : X.N.Nodup) (ha : PE X a (tE X.K C W ra)) (hi : X.N[i]? = some x := by rfl) (hx : Loc X.env.scope x := by first | exact Or.inl rfl | exact Or.inr rfl) (hs : swapsWith a (some (.Name x pos')) pos.line X.env = pure false := by rfl)
    (hf : X.fn x = true ∨ X.env.scope.names.lookup x = some .local := by first | exact .inl rfl | exact .inr rfl | assumption) : PS X (.Assign [.Name x pos'] a pos) (tS X.K C W (sSet i ra)) :=
  (ps_set hN hi hx ha hs hf).imp fun Dn sg H h => (tS.seq (R := RepR X.K C) (fun e d S1 => .nx (e.set i (some d)) S1) h fun _ _ => rfl).mono fun v H1 ⟨e, S, io, k1, d, s, q, p⟩ => p _ H1 io (Ext.refl _ _) d (s.set i q)
end

/-! ### targets -/
def setAll {A : Type} : List Nat → List A → List (Option A) → List (Option A)
  | i :: is, d :: ds, e => setAll is ds (e.set i (some d))
  | _, _, e => e
/-- the items that a value is taken apart to -/
def parts (S : Store) : D → Option (List D)
  | .tup xs => some xs
  | d => asL S d
inductive Tg where
  | nm (i : Nat)
  | tp (is : List Nat)
  | tn (qs : List (Nat ⊕ List Nat))
/-- names and tuples of names -/
def bindN (S : Store) : List (Nat ⊕ List Nat) → List D → Env → Option Env
  | [], [], e => some e
  | .inl i :: qs, d :: ds, e => bindN S qs ds (e.set i (some d))
  | .inr is :: qs, d :: ds, e => (parts S d).bind fun xs => if xs.length = is.length then bindN S qs ds (setAll is xs e) else none
  | _, _, _ => none
def tnIx : List (Nat ⊕ List Nat) → List Nat
  | [] => []
  | .inl i :: qs => i :: tnIx qs
  | .inr is :: qs => is ++ tnIx qs
theorem bindN_len {S : Store} : ∀ {qs : List (Nat ⊕ List Nat)} {ds : List D} {e e' : Env}, bindN S qs ds e = some e' → ds.length = qs.length
  | [], [], _, _, _ => rfl
  | [], _ :: _, _, _, h => by simp [bindN] at h
  | .inl _ :: _, [], _, _, h => by simp [bindN] at h
  | .inr _ :: _, [], _, _, h => by simp [bindN] at h
  | .inl i :: qs, d :: ds, _, _, h => by
    have := bindN_len (qs := qs) h
    simp [this]
  | .inr is :: qs, d :: ds, _, _, h => by
    simp only [bindN] at h
    cases e : parts S d with
    | none => rw [e] at h; cases h
    | some xs =>
      rw [e, Option.bind_some] at h
      split at h
      · have := bindN_len (qs := qs) h
        simp [this]
      · cases h
def bindT (S : Store) (d : D) (e : Env) : Tg → Option Env
  | .nm i => some (e.set i (some d))
  | .tp is => (parts S d).bind fun ds => if ds.length = is.length then some (setAll is ds e) else none
  | .tn qs => (parts S d).bind fun ds => bindN S qs ds e
theorem setAll_slots {K : PySem.W.Frag} {C : Nat → Addr} {io : Io} {F : Hp} : ∀ (is : List Nat) {ds : List D} {vs : List V} {e : Env} {sg : L2.St}, Slots K C io F e sg → Reps K C io F ds vs → Slots K C io F (setAll is ds e) (setAll is vs sg)
  | [], _, _, _, _, s, _ => s
  | _ :: _, _, _, _, _, s, .nil => s
  | i :: is, _, _, _, _, s, .cons h r => setAll_slots is (s.set i h) r
def Tg.ixs : Tg → List Nat
  | .nm i => [i]
  | .tp is => is
  | .tn qs => tnIx qs
/-- the slots but for the target's are the same -/
def Agree (t : Tg) (sg sg' : L2.St) : Prop := ∀ vs : List Nat, (∀ i ∈ t.ixs, i ∈ vs) → wipe sg' vs = wipe sg vs
theorem wipe_get (sg : L2.St) (j : Nat) : ∀ vs : List Nat, (wipe sg vs)[j]? = if j ∈ vs then (if j < sg.length then some none else none) else sg[j]?
  | [] => by simp [wipe]
  | v :: vs => by
    have ih := wipe_get sg j vs
    have hl := wipe_length sg vs
    unfold wipe
    by_cases hv : j = v
    · subst hv
      by_cases hj : j < sg.length
      · rw [List.getElem?_set_self (by rw [hl]; exact hj)]
        simp [hj]
      · rw [List.getElem?_eq_none (by rw [List.length_set, hl]; omega)]
        simp [hj]
    · rw [List.getElem?_set_ne (Ne.symm hv), ih]
      simp [hv]
theorem wipe_set (sg : L2.St) (i : Nat) (x : Option V) {vs : List Nat} (h : i ∈ vs) : wipe (sg.set i x) vs = wipe sg vs := by
  apply List.ext_getElem?
  intro j
  rw [wipe_get, wipe_get, List.length_set]
  by_cases hj : j ∈ vs
  · simp [hj]
  · have : i ≠ j := fun e => hj (e ▸ h)
    rw [if_neg hj, if_neg hj, List.getElem?_set_ne this]
theorem wipe_setAll : ∀ (is : List Nat) (us : List V) (sg : L2.St) {vs : List Nat}, (∀ i ∈ is, i ∈ vs) → wipe (setAll is us sg) vs = wipe sg vs
  | [], _, _, _, _ => by simp [setAll]
  | i :: is, [], sg, vs, h => by simp [setAll]
  | i :: is, u :: us, sg, vs, h => by
    show wipe (setAll is us (sg.set i (some u))) vs = wipe sg vs
    rw [wipe_setAll is us _ (fun j hj => h j (List.mem_cons_of_mem _ hj)), wipe_set _ _ _ (h i List.mem_cons_self)]
def GD (X : Cx) (C : Nat → Addr) (tg : Expr) (t : Tg) : Prop :=
  PG X tg (fun v sg H Q => ∃ e S io d e', Den X.K C io S H ∧ Slots X.K C io (Fz io H) e sg ∧ Rep X.K C io (Fz io H) d v ∧ bindT S d e t = some e' ∧ ∀ sg', Slots X.K C io (Fz io H) e' sg' → Agree t sg sg' → Q sg' H)
theorem _root_.L2.PG.imp {X : Cx} {e : Expr} {t t' : TG} (h : PG X e t) (hi : ∀ v sg H Q, t' v sg H Q → t v sg H Q) : PG X e t' := ⟨fun pins s sg H v u Q I r hw => h.run pins s sg H v u Q I r (hi _ _ _ _ hw)⟩
theorem _root_.L2.PG.or {X : Cx} {e : Expr} {t t' : TG} (h : PG X e t) (h' : PG X e t') : PG X e (fun v sg H Q => t v sg H Q ∨ t' v sg H Q) := ⟨fun pins s sg H v u Q I r hw => hw.elim (h.run pins s sg H v u Q I r) (h'.run pins s sg H v u Q I r)⟩
section
variable {X : Cx} {C : Nat → Addr} {W : WX} {pos : Pos}
theorem g_nm (i : Nat) {x : Str} (hN : X.N.Nodup) (hi : X.N[i]? = some x := by rfl) (hx : Loc X.env.scope x := by first | exact Or.inl rfl | exact Or.inr rfl) (hf : X.fn x = true ∨ X.env.scope.names.lookup x = some .local := by first | exact .inl rfl | exact .inr rfl | assumption) : GD X C (.Name x pos) (.nm i) :=
  (pg_name hN hi hx hf).imp fun v sg H Q ⟨e, S, io, d, e', dn, s, r, b, q⟩ => by cases b; exact q _ (s.set i r) fun vs h => wipe_set _ _ _ (h i (by simp [Tg.ixs]))
/-- names, one after another -/
def gAll (is : List Nat) : TGs := fun vs sg H Q => vs.length = is.length ∧ Q (setAll is vs sg) H
theorem gs_nil : PGs X [] (gAll []) := ⟨fun pins s sg H vs us Q I r h => pgs_nil.run pins s sg H vs us Q I r ⟨List.eq_nil_of_length_eq_zero h.1, by
  have := List.eq_nil_of_length_eq_zero h.1
  subst this
  exact h.2⟩⟩
theorem gs_cons (i : Nat) {is : List Nat} {x : Str} {es : List Expr} (hN : X.N.Nodup) (h2 : PGs X es (gAll is)) (hi : X.N[i]? = some x := by rfl) (hx : Loc X.env.scope x := by first | exact Or.inl rfl | exact Or.inr rfl) (hf : X.fn x = true ∨ X.env.scope.names.lookup x = some .local := by first | exact .inl rfl | exact .inr rfl | assumption) :
    PGs X (.Name x pos :: es) (gAll (i :: is)) := ⟨fun pins s sg H vs us Q I r h => (pgs_cons (pg_name hN hi hx hf) h2).run pins s sg H vs us Q I r (by
  obtain ⟨hl, h⟩ := h
  cases vs with
  | nil => cases hl
  | cons v vr => exact ⟨v, vr, rfl, by simpa using hl, h⟩)⟩
theorem g_tp {is : List Nat} {es : List Expr} {k : Nat} (hc : X.calm = true) (h : PGs X es (gAll is)) (hn : (assignEach es X.env).length = is.length := by rfl) (hst : (assignEach es X.env).findIdx? (·.1) = none := by rfl) : GD X C (.Tuple es k pos) (.tp is) :=
  ((pg_tup hc h hn hst).or (pg_lst hc h hn hst)).imp fun v sg H Q ⟨e, S, io, d, e', dn, s, r, b, q⟩ => by
    obtain ⟨ds, h1, h2⟩ := bind_some' b
    split at h2
    · rename_i hl
      cases h2
      unfold parts at h1
      split at h1
      · cases h1
        cases r with
        | tup q1 rs => exact .inl ⟨_, _, rfl, sqT_same (Fz_same _ _) q1, by rw [← rs.length]; exact hl, by rw [← rs.length]; exact hl, q _ (setAll_slots is s rs) fun vs h => wipe_setAll is _ _ h⟩
      · obtain ⟨p, vs, rfl, hq, rs⟩ := asL_rep h1 dn r
        exact .inr ⟨_, _, rfl, hq, by rw [← rs.length]; exact hl, by rw [← rs.length]; exact hl, q _ (setAll_slots is s rs) fun vs h => wipe_setAll is _ _ h⟩
    · cases h2
/-- names and tuples of names, one after another -/
def gN (K : PySem.W.Frag) (C : Nat → Addr) (qs : List (Nat ⊕ List Nat)) : TGs := fun vs sg H Q => ∃ e S io ds e', Den K C io S H ∧ Slots K C io (Fz io H) e sg ∧ Reps K C io (Fz io H) ds vs ∧ bindN S qs ds e = some e' ∧ ∀ sg', Slots K C io (Fz io H) e' sg' → (∀ ws : List Nat, (∀ i ∈ tnIx qs, i ∈ ws) → wipe sg' ws = wipe sg ws) → Q sg' H
theorem gsN_nil : PGs X [] (gN X.K C []) := ⟨fun pins s sg H vs us Q I r ⟨e, S, io, ds, e', dn, sl, rs, b, q⟩ => pgs_nil.run pins s sg H vs us Q I r (by
  cases rs with
  | nil => cases b; exact ⟨rfl, q sg sl fun _ _ => rfl⟩
  | cons => cases b)⟩
theorem gsN_name (i : Nat) {qs : List (Nat ⊕ List Nat)} {x : Str} {es : List Expr} (hN : X.N.Nodup) (h2 : PGs X es (gN X.K C qs)) (hi : X.N[i]? = some x := by rfl) (hx : Loc X.env.scope x := by first | exact Or.inl rfl | exact Or.inr rfl) (hf : X.fn x = true ∨ X.env.scope.names.lookup x = some .local := by first | exact .inl rfl | exact .inr rfl | assumption) :
    PGs X (.Name x pos :: es) (gN X.K C (.inl i :: qs)) := ⟨fun pins s sg H vs us Q I r ⟨e, S, io, ds, e', dn, sl, rs, b, q⟩ => (pgs_cons (pg_name hN hi hx hf) h2).run pins s sg H vs us Q I r (by
  cases rs with
  | nil => cases b
  | cons h rs => exact ⟨_, _, rfl, _, S, io, _, e', dn, sl.set i h, rs, b, fun sg' s' ag => q sg' s' fun ws hw => (ag ws fun j hj => hw j (List.mem_cons_of_mem _ hj)).trans (wipe_set _ _ _ (hw i List.mem_cons_self))⟩)⟩
theorem gsN_tup {is : List Nat} {qs : List (Nat ⊕ List Nat)} {es' es : List Expr} {k : Nat} (hg : GD X C (.Tuple es' k pos) (.tp is)) (h2 : PGs X es (gN X.K C qs))
    (hs : (assignEach (.Tuple es' k pos :: es) X.env).map (·.2) = assign (.Tuple es' k pos) X.env :: (assignEach es X.env).map (·.2) := by rfl) :
    PGs X (.Tuple es' k pos :: es) (gN X.K C (.inr is :: qs)) := ⟨fun pins s sg H vs us Q I r ⟨e, S, io, ds, e', dn, sl, rs, b, q⟩ => (pgs_cons hg h2 hs).run pins s sg H vs us Q I r (by
  cases rs with
  | nil => cases b
  | @cons d ds v vs h rs =>
    simp only [bindN] at b
    obtain ⟨xs, h3, h4⟩ := bind_some' b
    split at h4
    · rename_i hl
      exact ⟨_, _, rfl, e, S, io, d, setAll is xs e, dn, sl, h, by show (parts S d).bind _ = _; rw [h3, Option.bind_some, if_pos hl], fun sg1 s1 a1 => ⟨_, S, io, _, e', dn, s1, rs, h4, fun sg' s' ag => q sg' s' fun ws hw =>
        (ag ws fun j hj => hw j (List.mem_append_right _ hj)).trans (a1 ws fun j hj => hw j (List.mem_append_left _ hj))⟩⟩
    · cases h4)⟩
theorem g_tn {qs : List (Nat ⊕ List Nat)} {es : List Expr} {k : Nat} (hc : X.calm = true) (h : PGs X es (gN X.K C qs)) (hn : (assignEach es X.env).length = qs.length := by rfl) (hst : (assignEach es X.env).findIdx? (·.1) = none := by rfl) : GD X C (.Tuple es k pos) (.tn qs) :=
  ((pg_tup hc h hn hst).or (pg_lst hc h hn hst)).imp fun v sg H Q ⟨e, S, io, d, e', dn, s, r, b, q⟩ => by
    obtain ⟨ds, h1, h2⟩ := bind_some' b
    have hl := bindN_len h2
    unfold parts at h1
    split at h1
    · cases h1
      cases r with
      | tup q1 rs => exact .inl ⟨_, _, rfl, sqT_same (Fz_same _ _) q1, by rw [← rs.length]; exact hl, e, S, io, _, e', dn, s, rs, h2, q⟩
    · obtain ⟨p, vs, rfl, hq, rs⟩ := asL_rep h1 dn r
      exact .inr ⟨_, _, rfl, hq, by rw [← rs.length]; exact hl, e, S, io, _, e', dn, s, rs, h2, q⟩
def sAsg (t : Tg) (a : RE) : RS := fun e S => (a e S).fl e fun d S1 => match bindT S1 d e t with
  | some e' => .nx e' S1
  | none => .bad
theorem s_asg {a tg : Expr} {t : Tg} {ra : RE} (ha : PE X a (tE X.K C W ra)) (hg : GD X C tg t) (hs : swapsWithSole [tg] a pos.line X.env = pure false := by rfl) (hw : swappedStores [tg] a X.env = pure none := by rfl)
    (h1 : (assignEach [tg] X.env).map (·.2) = [assign tg X.env] := by rfl) : PS X (.Assign [tg] a pos) (tS X.K C W (sAsg t ra)) :=
  (ps_asg ha hg hs hw h1).imp fun Dn sg H h => (tS.seq (R := RepR X.K C) (fun e d S1 => match bindT S1 d e t with | some e' => .nx e' S1 | none => .bad) h fun _ _ => rfl).mono fun v H1 ⟨e, S, io, k1, d, s, q, p⟩ => by
    cases hb : bindT S k1 e t with
    | none => rw [hb] at p; exact p.elim
    | some e' =>
      rw [hb] at p
      exact ⟨e, S, io, k1, e', d, s, q, hb, fun sg' s' _ => p sg' H1 io (Ext.refl _ _) d s'⟩
/-- a, b = x, y and a, b, c = x, y, z, plain local names -/
def sPar (is : List Nat) (as : RA) : RS := fun e S => (as e S).fl e fun ds S1 => if ds.length = is.length then .nx (setAll is ds e) S1 else .bad
theorem s_par2 (i j : Nat) {x y : Str} {a b : Expr} {rs : RA} {px py pt : Pos} {kt k2 pt2} (hc : X.calm = true) (hN : X.N.Nodup) (ha : PA X [a, b] (tA X.K C W rs)) (hi : X.N[i]? = some x := by rfl) (hj : X.N[j]? = some y := by rfl) (hij : i ≠ j := by decide)
    (hx : X.env.scope.names.lookup x = some .local := by rfl) (hy : X.env.scope.names.lookup y = some .local := by rfl)
    (hw : swappedStores [.Tuple [.Name x px, .Name y py] kt pt] (.Tuple [a, b] k2 pt2) X.env = pure (some [x, y]) := by rfl)
    (hs : swapsWithSole [.Tuple [.Name x px, .Name y py] kt pt] (.Tuple [a, b] k2 pt2) pos.line X.env = pure false := by rfl) :
    PS X (.Assign [.Tuple [.Name x px, .Name y py] kt pt] (.Tuple [a, b] k2 pt2) pos) (tS X.K C W (sPar [i, j] rs)) :=
  (ps_par hc hN hi hj hij hx hy ha hw hs).imp fun Dn sg H h => (tS.seq (R := RepsR X.K C) (fun e ds S1 => if ds.length = [i, j].length then .nx (setAll [i, j] ds e) S1 else .bad) h fun _ _ => rfl).mono fun vs H1 ⟨e, S, io, k1, d, s, q, p⟩ => by
    split at p
    · rename_i hl
      match k1, vs, q, hl with
      | [d1, d2], [v1, v2], q, hl => exact ⟨v1, v2, rfl, p _ H1 io (Ext.refl _ _) d (setAll_slots [i, j] s q)⟩
      | [_, _], [_], q, hl => exact nomatch q.length
      | [_, _], [], q, hl => exact nomatch q.length
      | [_, _], _ :: _ :: _ :: _, q, hl => exact nomatch q.length
    · exact p.elim
theorem s_par3 (i j l : Nat) {x y z : Str} {a b c : Expr} {rs : RA} {px py pz pt : Pos} {kt k2 pt2} (hc : X.calm = true) (hN : X.N.Nodup) (ha : PA X [a, b, c] (tA X.K C W rs)) (hi : X.N[i]? = some x := by rfl) (hj : X.N[j]? = some y := by rfl) (hl : X.N[l]? = some z := by rfl) (hij : i ≠ j := by decide) (hil : i ≠ l := by decide) (hjl : j ≠ l := by decide)
    (hx : X.env.scope.names.lookup x = some .local := by rfl) (hy : X.env.scope.names.lookup y = some .local := by rfl) (hz : X.env.scope.names.lookup z = some .local := by rfl)
    (hw : swappedStores [.Tuple [.Name x px, .Name y py, .Name z pz] kt pt] (.Tuple [a, b, c] k2 pt2) X.env = pure (some [x, y, z]) := by rfl)
    (hs : swapsWithSole [.Tuple [.Name x px, .Name y py, .Name z pz] kt pt] (.Tuple [a, b, c] k2 pt2) pos.line X.env = pure false := by rfl) :
    PS X (.Assign [.Tuple [.Name x px, .Name y py, .Name z pz] kt pt] (.Tuple [a, b, c] k2 pt2) pos) (tS X.K C W (sPar [i, j, l] rs)) :=
  (ps_par3 hc hN hi hj hl hij hil hjl hx hy hz ha hw hs).imp fun Dn sg H h => (tS.seq (R := RepsR X.K C) (fun e ds S1 => if ds.length = [i, j, l].length then .nx (setAll [i, j, l] ds e) S1 else .bad) h fun _ _ => rfl).mono fun vs H1 ⟨e, S, io, k1, d, s, q, p⟩ => by
    split at p
    · rename_i hl
      match k1, vs, q, hl with
      | [d1, d2, d3], [v1, v2, v3], q, hl => exact ⟨v1, v2, v3, rfl, p _ H1 io (Ext.refl _ _) d (setAll_slots [i, j, l] s q)⟩
      | [_, _, _], [_, _], q, hl => exact nomatch q.length
      | [_, _, _], [_], q, hl => exact nomatch q.length
      | [_, _, _], [], q, hl => exact nomatch q.length
      | [_, _, _], _ :: _ :: _ :: _ :: _, q, hl => exact nomatch q.length
    · exact p.elim
end

/-! ### own defs -/
def Fl.res : Fl → Res D
  | .nx _ S1 => .ok .non S1
  | .rt d S1 => .ok d S1
  | .er x _ S1 => .err x S1
  | .bad => .bad
def runDef (n : Nat) (m : RS) (ds : List D) (S : Store) : Res D := (m (ds.map some ++ List.replicate (n - ds.length) none) S).res
def spOf (K : PySem.W.Frag) (C : Nat → Addr) (n : Nat) (g : List D → Store → Res D) : Sp := fun vs H Q E =>
  vs.length = n ∧ ∃ ds S io, Den K C io S H ∧ Reps K C io (Fz io H) ds vs ∧ Post K C (RepR K C) (fun cls dd _ H' => E cls dd H') [] io H (g ds S) Q
theorem slots_start {K : PySem.W.Frag} {C : Nat → Addr} {io : Io} {F : Hp} {N : List Str} {ds : List D} {vs : List V} (r : Reps K C io F ds vs) : Slots K C io F (ds.map some ++ List.replicate (N.length - ds.length) none) (L2.start N vs) := by
  refine ⟨by simp [L2.start, r.length], fun i d h => ?_⟩
  by_cases hi : i < ds.length
  · rw [List.getElem?_append_left (by simpa using hi), List.getElem?_map] at h
    cases e : ds[i]? with
    | none => rw [e] at h; cases h
    | some x =>
      rw [e] at h
      cases h
      obtain ⟨v, h1, h2⟩ := r.get e
      refine ⟨v, ?_, h2⟩
      unfold L2.start
      rw [List.getElem?_append_left (by rw [List.length_map, ← r.length]; exact hi), List.getElem?_map, h1]
      rfl
  · rw [List.getElem?_append_right (by simpa using hi), List.getElem?_replicate] at h
    split at h <;> cases h
section
variable {P : Program} {w : World} {K : PySem.W.Frag} {mg : Str → Option Value} {base : Heap} {C : Nat → Addr}
theorem fn_ev {x qual : Str} {st : Stmt} {f : Addr} {fd : FuncData} {N ps : List Str} {k : Nat} {m : RS} (F : Fun K x qual st f fd) (S : FnScope N ps (defScope st))
    (hbody : ∀ (cdv : Value) (A : Around) (outer : List PySem.Env) (s : Shared) (H : Hp) (E : XK), Room k (A.deeper (PyProof.Rows.envOfC qual (defScope st) s.heap.objs.size f cdv)) →
      Takes (cxOf (L2.CX P w) P w K mg base N qual (defScope st) f cdv A outer s H E) (fun cls d _ H => E cls d H) →
      PassesOwn (model P w) (cxOf (L2.CX P w) P w K mg base N qual (defScope st) f cdv A outer s H E).A (cxOf (L2.CX P w) P w K mg base N qual (defScope st) f cdv A outer s H E).env (cxOf (L2.CX P w) P w K mg base N qual (defScope st) f cdv A outer s H E).xe →
      PSs (cxOf (L2.CX P w) P w K mg base N qual (defScope st) f cdv A outer s H E) (defBody st) (tS K C (fun cls d _ H => E cls d H) m)) :
    FnOk P w K mg base (L2.CX P w) (k + 1) f fd ps (spOf K C ps.length (runDef N.length m)) := by
  refine F.okX S (fun vs H Q E h => h.1) (fun cdv A outer s H vs Q E hr h => ?_)
  refine ⟨_, hbody cdv A outer s H E hr (takes_of rfl rfl rfl rfl) (passes_of rfl), ?_⟩
  obtain ⟨hl, ds, S, io, dn, rs, p⟩ := h
  refine ⟨_, S, io, dn, slots_start rs, ?_⟩
  unfold runDef Fl.res at p
  split at p
  · rename_i e S1 q
    rw [q]
    exact fun sg H' io' x d s => p _ H' io' x d .non
  · rename_i d S1 q
    rw [q]
    exact p
  · rename_i x e S1 q
    rw [q]
    exact fun cls dd sg H' io' x d s xr => p cls dd H' io' x d xr
  · exact p.elim
/-- another function that does the same -/
theorem fn_as {f : Addr} {fd : FuncData} {ps : List Str} {k n : Nat} {g g' : List D → Store → Res D} (F : FnOk P w K mg base (L2.CX P w) k f fd ps (spOf K C n g)) (h : ∀ ds S, g' ds S ≠ .bad → g ds S = g' ds S) : FnOk P w K mg base (L2.CX P w) k f fd ps (spOf K C n g') :=
  F.imp fun vs H Q E ⟨hl, ds, S, io, dn, rs, p⟩ => ⟨hl, ds, S, io, dn, rs, by rw [h ds S (fun z => by rw [z] at p; exact p)]; exact p⟩
end
def rCall (g : List D → Store → Res D) (as : RA) : RE := fun e S => (as e S).bind fun ds S1 => g ds S1
section
variable {X : Cx} {C : Nat → Addr} {W : WX} {k n : Nat} {f : Addr} {fd : FuncData} {ps : List Str} {g : List D → Store → Res D} {x : Str} {p pos : Pos} {e : Expr} {es : List Expr} {rs : RA}
theorem ee_call (F : FnOk X.prog X.w X.K X.mg X.base (L2.CX X.prog X.w) k f fd ps (spOf X.K C n g)) (hr : Room k X.A) (hg : Gl X x) (hm : X.mg x = some (.ref f)) (hk : PySem.W.keepIn X.K (.ref f) = true) (hb : Binds X.K fd ps []) (tk : Takes X W)
    (ha : PA X (e :: es) (tA X.K C W rs)) (hn : AL n rs) (hdb : (x == ("__debug__" : Str)) = false := by decide) (he : starEach (e :: es) X.env = (false, eval e X.env) :: starEach es X.env := by rfl) (hpl : (backTo pos (starEach es X.env)).any (·.1) = false := by rfl) :
    PE X (.Call (.Name x p) (e :: es) [] pos) (tE X.K C W (rCall g rs)) :=
  (pe_callS F hr hg hm hk hb (passAt tk) ha hdb he hpl).imp fun sg H Q h => tR.mono (tA.alen hn (tR.seq1 (fun _ ds S => g ds S) h fun _ _ => rfl)) fun vs H1 ⟨hl, e, S, io, ds, d, s, r, p⟩ =>
    ⟨hl, ds, S, io, d, r, by
      cases q : g ds S with
      | ok a S1 => rw [q] at p; exact p
      | err y S1 => rw [q] at p; exact p
      | bad => rw [q] at p; exact p⟩
end
end Ev
namespace Ev
open PySem PySem.Spec L2

/-! ### what a loop walks -/
/-- the walk J goes through the items ds, whatever comes -/
def Wk (K : PySem.W.Frag) (C : Nat → Addr) : Io → Hp → List D → It → Prop := fun io F ds J =>
  ∀ (io' : Io) (H' : Hp) (S' : Store), (∀ (n : Nat) (a : Addr), io.l[n]? = some a → io'.l[n]? = some a) → Same F (Fz io' H') → Den K C io' S' H' →
    (∀ i, i < ds.length → J.go i H') ∧ J.stop ds.length H' ∧ ∀ i x H'', i < ds.length → J.yld i H' x H'' → ∃ d, ds[i]? = some d ∧ Ext io' H' io' H'' ∧ Den K C io' S' H'' ∧ Rep K C io' (Fz io' H'') d x
abbrev tI (K : PySem.W.Frag) (C : Nat → Addr) (W : WX) (r : RA) : TI := tR K C (Wk K C) W r
theorem wk_list {K : PySem.W.Frag} {C : Nat → Addr} {io : Io} {F : Hp} {a : Addr} {vs : List V} {ds : List D} (h : SqL K F a vs) (r : Reps K C io F ds vs) : Wk K C io F ds (Itl K a) := fun io' H' S' hp hs dn => by
  have h' : SqL K H' a vs := (Fz_same _ _).seq (hs.seq h)
  refine ⟨fun i hi => ?_, ⟨vs, h', by rw [r.length]; exact Nat.le_refl _⟩, fun i x H'' hi y => ?_⟩
  · have hv : i < vs.length := by rw [← r.length]; exact hi
    exact ⟨vs, vs[i], h', by simp [hv]⟩
  · obtain ⟨rfl, y⟩ := y
    obtain ⟨d, e1, e2⟩ := r.getV (y vs h')
    exact ⟨d, e1, Ext.refl _ _, dn, e2.mono hp hs⟩
theorem wk_tup {K : PySem.W.Frag} {C : Nat → Addr} {io : Io} {F : Hp} {a : Addr} {vs : List V} {ds : List D} (h : SqT K F a vs) (r : Reps K C io F ds vs) : Wk K C io F ds (Itt K a) := fun io' H' S' hp hs dn => by
  have h' : SqT K H' a vs := sqT_same (Fz_same _ _) (sqT_same hs h)
  refine ⟨fun i hi => ?_, ⟨vs, h', by rw [r.length]; exact Nat.le_refl _⟩, fun i x H'' hi y => ?_⟩
  · have hv : i < vs.length := by rw [← r.length]; exact hi
    exact ⟨vs, vs[i], h', by simp [hv]⟩
  · obtain ⟨rfl, y⟩ := y
    obtain ⟨d, e1, e2⟩ := r.getV (y vs h')
    exact ⟨d, e1, Ext.refl _ _, dn, e2.mono hp hs⟩
/-- lo, lo + 1, .. -/
def rangeD (lo : Int) (n : Nat) : List D := (List.range n).map fun (i : Nat) => D.int (lo + (i : Int))
theorem wk_range {K : PySem.W.Frag} {C : Nat → Addr} {io : Io} {F : Hp} (lo : Int) (n : Nat) : Wk K C io F (rangeD lo n) (Itr lo n) := fun io' H' S' hp hs dn => by
  refine ⟨fun i hi => by show i < n; simpa [rangeD] using hi, by show n ≤ _; simp [rangeD], fun i x H'' hi y => ?_⟩
  obtain ⟨rfl, rfl⟩ := y
  have hi' : i < n := by simpa [rangeD] using hi
  exact ⟨.int (lo + i), by simp [rangeD, hi'], Ext.refl _ _, dn, .int _⟩
theorem _root_.L2.PI.imp {X : Cx} {tg e : Expr} {t t' : TI} (h : PI X tg e t) (hi : ∀ sg H Q, t' sg H Q → t sg H Q) : PI X tg e t' := ⟨fun pins s sg H Q I hw => h.run pins s sg H Q I (hi _ _ _ hw)⟩
theorem _root_.L2.PI.or {X : Cx} {tg e : Expr} {t t' : TI} (h : PI X tg e t) (h' : PI X tg e t') : PI X tg e (fun sg H Q => t sg H Q ∨ t' sg H Q) := ⟨fun pins s sg H Q I hw => hw.elim (h.run pins s sg H Q I) (h'.run pins s sg H Q I)⟩
/-- the items of a thing that stands still -/
def signsD (x : Str) : List D := x.cps.toList.map fun c => .str ⟨#[c]⟩
def itemsD : D → Option (List D)
  | .tup xs => some xs
  | .lst xs => some xs
  | .str x => some (signsD x)
  | _ => none
theorem wk_str {K : PySem.W.Frag} {C : Nat → Addr} {io : Io} {F : Hp} (x : Str) : Wk K C io F (signsD x) (Its x) := fun io' H' S' hp hs dn => by
  have hl : (signsD x).length = x.cps.size := by simp [signsD]
  refine ⟨fun i hi => by rw [hl] at hi; exact hi, by show x.cps.size ≤ _; rw [hl]; exact Nat.le_refl _, fun i v H'' hi y => ?_⟩
  obtain ⟨rfl, c, hc, rfl⟩ := y
  exact ⟨.str ⟨#[c]⟩, by simp [signsD, hc], Ext.refl _ _, dn, .str _⟩
def rIt (a : RE) : RA := fun e S => (a e S).bind fun d S1 => ofO (itemsD d) S1
def ran1 : List D → Option (List D)
  | [.int j] => if -(2 ^ 62) ≤ j ∧ j < 2 ^ 62 then some (rangeD 0 j.toNat) else none
  | _ => none
def ran2 : List D → Option (List D)
  | [.int i, .int j] => if -(2 ^ 62) ≤ i ∧ i < 2 ^ 62 ∧ -(2 ^ 62) ≤ j ∧ j < 2 ^ 62 then some (rangeD i (j - i).toNat) else none
  | _ => none
def rRan (f : List D → Option (List D)) (as : RA) : RA := fun e S => (as e S).bind fun ds S1 => ofO (f ds) S1
section
variable {X : Cx} {C : Nat → Addr} {W : WX} {tg a b : Expr} {ra : RE} {rs : RA} {pos p : Pos}
theorem ei_seq (ha : PE X a (tE X.K C W ra)) : PI X tg a (tI X.K C W (rIt ra)) := by
  have hi : PI X tg a (fun sg H R => tE X.K C W ra sg H fun x H1 => (∃ p, x = .ref p ∧ (∃ xs, SqL X.K H1 p xs) ∧ R (Itl X.K p) H1) ∨ (∃ p, x = .ref p ∧ (∃ xs, SqT X.K H1 p xs) ∧ R (Itt X.K p) H1) ∨ (∃ z, x = .str z ∧ R (Its z) H1)) := by
    refine ⟨fun pins s sg H R I h => ?_⟩
    refine thn (ha.run pins s sg H _ I h) fun v s1 ⟨x, H1, I1, r1, q1⟩ => ?_
    rcases q1 with ⟨p, rfl, ⟨xs, hq⟩, q⟩ | ⟨p, rfl, ⟨xs, hq⟩, q⟩ | ⟨z, rfl, q⟩
    · cases r1
      obtain ⟨its, rv, pl, hz⟩ := I1.list hq
      refine wpAny_pyIter_list pl.isList ?_
      refine ⟨s1.heap.objs.size, [s1.heap.objs.size], _, _, H1, rfl, I1.kept (t' := s1.toks) fun b o e => Heap.get?_push_of_some _ e, turn_list p _, ⟨_, Heap.get?_push_size _ rfl, rfl, rfl⟩, fun b hb => ?_, q⟩
      have e : b = s1.heap.objs.size := by simpa using hb
      subst e
      exact I1.fpOk (Nat.le_refl _) (I1.hok.fresh (Nat.le_refl _))
    · cases r1
      obtain ⟨its, rv, pl, hz⟩ := I1.tuple hq
      refine wpAny_pyIter_tuple (show s1.heap.IsTuple p its.toArray from pl) ?_
      refine ⟨s1.heap.objs.size, [s1.heap.objs.size], _, _, H1, rfl, I1.kept (t' := s1.toks) fun b o e => Heap.get?_push_of_some _ e, turn_tuple p _, ⟨_, Heap.get?_push_size _ rfl, rfl, rfl⟩, fun b hb => ?_, q⟩
      have e : b = s1.heap.objs.size := by simpa using hb
      subst e
      exact I1.fpOk (Nat.le_refl _) (I1.hok.fresh (Nat.le_refl _))
    · obtain ⟨t, rfl⟩ := r1
      cases ha : z.cps.all (· < 128)
      · exact wpAny_pyIter_wide ha (pi_one (tk := s1.toks) I1 _ (turn_str _ z t "str_iterator" (.inr rfl)) ⟨_, Heap.get?_push_size _ rfl, rfl, rfl⟩ q)
      · exact wpAny_pyIter_ascii ha (pi_one (tk := s1.toks) I1 _ (turn_str _ z t "str_ascii_iterator" (.inl rfl)) ⟨_, Heap.get?_push_size _ rfl, rfl, rfl⟩ q)
  refine hi.imp fun sg H R h => (tR.seq1 (R := RepR X.K C) (fun _ d S => ofO (itemsD d) S) h fun _ _ => rfl).mono fun x H1 ⟨e, S, io, d, dn, s, r, p⟩ => ?_
  obtain ⟨ds, ed, p⟩ := p.ofO
  cases r with
  | tup q rs => cases ed; exact .inr (.inl ⟨_, rfl, ⟨_, sqT_same (Fz_same _ _) q⟩, p _ H1 io (Ext.refl _ _) dn (wk_tup q rs)⟩)
  | str z => cases ed; exact .inr (.inr ⟨_, rfl, p _ H1 io (Ext.refl _ _) dn (wk_str z)⟩)
  | lst q rs => cases ed; exact .inl ⟨_, rfl, ⟨_, (Fz_same _ _).seq q⟩, p _ H1 io (Ext.refl _ _) dn (wk_list q rs)⟩
  | _ => cases ed
theorem ei_range1 (hg : Gl X "range") (hm : X.mg "range" = none) (ha : PA X [a] (tA X.K C W rs)) (hs : starEach [a] X.env = [(false, eval a X.env)] := by rfl) : PI X tg (.Call (.Name "range" p) [a] [] pos) (tI X.K C W (rRan ran1 rs)) :=
  (pi_range1 hg hm ha hs).imp fun sg H R h => (tR.seq1 (R := RepsR X.K C) (fun _ ds S => ofO (ran1 ds) S) h fun _ _ => rfl).mono fun vs H1 ⟨e, S, io, ds, dn, s, r, p1⟩ => by
    obtain ⟨zs, ed, p1⟩ := p1.ofO
    unfold ran1 at ed
    split at ed
    · split at ed
      · rename_i hj
        cases ed
        obtain ⟨v, rfl, h⟩ := reps1 r
        cases h
        exact ⟨_, rfl, hj.1, hj.2, p1 _ H1 io (Ext.refl _ _) dn (wk_range 0 _)⟩
      · cases ed
    · cases ed
theorem ei_range2 (hg : Gl X "range") (hm : X.mg "range" = none) (ha : PA X [a, b] (tA X.K C W rs)) (hs : starEach [a, b] X.env = [(false, eval a X.env), (false, eval b X.env)] := by rfl) (hs2 : starEach [b] X.env = [(false, eval b X.env)] := by rfl) : PI X tg (.Call (.Name "range" p) [a, b] [] pos) (tI X.K C W (rRan ran2 rs)) :=
  (pi_range2 hg hm ha hs hs2).imp fun sg H R h => (tR.seq1 (R := RepsR X.K C) (fun _ ds S => ofO (ran2 ds) S) h fun _ _ => rfl).mono fun vs H1 ⟨e, S, io, ds, dn, s, r, p1⟩ => by
    obtain ⟨zs, ed, p1⟩ := p1.ofO
    unfold ran2 at ed
    split at ed
    · split at ed
      · rename_i hj
        cases ed
        obtain ⟨v, u, rfl, h, h2⟩ := reps2 r
        cases h; cases h2
        exact ⟨_, _, rfl, hj, p1 _ H1 io (Ext.refl _ _) dn (wk_range _ _)⟩
      · cases ed
    · cases ed
end

/-! ### for -/
def forL (t : Tg) (body : RS) : List D → RS
  | [], e, S => .nx e S
  | d :: ds, e, S => match bindT S d e t with
    | none => .bad
    | some e1 => (body e1 S).andThen (forL t body ds)
def sFor (it : RA) (t : Tg) (body : RS) : RS := fun e S => (it e S).fl e fun ds S1 => forL t body ds e S1
section
variable {X : Cx} {C : Nat → Addr} {W : WX} {tg iter c : Expr} {ri : RA} {body : List Stmt} {mb : RS} {t : Tg} {tc : RT} {pos : Pos}
theorem s_for (hp : PassesOwn (model X.prog X.w) X.A X.env X.xe) (hc : X.calm = true) (hi : PI X tg iter (tI X.K C W ri)) (hg : GD X C tg t) (hb : PSs X body (tS X.K C W mb)) (hs : ∀ x, foldedSetIterable iter X.env x = pure x := by intro _; rfl) :
    PS X (.For tg iter body [] pos) (tS X.K C W (sFor ri t mb)) :=
  (ps_for hp hc hi hg hb hs).imp fun Dn sg H h => (tS.seq (R := Wk X.K C) (fun e ds S1 => forL t mb ds e S1) h fun _ _ => rfl).mono fun J H1 ⟨e, S, io, ds, dn, s, wk, p⟩ => by
    refine ⟨fun i m sg' H' => m + i = ds.length ∧ ∃ e' S' io', Ext io H1 io' H' ∧ Den X.K C io' S' H' ∧ Slots X.K C io' (Fz io' H') e' sg' ∧ PostS X.K C W io' H' (forL t mb (ds.drop i) e' S') Dn,
      ⟨ds.length, rfl, e, S, io, Ext.refl _ _, dn, s, p⟩, fun i m sg' H' ⟨hm, e', S', io', x', d', s', p'⟩ => ?_⟩
    obtain ⟨go, stop, yld⟩ := wk io' H' S' x'.pre x'.same d'
    by_cases hi : i < ds.length
    · rw [List.drop_eq_getElem_cons hi] at p'
      refine .inr ⟨go i hi, fun sg2 H2 => ∃ e2 S2 io2, Ext io H1 io2 H2 ∧ Den X.K C io2 S2 H2 ∧ Slots X.K C io2 (Fz io2 H2) e2 sg2 ∧ PostS X.K C W io2 H2 (forL t mb (ds.drop (i + 1)) e2 S2) Dn, fun sg2 H2 h2 => ⟨m - 1, by omega, by omega, h2⟩, fun x H2 y => ?_⟩
      obtain ⟨d, ed, x2, d2, r2⟩ := yld i x H2 hi y
      have ed' : ds[i] = d := by rw [List.getElem?_eq_getElem hi] at ed; exact Option.some.inj ed
      rw [ed'] at p'
      unfold forL at p'
      cases hb : bindT S' d e' t with
      | none => rw [hb] at p'; exact p'.elim
      | some e1 =>
        rw [hb] at p'
        refine ⟨e', S', io', d, e1, d2, s'.ext x2, r2, hb, fun sg3 s3 _ => ⟨e1, S', io', d2, s3, ?_⟩⟩
        have p2 := PostS.ext x2 p'
        cases q : mb e1 S' with
        | nx e4 S4 =>
          simp only [q, Fl.andThen] at p2
          exact fun sg4 H4 io4 x4 d4 s4 => ⟨e4, S4, io4, (x'.trans x2).trans x4, d4, s4, PostS.ext x4 p2⟩
        | rt d4 S4 => simp only [q, Fl.andThen] at p2; exact p2
        | er x4 e4 S4 => simp only [q, Fl.andThen] at p2; exact p2
        | bad => simp only [q, Fl.andThen] at p2; exact p2
    · have e1 : ds.length = i := by omega
      rw [List.drop_of_length_le (by omega)] at p'
      rw [e1] at stop
      exact .inl ⟨stop, p' sg' H' io' (Ext.refl _ _) d' s'⟩
/-- while, at most n turns -/
def whileN (c : RT) (body : RS) : Nat → RS
  | 0, _, _ => .bad
  | n + 1, e, S => (c e S).fl e fun k S1 => if k = true then (body e S1).andThen (whileN c body n) else .nx e S1
theorem s_while (n : Nat) (hp : PassesOwn (model X.prog X.w) X.A X.env X.xe) (hc : PT X c (tT X.K C W tc)) (hb : PSs X body (tS X.K C W mb)) : PS X (.While c body [] pos) (tS X.K C W (whileN tc mb n)) :=
  (ps_while hp hc hb).imp fun Dn sg H ⟨e, S, io, dn, s, p⟩ => by
    refine ⟨fun m sg' H' => tS X.K C W (whileN tc mb m) Dn sg' H', ⟨n, e, S, io, dn, s, p⟩, fun m sg' H' h' => ?_⟩
    cases m with
    | zero => obtain ⟨_, _, _, _, _, p'⟩ := h'; exact p'.elim
    | succ m =>
      refine (tS.seq (R := EqR) (m := whileN tc mb (m + 1)) (fun e k S1 => if k = true then (mb e S1).andThen (whileN tc mb m) else .nx e S1) h' fun _ _ => rfl).mono fun k H1 ⟨e1, S1, io1, k1, d1, s1, q, p1⟩ => ?_
      cases q
      cases k with
      | false => exact p1 sg' H1 io1 (Ext.refl _ _) d1 s1
      | true =>
        refine ⟨tS X.K C W (whileN tc mb m) Dn, fun sg2 H2 h2 => ⟨m, Nat.lt_succ_self m, h2⟩, e1, S1, io1, d1, s1, ?_⟩
        rw [if_pos rfl] at p1
        cases q : mb e1 S1 with
        | nx e4 S4 =>
          simp only [q, Fl.andThen] at p1
          exact fun sg4 H4 io4 x4 d4 s4 => ⟨e4, S4, io4, d4, s4, PostS.ext x4 p1⟩
        | rt d4 S4 => simp only [q, Fl.andThen] at p1; exact p1
        | er x4 e4 S4 => simp only [q, Fl.andThen] at p1; exact p1
        | bad => simp only [q, Fl.andThen] at p1; exact p1
end

/-! ### stores into a list, x += e -/
/-- o[i] = v of a list of the store -/
def putIx (S : Store) (o i v : D) : Option Store := match o, i with
  | .loc n, .int k => match S[n]? with
    | some (.lst xs) => (ixN xs.length k).bind fun j => some (S.set n (.lst (xs.set j v)))
    | _ => none
  | _, _ => none
def sPutIx (a o i : RE) : RS := fun e S => (a e S).fl e fun v S1 => (o e S1).fl e fun x S2 => (i e S2).fl e fun y S3 => match putIx S3 x y v with
  | some S4 => .nx e S4
  | none => .bad
def sAug (i : Nat) (f : Store → D → D → Option D) (a : RE) : RS := fun e S => match e[i]? with
  | some (some x) => (a e S).fl e fun y S1 => match f S1 x y with
    | some z => .nx (e.set i (some z)) S1
    | none => .bad
  | _ => .bad
section
variable {X : Cx} {C : Nat → Addr} {W : WX} {a o i : Expr} {ra ro ri : RE} {pos tpos : Pos}
theorem Den.list {K : PySem.W.Frag} {io : Io} {S : Store} {H : Hp} {n : Nat} {p : Addr} {xs : List D} (dn : Den K C io S H) (e : S[n]? = some (.lst xs)) (h : io.l[n]? = some p) : ∃ vs, H p = some (.lst vs) ∧ Reps K C io (Fz io H) xs vs := dn.obj n _ p e h
/-- a list of the store gets other items -/
theorem Den.setL {K : PySem.W.Frag} {io : Io} {S : Store} {H : Hp} {n : Nat} {p : Addr} {ys : List D} {us : List V} (dn : Den K C io S H) (h : io.l[n]? = some p) (r : Reps K C io (Fz io H) ys us) : Ext io H io (upd H p (.lst us)) ∧ Den K C io (S.set n (.lst ys)) (upd H p (.lst us)) :=
  have hm : p ∈ io.all := mem_all h
  ⟨Ext.put hm, dn.put h ⟨us, upd_same, by rw [Fz_upd_old hm]; exact r⟩⟩
theorem s_putIx (ha : PE X a (tE X.K C W ra)) (ho : PE X o (tE X.K C W ro)) (hi : PE X i (tE X.K C W ri))
    (hA : ∀ v, assign (.Subscript o i tpos) X.env v = (do
      let ov ← holding [v] (eval o X.env)
      let iv ← holding [v, ov] (eval i X.env)
      standAt tpos
      holding [v, ov, iv] (setItem ov iv v)
      release [v, ov, iv] []) := by intro _; rfl)
    (hs : swapsWithSole [.Subscript o i tpos] a pos.line X.env = pure false := by rfl) (hw : swappedStores [.Subscript o i tpos] a X.env = pure none := by rfl) (h1 : (assignEach [.Subscript o i tpos] X.env).map (·.2) = [assign (.Subscript o i tpos) X.env] := by rfl) :
    PS X (.Assign [.Subscript o i tpos] a pos) (tS X.K C W (sPutIx ra ro ri)) :=
  (ps_asg ha (pg_sub ho hi set_list hA) hs hw h1).imp fun Dn sg H h => (tS.seq (R := RepR X.K C) (fun e v S1 => (ro e S1).fl e fun x S2 => (ri e S2).fl e fun y S3 => match putIx S3 x y v with | some S4 => .nx e S4 | none => .bad) h fun _ _ => rfl).mono fun v H1 ⟨e, S, io, v1, dn, s, r, p⟩ =>
    ⟨e, S, io, dn, s, (p.of_res (R := RepR X.K C) s).mono fun x H2 ⟨io2, S2, x1, x2, d2, r2, p2⟩ => ⟨e, S2, io2, d2, s.ext x2, (p2.of_res (R := RepR X.K C) (s.ext x2)).mono fun y H3 ⟨io3, S3, y1, x3, d3, r3, p3⟩ => by
      cases hp : putIx S3 x1 y1 v1 with
      | none => rw [hp] at p3; exact p3.elim
      | some S4 =>
        rw [hp] at p3
        unfold putIx at hp
        split at hp
        · rename_i n k
          cases r3
          split at hp
          · rename_i xs es
            obtain ⟨j, hj, hp⟩ := bind_some' hp
            cases hp
            cases r2 with
            | loc q =>
              have q3 := x3.pre _ _ q
              obtain ⟨vs, e1, rs⟩ := d3.list es q3
              obtain ⟨xx, dd⟩ := d3.setL (ys := xs.set j v1) q3 (rs.set ((r.ext x2).ext x3) j)
              exact ⟨_, vs, _, j, rfl, rfl, e1, by rw [← rs.length]; exact hj, p3 sg _ io3 xx dd (((s.ext x2).ext x3).ext xx)⟩
          · cases hp
        · cases hp⟩⟩
theorem s_aug (i : Nat) {x : Str} {f : Store → D → D → Option D} {op : Operator} {pos' : Pos} (hN : X.N.Nodup) (hop : OpD X C (inplaceOp op) f) (ha : PE X a (tE X.K C W ra)) (hi : X.N[i]? = some x := by rfl) (hx : Loc X.env.scope x := by first | exact Or.inl rfl | exact Or.inr rfl)
    (hf : X.fn x = true ∨ X.env.scope.names.lookup x = some .local := by first | exact .inl rfl | exact .inr rfl | assumption) : PS X (.AugAssign (.Name x pos') op a pos) (tS X.K C W (sAug i f ra)) :=
  (ps_aug hN hi hx ha hop hf).imp fun Dn sg H ⟨e, S, io, dn, s, p⟩ => by
    unfold sAug at p
    split at p
    · rename_i d ed
      obtain ⟨v, e1, r⟩ := s.get i d ed
      refine ⟨v, e1, e, S, io, dn, s, (p.of_res (R := RepR X.K C) s).mono fun y H1 ⟨io1, S1, y1, x1, d1, r1, p1⟩ => ?_⟩
      cases hz : f S1 d y1 with
      | none => rw [hz] at p1; exact p1.elim
      | some z =>
        rw [hz] at p1
        exact ⟨io1, S1, d, y1, z, d1, r.ext x1, r1, hz, fun w H' io' x' d' r' => p1 _ H' io' x' d' (((s.ext x1).ext x').set i r')⟩
    · exact p.elim
theorem iaddD_ok : OpD X C (inplaceOp .Add) (i2 (fun _ _ => true) fun i j => .int (i + j)) := opD_i20 iop_add fun _ _ _ _ => .int _
theorem isubD_ok : OpD X C (inplaceOp .Sub) subD := opD_i20 iop_sub fun _ _ _ _ => .int _
end

/-! ### isinstance and the built-in classes -/
def tyD (S : Store) : D → Option String
  | .non => some "NoneType"
  | .bl _ => some "bool"
  | .int _ => some "int"
  | .str _ => some "str"
  | .tup _ => some "tuple"
  | .lst _ => some "list"
  | .dct _ _ => some "dict"
  | .loc n => match S[n]? with
    | some (.lst _) => some "list"
    | some (.dK _ _) => some "dict"
    | _ => none
  | .exn _ _ _ => none
theorem tyD_rep {K : PySem.W.Frag} {C : Nat → Addr} {io : Io} {S : Store} {H : Hp} {d : D} {v : V} {t : String} (h : tyD S d = some t) (dn : Den K C io S H) (r : Rep K C io (Fz io H) d v) : TyX K H v (.type t) := by
  cases r with
  | non => cases h; exact .base .non
  | bl => cases h; exact .base (.bl _)
  | int => cases h; exact .base (.int _)
  | str => cases h; exact .base (.str _)
  | tup q rs =>
    cases h
    rcases q with (q | ⟨o, q⟩) | ⟨o, its, n, hk, hc, _⟩
    · exact .base (.tup (Fz_same _ _ _ _ q))
    · exact .fTuple (Fz_same _ _ _ _ q)
    · exact .kTuple hk hc
  | lst q rs =>
    cases h
    rcases q with (q | ⟨o, q⟩) | ⟨o, its, n, hk, hc, _⟩
    · exact .base (.lst (Fz_same _ _ _ _ q))
    · exact .base (.frz (Fz_same _ _ _ _ q))
    · exact .kList hk hc
  | dct q e1 e2 rs => cases h; exact .base (.dK (Fz_same _ _ _ _ q))
  | @loc n a q =>
    simp only [tyD] at h
    split at h
    · rename_i ys e
      cases h
      obtain ⟨vs, h1, h2⟩ := dn.obj n _ a e q
      exact .base (.lst h1)
    · rename_i ks ys e
      cases h
      obtain ⟨kvs, h1, h2, h3⟩ := dn.obj n _ a e q
      exact .base (.dK h1)
    · cases h
  | exn0 => cases h
  | exnF => cases h
def isiD (T : String) (S : Store) (d : D) : Option D := (tyD S d).bind fun t => (kitB t T).bind fun b => some (.bl b)
section
variable {X : Cx} {C : Nat → Addr} {W : WX} {a : Expr} {ra : RE} {x : Str} {T : String} {pos p p' : Pos}
/-- isinstance(a, T), T a built-in class -/
theorem ee_isi (ha : PE X a (tE X.K C W ra)) (hg : Gl X "isinstance") (hm : X.mg "isinstance" = none) (hgx : Gl X x) (hmx : X.mg x = none) (hv : bootBuiltins x = some (.type T))
    (hn : x ≠ "__name__" := by decide) (hd : (x == ("__debug__" : Str)) = false := by decide) (hv0 : bootBuiltins "isinstance" = some (.builtin "isinstance") := by decide +kernel)
    (he : starEach [a, .Name x p'] X.env = [(false, eval a X.env), (false, eval (.Name x p') X.env)] := by rfl) : PE X (.Call (.Name "isinstance" p) [a, .Name x p'] [] pos) (tE X.K C W (rUn (isiD T) ra)) :=
  (pe_callB call_isi hg hm hv0 (pa_cons ha (pa_cons (pe_bltn hgx hmx hv (v := .ty T) rfl hn hd) pa_nil rfl) he) (by decide) (by decide) he rfl).imp fun sg H Q h => (tR.seq1 (R := RepR X.K C) (fun _ d S => ofO (isiD T S d) S) h fun _ _ => rfl).mono fun v H1 ⟨e, S, io, d, dn, s, r, p⟩ => by
    obtain ⟨z, ez, p⟩ := p.ofO
    obtain ⟨t, et, ez⟩ := bind_some' ez
    obtain ⟨b, eb, ez⟩ := bind_some' ez
    cases ez
    exact ⟨v, .ty T, .type t, .type T, b, rfl, .ty T, tyD_rep et dn r, kit_ty eb, p _ H1 io (Ext.refl _ _) dn (.bl _)⟩
end
end Ev
namespace Ev
open PySem PySem.Spec L2

/-! ### an exception that was caught is tracked -/
section
variable {X : Cx} {pins : List (Addr × Obj)} {sg : L2.St} {H : Hp} {s : Shared}
theorem Inv.track {a : Addr} {oe : Obj} {vs : Array Value} (I : L2.Inv X pins sg H s) (he : s.heap.get? a = some oe) (hd : oe.data = .fields vs) (na : H a = none) (nL : a ≠ X.env.locals) (n0 : X.s_0.heap.get? a = none)
    (np : ∀ p ∈ X.pn ++ pins, p.1 ≠ a) : L2.Inv X pins sg (upd H a (exH a oe.cls oe.dict)) s := by
  have nc : ∀ x c, X.env.cells.lookup x = some c → c ≠ a := fun x c e z => by
    obtain ⟨v, o, ho, hod⟩ := I.cell x c e
    rw [z, he] at ho
    cases ho
    rw [hd] at hod
    cases hod
  refine ⟨I.ok, I.os, I.bare, ⟨I.base.keep, I.base.slot, fun b o e n hx => ?_, I.base.there, fun b xs e => ?_, fun b o u e => ?_, fun b ps e => ?_⟩, I.loc, I.cell, ?_, fun x c e => ?_, fun p hp => ?_, fun b o e => ?_, I.len⟩
  · have hb : b ≠ a := fun z => by rw [z, n0] at e; cases e
    rw [upd_ne hb]
    exact I.base.free b o e n hx
  · have q := I.base.tups b xs e
    rw [upd_ne (ne_of_none q na)]
    exact q
  · have q := I.base.frzs b o u e
    rw [upd_ne (ne_of_none q na)]
    exact q
  · obtain ⟨more, q⟩ := I.base.tbls b ps e
    exact ⟨more, by rw [upd_ne (ne_of_none q na)]; exact q⟩
  · rw [upd_ne (Ne.symm nL)]
    exact I.free
  · rw [upd_ne (nc x c e)]
    exact I.freeC x c e
  · obtain ⟨q1, q2, q3, q4, q5⟩ := I.pin p hp
    exact ⟨q1, by rw [upd_ne (np p hp)]; exact q2, q3, q4, q5⟩
  · by_cases hb : b = a
    · subst hb
      rw [upd_same] at e
      cases e
      exact ⟨⟨oe, vs, he, rfl, rfl, hd⟩, ⟨oe, he⟩, fun h1 h2 ⟨o1, v1, q1, q2⟩ k => ⟨o1, v1, k _ q1, q2⟩⟩
    · rw [upd_ne hb] at e
      exact (I.hok b o e).stay (fun c v _ q => q) (fun c q => by rw [upd_ne (ne_of_none q na)]; exact q) fun c xs q => by rw [upd_ne (ne_of_none q na)]; exact q
theorem Inv.toSuite (I : L2.Inv X pins sg H s) (a : Addr) : L2.Inv (X.suite a (X.pn ++ pins)) [] sg H s :=
  ⟨I.ok.suite _ _, I.os, I.bare, I.base, I.loc, I.cell, I.free, I.freeC, fun p hp => I.pin p (by rw [List.append_nil] at hp; exact hp), I.hok, I.len⟩
theorem Inv.offSuite {a : Addr} {pn' : List (Addr × Obj)} (I : L2.Inv (X.suite a (X.pn ++ pins)) pn' sg H s) (ok : X.Ok) : L2.Inv X pins sg H s :=
  ⟨ok, I.os, I.bare, I.base, I.loc, I.cell, I.free, I.freeC, fun p hp => I.pin p (List.mem_append_left _ hp), I.hok, I.len⟩
end
theorem Den.notXd {K : PySem.W.Frag} {C : Nat → Addr} {io : Io} {S : Store} {H : Hp} (d : Den K C io S H) {p : Addr} {fs : List (Str × V)} (h : H p = some (.xd fs)) : p ∉ io.all := fun z => by
  obtain ⟨u, e, m⟩ := d.at z
  rw [h] at e; cases e; cases m
/-- the caught exception as a value -/
theorem exn_rep {K : PySem.W.Frag} {C : Nat → Addr} {io : Io} {S : Store} {H : Hp} {a : Addr} {x : Exn} {cls : Value} {dd : Option Addr} (dn : Den K C io S H) (na : H a = none) (xr : XR K C io H x cls dd) :
    Rep K C io (Fz io (upd H a (exH a cls dd))) (.exn x.c x.ns x.xs) (.ref a) := by
  obtain ⟨rfl, xr⟩ := xr
  have e1 : Fz io (upd H a (exH a (.ref (C x.c)) dd)) a = some (exH a (.ref (C x.c)) dd) := by rw [Fz_out (dn.fresh na)]; exact upd_same
  rcases xr with ⟨h1, h2, rfl⟩ | ⟨d, fs, rfl, h1, h2, r⟩
  · rw [h1, h2]
    exact .exn0 e1
  · refine .exnF (fs := fs) e1 ?_ h2 rfl (r.ext (Ext.new dn na))
    rw [Fz_out (dn.notXd h1), upd_ne (ne_of_none h1 na)]
    exact h1

/-! ### try .. except X as n -/
def Fl.clr (i : Nat) : Fl → Fl
  | .nx e S => .nx (e.set i none) S
  | .rt d S => .rt d S
  | _ => .bad
def catchAs (sub : Nat → Option Bool) (i : Nat) (suite : RS) (x : Exn) (e : Env) (S : Store) : Fl := match sub x.c with
  | some true => (suite (e.set i (some (.exn x.c x.ns x.xs))) S).clr i
  | some false => .er x e S
  | none => .bad
def sTryAs (sub : Nat → Option Bool) (i : Nat) (body suite : RS) : RS := fun e S => match body e S with
  | .er x e1 S1 => catchAs sub i suite x e1 S1
  | f => f
section
variable {X : Cx} {C : Nat → Addr} {W : WX} {x n : Str} {c : Value} {i : Nat} {body suite : List Stmt} {b0 : Stmt} {np pos pos' : Pos} {mb ms : RS} {sub : Nat → Option Bool}
open PyProof.Rows in
theorem s_try_as (hs : X.stack = X.env :: X.outer) (hf : X.env.frame = some X.env.locals) (hex : X.ex = []) (hN : X.N.Nodup) (hi : X.N[i]? = some n) (hln : X.env.kindOf n = some .local) (hc : Names X x c) (tk : Takes X W)
    (hsub : ∀ y b, sub y = some b → PySem.W.exmOne X.K (.ref (C y)) c = some b)
    (hb : ∀ (W : WX) (pn : List (Addr × Obj)) (xe : Value → Shared → Prop), Takes (X.tr pn xe) W → PassesOwn (model X.prog X.w) X.A X.env xe → PSs (X.tr pn xe) body (tS X.K C W mb))
    (hsu : ∀ (a : Addr) (pn : List (Addr × Obj)), PSs (X.suite a pn) (b0 :: suite) (tS X.K C (fun _ _ _ _ => False) ms)) :
    PS X (.Try body [.ExceptHandler (some (.Name x np)) (some n) (b0 :: suite) pos'] [] [] pos) (tS X.K C W (sTryAs sub i mb ms)) := by
  refine ⟨fun pins s sg H Dn I h => ?_⟩
  obtain ⟨e0, S0, io0, dn0, sl0, p0⟩ := h
  have ok := I.ok
  have hfr : X.A.frames = some (X.env :: X.outer) := by rw [ok.frames, hs]
  have hloc : Loc X.env.scope n := .inl hln
  let Wt : WX := fun cls d sg' H' => ∃ x e1 S1 io1, Den X.K C io1 S1 H' ∧ Slots X.K C io1 (Fz io1 H') e1 sg' ∧ XR X.K C io1 H' x cls d ∧ PostS X.K C W io1 H' (catchAs sub i ms x e1 S1) Dn
  have hw : tS X.K C Wt mb Dn sg H := by
    refine ⟨e0, S0, io0, dn0, sl0, ?_⟩
    unfold sTryAs at p0
    cases q : mb e0 S0 with
    | nx e1 S1 => rw [q] at p0; exact p0
    | rt d1 S1 => rw [q] at p0; exact p0
    | er x e1 S1 =>
      rw [q] at p0
      exact fun cls dd sg' H' io' xx d' s' xr => ⟨x, e1, S1, io', d', s', xr, PostS.ext xx p0⟩
    | bad => rw [q] at p0; exact p0
  refine wpAny_Try_except ?_
  refine wpAny_mono ((hb Wt (X.pn ++ pins) (fun e s₁ => wpAny (model X.prog X.w) X.A (noteFrame e X.env) (fun _ s₂ => wpAny (model X.prog X.w) X.A (setFlight e none) (fun _ s₃ =>
    wpAny (model X.prog X.w) X.A (handleBy e X.env [.ExceptHandler (some (.Name x np)) (some n) (b0 :: suite) pos']) (SP X pins Dn) X.xe s₃) X.xe s₂) X.xe s₁) (fun u s' xx => ?_) PassesOwn.looking).run [] s sg H Dn (I.toTry _) hw) (fun f s1 hsp => ?_) (fun e s1 he => he)
  · -- the catch
    obtain ⟨a, B, sI, pins', sg', H', cls, d, rfl, J', nb, up, sky, na, os, ag, ex, e1, S1, io1, dn, sl, xr, pc⟩ := xx
    have J : L2.Inv X pins sg' H' sI := J'.ofTry ok
    have sky' : Sky B (X.env :: X.outer) a (Zc cls d) X.env.locals s'.heap := by rw [← hs]; exact sky
    show wpAny (model X.prog X.w) X.A (noteFrame (.ref a) X.env) _ _ _
    refine Sky.land Zc.steady hfr hf sky' fun h3 fl3 up3 => ?_
    have J3 : L2.Inv X pins sg' H' { s' with heap := h3 } := J.landed nb fl3.1 (up.trans up3) os ag
    obtain ⟨oe3, vs3, he3, hz3, hd3⟩ := fl3.there
    have notFr : ∀ {h : Heap} {o : Obj} {vs : Array Value}, h.FunFrames B (X.env :: X.outer) → h.get? a = some o → o.data = .fields vs → a ∉ frs (X.env :: X.outer) := fun {h o vs} ff e dd hm => by
      obtain ⟨_, o', e', hnf⟩ := ff.mem hm
      rw [e] at e'; cases e'
      exact hnf _ dd
    have nfr := notFr fl3.2.2.1 he3 hd3
    have nL : a ≠ X.env.locals := fun z => nfr (List.mem_filterMap.mpr ⟨X.env, List.mem_cons_self, by rw [hf, z]⟩)
    have nF : a ∉ X.fs := fun hm => by
      obtain ⟨e, he, q⟩ := List.mem_filterMap.mp hm
      exact nfr (List.mem_filterMap.mpr ⟨e, List.mem_cons_of_mem _ he, q⟩)
    have nB : B.get? a = none := fl3.2.1
    have n0 : X.s_0.heap.get? a = none := by
      cases q : X.s_0.heap.get? a with
      | none => rfl
      | some o =>
        obtain ⟨o', q'⟩ := J.base.there a o q (by rw [hex]; simp)
        have := nb a o' q' (by rw [hs]; exact nfr)
        rw [nB] at this; cases this
    have npn : ∀ p ∈ X.pn ++ pins, p.1 ≠ a := fun p hp z => by
      obtain ⟨q1, q2, q3, q4, _⟩ := J.pin p hp
      have := nb p.1 p.2 q1 (fun hm => by
        rcases List.mem_cons.mp (J.stkSub _ hm) with q | q
        · exact q3 q
        · exact q4 q)
      rw [z, nB] at this; cases this
    have S3 := J3.suite he3 hd3 na nL nF
    refine wpAny_handleBy_cons (codeAny_handlers_test ?_) (by intro q; cases q)
    have LT : PySem.W.Looks (model X.prog X.w) h3 (typeOf (.ref a)) cls := fun A Q E s k q => wpAny_typeOf_ref (k _ _ he3) (by rw [hz3.1]; exact q)
    cases eb : sub ex.c with
    | none => simp only [catchAs, eb] at pc; exact pc.elim
    | some b =>
    have hb1 : PySem.W.exmOne X.K cls c = some b := by rw [xr.1]; exact hsub _ _ eb
    have LM := PySem.W.exm_one (M := model X.prog X.w) (J3.kIn) LT hb1
    have test : ∀ {Q : Value → Shared → Prop} {E : Value → Shared → Prop}, Q c { s' with heap := h3 } → wpAny (model X.prog X.w) (X.A.mark (some (.ref a))) (eval (.Name x np) X.env) Q E { s' with heap := h3 } := fun {Q E} q => by
      obtain ⟨hg, hdbg, hm | ⟨hm, hv, hnn⟩⟩ := hc
      · exact ld_glob (X := X.suite a ((a, oe3) :: (X.pn ++ pins))) S3 hg hm q hdbg
      · exact ld_blt (X := X.suite a ((a, oe3) :: (X.pn ++ pins))) S3 hg hm hv q hnn hdbg
    refine test (LM.here ?_)
    cases b with
    | true =>
      refine codeAny_handlers_suite_as ?_
      refine HandSPX.lands_againZ fl3 fun h4 fl4 up4 => ?_
      have J4 : L2.Inv X pins sg' H' { s' with heap := h4 } := J.landed nb fl4.1 ((up.trans up3).trans up4) os ag
      obtain ⟨oe4, vs4, he4, hz4, hd4⟩ := fl4.there
      have J5 := Inv.track J4 he4 hd4 na nL n0 npn
      rw [hz4.1, hz4.2] at J5
      have S4 := Inv.toSuite J5 a
      refine store_ok (X := X.suite a (X.pn ++ pins)) (v := .ref a) S4 hN hi hloc rfl (fun s5 S5 => ?_) (.inr hln)
      have xn := Ext.new (o := exH a cls d) dn na
      have pc' : PostS X.K C (fun _ _ _ _ => False) io1 (upd H' a (exH a cls d)) (ms (e1.set i (some (.exn ex.c ex.ns ex.xs))) S1) { nx := fun sg2 H2 => Dn.nx (sg2.set i none) H2, rt := Dn.rt, bk := fun sg2 H2 => Dn.bk (sg2.set i none) H2, ct := fun sg2 H2 => Dn.ct (sg2.set i none) H2 } := by
        have p1 := PostS.ext xn pc
        simp only [catchAs, eb] at p1
        cases q : ms (e1.set i (some (.exn ex.c ex.ns ex.xs))) S1 with
        | nx e2 S2 => rw [q] at p1; exact fun sg2 H2 io2 x2 d2 s2 => p1 _ H2 io2 x2 d2 (s2.none i)
        | rt d2 S2 => rw [q] at p1; exact p1
        | er y e2 S2 => rw [q] at p1; exact p1.elim
        | bad => rw [q] at p1; exact p1
      refine wpAny_mono ((hsu a (X.pn ++ pins)).run [] s5 _ _ _ S5 ⟨_, S1, io1, dn.new na, (sl.ext xn).set i (exn_rep dn na xr), pc'⟩) (fun f s6 hsp => ?_) (fun _ _ z => False.elim z)
      have end_ : ∀ {sg6 : L2.St} {H6 : Hp} {Q : Shared → Prop}, L2.Inv (X.suite a (X.pn ++ pins)) [] sg6 H6 s6 → (∀ s7, L2.Inv X pins (sg6.set i none) H6 s7 → Q s7) →
          wpAny (model X.prog X.w) X.A (do bindName X.env n .none; unbindBehindTheSuite X.env n pos') (fun _ s7 => Q s7) X.xe s6 := fun {sg6 H6 Q} S6 hq => gone_ok (Inv.offSuite S6 ok) hN hi hln hq
      cases f with
      | next =>
        obtain ⟨sg6, H6, S6, q6⟩ := hsp
        exact end_ S6 fun s7 J7 => ⟨_, _, J7, q6⟩
      | brk =>
        obtain ⟨sg6, H6, S6, q6⟩ := hsp
        exact end_ S6 fun s7 J7 => ⟨_, _, J7, q6⟩
      | cont =>
        obtain ⟨sg6, H6, S6, q6⟩ := hsp
        exact end_ S6 fun s7 J7 => ⟨_, _, J7, q6⟩
      | ret u =>
        obtain ⟨v6, sg6, H6, S6, r6, q6⟩ := hsp
        exact end_ S6 fun s7 J7 => ⟨_, _, _, J7, r6, q6⟩
    | false =>
      show wpAny _ X.A (handleBy (.ref a) X.env []) _ _ _
      refine wpAny_handleBy_nil ?_
      obtain ⟨k1, k2, k3, oe, vs, T, oT, ts', he, hz, hd, h1, hr⟩ := id fl3
      unfold PySem.passOn
      refine wpAny_bind (wpAny_field he hd h1 ?_)
      rw [if_neg (show ¬ ((Value.ref T == Value.none) = true) from by simp)]
      simp only [catchAs, eb] at pc
      have fin : wpAny (model X.prog X.w) X.A (setFlight (.ref a) X.env.frame) (fun _ s4 => wpAny (model X.prog X.w) X.A (throw (.ref a) : Sem Flow) (SP X pins Dn) X.xe s4) X.xe { s' with heap := h3 } := by
        rw [hf]
        refine HandSPX.setFlight_upZ fl3 fun h4 hh4 up4 => wpAny_throw (tk _ _ ?_)
        exact ⟨a, B, sI, pins, sg', H', cls, d, rfl, J, nb, (up.trans up3).trans up4, .inr (.inr (by rw [hs]; exact hh4)), na, os, ag, pc cls d sg' H' io1 (Ext.refl _ _) dn sl xr⟩
      first
        | exact wpAny_bind (wpAny_pure (wpAny_bind fin))
        | exact wpAny_bind fin
  · cases f with
    | next => obtain ⟨sg1, H1, I1, q⟩ := hsp; exact wpAny_execs_nil ⟨sg1, H1, I1.ofTry ok, q⟩
    | brk => obtain ⟨sg1, H1, I1, q⟩ := hsp; exact ⟨sg1, H1, I1.ofTry ok, q⟩
    | cont => obtain ⟨sg1, H1, I1, q⟩ := hsp; exact ⟨sg1, H1, I1.ofTry ok, q⟩
    | ret u => obtain ⟨v, sg1, H1, I1, r, q⟩ := hsp; exact ⟨v, sg1, H1, I1.ofTry ok, r, q⟩

/-! ### raise X('..') of an own class without an __init__ -/
def sRaise0 (c : Nat) : RS := fun e S => .er ⟨c, [], []⟩ e S
theorem s_raise0 (c : Nat) {m : Str} {j : Nat} {bmB : List Value} {B newId initId : String} {p p2 : Pos} (hc : X.calm = true) (tk : Takes X W) (F : ExcBaseFacts B newId initId bmB) (q : PySem.W.excIn X.K (C c) bmB newId = true) (gC : X.mg x = some (.ref (C c))) (kC : PySem.W.keepIn X.K (.ref (C c)) = true) (r : Raises X (.ref (C c))) (hg : Gl X x)
    (hdb : (x == ("__debug__" : Str)) = false := by decide) : PS X (.Raise (some (.Call (.Name x p) [.Constant (.str m) j p2] [] pos')) none pos) (tS X.K C W (sRaise0 c)) :=
  (ps_raise hc tk (pmk_own F q gC kC r hg hdb)).imp fun Dn sg H ⟨e, S, io, d, s, p⟩ => p _ _ sg H io (Ext.refl _ _) d s ⟨rfl, .inl ⟨rfl, rfl, rfl⟩⟩
end
end Ev
namespace Ev
open PySem PySem.Spec L2

/-! ### isinstance, any classes -/
/-- a value's class: a built-in one by its name, or one of ours by its number -/
abbrev TK := Sum String Nat
def tkV (C : Nat → Addr) : TK → Value
  | .inl t => .type t
  | .inr c => .ref (C c)
def tkD (S : Store) : D → Option TK
  | .exn c _ _ => some (.inr c)
  | d => (tyD S d).bind fun t => some (.inl t)
section
variable {X : Cx} {C : Nat → Addr} {W : WX} {pins : List (Addr × Obj)} {sg : L2.St} {H : Hp} {s : Shared} {io : Io} {S : Store} {d : D} {v : V} {u : Value} {k : TK}
theorem kitD (hX : ∀ c, k = .inr c → ExcC X.K (C c)) (h : tkD S d = some k) (I : L2.Inv X pins sg H s) (dn : Den X.K C io S H) (r : Rep X.K C io (Fz io H) d v) (ru : RelV v u) :
    ∃ P : Heap → Prop, PySem.W.KitX X.K u (tkV C k) P ∧ P s.heap ∧ u ≠ .builtin "__main__.__loader__#opaque" := by
  have base : ∀ t, tyD S d = some t → k = .inl t → ∃ P : Heap → Prop, PySem.W.KitX X.K u (tkV C k) P ∧ P s.heap ∧ u ≠ .builtin "__main__.__loader__#opaque" := fun t e1 e2 => by
    subst e2
    exact kit_of I ru (tyD_rep e1 dn r)
  have flat : (tyD S d).bind (fun t => some (Sum.inl t : TK)) = some k → ∃ P : Heap → Prop, PySem.W.KitX X.K u (tkV C k) P ∧ P s.heap ∧ u ≠ .builtin "__main__.__loader__#opaque" := fun h => by
    obtain ⟨t, e, e2⟩ := bind_some' h
    cases e2
    exact base t e rfl
  cases r with
  | @exn0 c a q =>
    cases h
    have E := hX c rfl
    obtain ⟨⟨oe, vs, h1, h2, h3, h4⟩, _, _⟩ := I.hok a _ (Fz_same _ _ _ _ q)
    cases ru
    refine ⟨fun h => PySem.W.InstAt h a oe (C c) none, PySem.W.handS_kitx_exc E.hg E.hk E.hs E.hd E.ha E.hn E.ht E.hm, ?_, fun z => nomatch z⟩
    obtain ⟨oc, od, oda, osl⟩ := oe
    dsimp only at h2 h3 h4
    subst h2 h3 h4
    exact ⟨h1, rfl, rfl, trivial⟩
  | @exnF c a dd fs ns vs ds q q2 e1 e2 rs =>
    cases h
    have E := hX c rfl
    obtain ⟨⟨oe, vs, h1, h2, h3, h4⟩, _, _⟩ := I.hok a _ (Fz_same _ _ _ _ q)
    obtain ⟨mA, ⟨od, _, _, ho, _⟩, _⟩ := I.hok dd _ (Fz_same _ _ _ _ q2)
    cases ru
    have hcl : (PySem.W.clsIn X.K (C c)).isSome = true := by
      obtain ⟨cd, hc, _⟩ := PySem.W.any_some E.hd
      rw [hc]; rfl
    refine ⟨fun h => PySem.W.InstAt h a oe (C c) (some od), PySem.W.kitx_exc hcl E.hg E.hk E.hs E.ha E.hn E.ht E.hm, ?_, fun z => nomatch z⟩
    obtain ⟨oc, odd, oda, osl⟩ := oe
    dsimp only at h2 h3 h4
    subst h2 h3 h4
    exact ⟨h1, rfl, rfl, ho⟩
  | non => exact flat h
  | bl b => exact flat h
  | int i => exact flat h
  | str x => exact flat h
  | tup q rs => exact flat h
  | lst q rs => exact flat h
  | dct q a b rs => exact flat h
  | loc q => exact flat h
end
def isiQ (kq : TK → Option Bool) (S : Store) (d : D) : Option D := (tkD S d).bind fun k => (kq k).bind fun b => some (.bl b)
def kqAny : List (TK → Option Bool) → TK → Option Bool
  | [], _ => some false
  | q :: qs, k => (q k).bind fun b => if b = true then some true else kqAny qs k
/-- the classes that a tuple names -/
def tCs (cs : List V) : TA := fun _ H Q => Q cs H
section
variable {X : Cx} {C : Nat → Addr} {W : WX} {a e2 : Expr} {es : List Expr} {ra : RE} {c : V} {cs : List V} {cv : Value} {cvs : List Value} {kq : TK → Option Bool} {pos p p' : Pos}
theorem tCs_nil : PA X [] (tCs []) := pa_nil
theorem tCs_cons (h : PE X e2 (tC c)) (hr : PA X es (tCs cs)) (hs : starEach (e2 :: es) X.env = (false, eval e2 X.env) :: starEach es X.env := by rfl) : PA X (e2 :: es) (tCs (c :: cs)) := pa_cons h hr hs
theorem ee_isiQ (ha : PE X a (tE X.K C W ra)) (hg : Gl X "isinstance") (hm : X.mg "isinstance" = none) (hc : PE X e2 (tC c)) (hk : ClsV c cv) (hq : ∀ k b, kq k = some b → PySem.W.kitOne X.K (tkV C k) cv = some b) (hX : ∀ n b, kq (.inr n) = some b → ExcC X.K (C n))
    (hv0 : bootBuiltins "isinstance" = some (.builtin "isinstance") := by decide +kernel)
    (he : starEach [a, e2] X.env = (false, eval a X.env) :: starEach [e2] X.env := by rfl) (he2 : starEach [e2] X.env = [(false, eval e2 X.env)] := by rfl) : PE X (.Call (.Name "isinstance" p) [a, e2] [] pos) (tE X.K C W (rUn (isiQ kq) ra)) := by
  have hC : CallR X (.builtin "isinstance") (fun xs H Q => ∃ x io S d k b, xs = [x, c] ∧ Den X.K C io S H ∧ Rep X.K C io (Fz io H) d x ∧ tkD S d = some k ∧ kq k = some b ∧ Q (.bl b) H) := by
    intro pins s sg H xs us Q I r ⟨x, io, S, d, k, b, hx, dn, rd, ek, eb, q⟩
    subst hx
    obtain ⟨u1, u2, rfl, r1, r2⟩ := vals2 r
    have e2 := hk.eq r2
    subst e2
    obtain ⟨P, Z, p, hx⟩ := kitD (fun n e => hX n b (by rw [← e]; exact eb)) ek I dn rd r1
    exact PySem.W.kia_one Z I.kIn p (hq k b eb) hx fun tk => ⟨.bl b, H, I.tok tk, rfl, q⟩
  exact (pe_callB hC hg hm hv0 (pa_cons ha (pa_cons hc pa_nil he2) he) (by decide) (by decide) he (by rw [he2]; rfl)).imp fun sg H Q h => (tR.seq1 (R := RepR X.K C) (fun _ d S => ofO (isiQ kq S d) S) h fun _ _ => rfl).mono fun v H1 ⟨e, S, io, d, dn, s, r, p⟩ => by
    obtain ⟨z, ez, p⟩ := p.ofO
    obtain ⟨t, et, ez⟩ := bind_some' ez
    obtain ⟨b, eb, ez⟩ := bind_some' ez
    cases ez
    exact ⟨v, io, S, d, t, b, rfl, dn, r, et, eb, p _ H1 io (Ext.refl _ _) dn (.bl _)⟩
inductive KqAll (K : PySem.W.Frag) (C : Nat → Addr) : List (TK → Option Bool) → List Value → Prop
  | nil : KqAll K C [] []
  | cons {q : TK → Option Bool} {qs : List (TK → Option Bool)} {v : Value} {vs : List Value} (h : ∀ k b, q k = some b → PySem.W.kitOne K (tkV C k) v = some b) (hX : ∀ n b, q (.inr n) = some b → ExcC K (C n)) (r : KqAll K C qs vs) : KqAll K C (q :: qs) (v :: vs)
theorem KqAll.any {K : PySem.W.Frag} : ∀ {qs : List (TK → Option Bool)} {vs : List Value}, KqAll K C qs vs → ∀ k b, kqAny qs k = some b → PySem.W.kitAny K (tkV C k) vs = some b
  | _, _, .nil, k, b, h => by cases h; exact kitAny_nil
  | _, _, .cons hq _ r, k, b, h => by
    obtain ⟨b1, e1, e2⟩ := bind_some' h
    cases b1 with
    | true =>
      rw [if_pos rfl] at e2
      cases e2
      exact kitAny_cons (hq k _ e1) (fun z => nomatch z) fun _ => rfl
    | false =>
      rw [if_neg Bool.false_ne_true] at e2
      exact kitAny_cons (hq k _ e1) (fun _ => KqAll.any r k b e2) fun z => nomatch z
theorem ee_isiT {qs : List (TK → Option Bool)} {kt : Nat} (ha : PE X a (tE X.K C W ra)) (hg : Gl X "isinstance") (hm : X.mg "isinstance" = none) (hc : PA X es (tCs cs)) (hk : Paired ClsV cs cvs) (hq : KqAll X.K C qs cvs) (hX : ∀ n b, kqAny qs (.inr n) = some b → ExcC X.K (C n)) (hl : cs.length ≤ sizeLine := by exact Nat.le_of_ble_eq_true rfl)
    (hv0 : bootBuiltins "isinstance" = some (.builtin "isinstance") := by decide +kernel)
    (he : starEach [a, .Tuple es kt p'] X.env = (false, eval a X.env) :: starEach [.Tuple es kt p'] X.env := by rfl) : PE X (.Call (.Name "isinstance" p) [a, .Tuple es kt p'] [] pos) (tE X.K C W (rUn (isiQ (kqAny qs)) ra)) := by
  have hC : CallR X (.builtin "isinstance") (fun xs H Q => ∃ x tp io S d k b, xs = [x, .ref tp] ∧ H tp = some (.tup cs) ∧ Den X.K C io S H ∧ Rep X.K C io (Fz io H) d x ∧ tkD S d = some k ∧ kqAny qs k = some b ∧ Q (.bl b) H) := by
    intro pins s sg H xs us Q I r ⟨x, tp, io, S, d, k, b, hx, hT, dn, rd, ek, eb, q⟩
    subst hx
    obtain ⟨u1, u2, rfl, r1, r2⟩ := vals2 r
    cases (show u2 = Value.ref tp from r2)
    obtain ⟨P, Z, p, hx⟩ := kitD (fun n e => hX n b (by rw [← e]; exact eb)) ek I dn rd r1
    obtain ⟨_, its, rv, o, h1, h2, n, h3⟩ := (show ObjOk X.prog X.w H s.heap tp (.tup cs) from I.hok tp _ hT)
    have e3 := ClsV.all hk rv
    subst e3
    obtain ⟨oc, od, dt, sl⟩ := o
    simp only at h2 h3
    subst h2 h3
    exact PySem.W.kia_tup Z I.kIn p h1 (hq.any k b eb) hx fun tk => ⟨.bl b, H, I.tok tk, rfl, q⟩
  exact (pe_callB hC hg hm hv0 (pa_cons ha (pa_cons (pe_tup hc) pa_nil rfl) he) (by decide) (by decide) he rfl).imp fun sg H Q h => (tR.seq1 (R := RepR X.K C) (fun _ d S => ofO (isiQ (kqAny qs) S d) S) h fun _ _ => rfl).mono fun v H1 ⟨e, S, io, d, dn, s, r, p⟩ => by
    obtain ⟨z, ez, p⟩ := p.ofO
    obtain ⟨t, et, ez⟩ := bind_some' ez
    obtain ⟨b, eb, ez⟩ := bind_some' ez
    cases ez
    refine ⟨hl, fun q hq' => ?_⟩
    have x1 := Ext.new (o := .tup cs) dn hq'
    exact ⟨v, q, io, S, d, t, b, rfl, upd_same, dn.new hq', r.ext x1, et, eb, p _ _ io x1 (dn.new hq') (.bl _)⟩
end

/-! ### the law's end -/
theorem law_end {K : PySem.W.Frag} {C : Nat → Addr} {g : List D → Store → Res D} {H : Hp} {a : Addr} {ns : List Int} (hS : SqL K H a (ns.map V.int)) (h : ∃ S', g [.lst (ns.map D.int)] [] = .ok (.bl true) S') :
    spOf K C 1 g [.ref a] H (fun v _ => v = .bl true) (fun _ _ _ => False) := by
  obtain ⟨S', e⟩ := h
  have e0 : Fz ⟨[], []⟩ H = H := by funext b; unfold Fz Io.all; simp
  have intsR : ∀ ms : List Int, Reps K C ⟨[], []⟩ H (ms.map D.int) (ms.map V.int) := fun ms => by
    induction ms with
    | nil => exact .nil
    | cons m r ih => exact .cons (.int m) ih
  refine ⟨rfl, [.lst (ns.map D.int)], [], ⟨[], []⟩, ⟨rfl, List.nodup_nil, fun n o a h => (by cases h), fun p h => (by cases h)⟩, .cons (.lst (by rw [e0]; exact hS) (by rw [e0]; exact intsR ns)) .nil, ?_⟩
  rw [e]
  exact fun v H' io' x d r => by cases r; rfl
theorem cx_end {P : Program} {w : World} {H : Hp} {s : Shared} {e : Value} {s' : Shared} (h : L2.CX P w [] H s (fun _ _ _ => False) e s') : False := by
  obtain ⟨_, _, _, _, _, _, _, _, _, _, _, _, h⟩ := h
  exact h
end Ev
namespace Ev
open PySem PySem.Spec L2
section
variable {X : Cx} {C : Nat → Addr} {W : WX} {pos : Pos} {x : Str}
theorem ee_gI {i : Int} (h : ∃ t, X.mg x = some (.int i t)) (hg : Gl X x := by rfl) (hd : (x == ("__debug__" : Str)) = false := by decide) : PE X (.Name x pos) (tE X.K C W (rCon (.int i))) :=
  let ⟨_, h⟩ := h
  ee_glob (v := .int i) hg h ⟨_, rfl⟩ (fun _ _ => .int _) hd
theorem ee_gS {z : Str} (h : ∃ t, X.mg x = some (.str z t)) (hg : Gl X x := by rfl) (hd : (x == ("__debug__" : Str)) = false := by decide) : PE X (.Name x pos) (tE X.K C W (rCon (.str z))) :=
  let ⟨_, h⟩ := h
  ee_glob (v := .str z) hg h ⟨_, rfl⟩ (fun _ _ => .str _) hd
/-- {} -/
def rDct0 : RE := fun _ S => .ok (.dct [] []) S
theorem ee_dct0 : PE X (.Dict [] [] pos) (tE X.K C W rDct0) := pe_dnewK.imp fun sg H Q ⟨e, S, io, d, s, p⟩ => fun q hq => by
  refine p _ _ io (Ext.new d hq) (d.new hq) (.dct (kvs := []) ?_ rfl rfl .nil)
  rw [Fz_out (d.fresh hq)]
  exact upd_same
end
/-! the end of a law -/
open PyProof.Rows PySem.W in
theorem walk_ev {l : PySem.W.OpenLaw} {n k : Nat} {q : Program} {loose : List Str} {XP : (Str → Option Value) → Heap → Prop} {YP : World → Heap → Prop} {d : DefRec} {K : Params → PySem.W.Frag} {x : Str} {g : List D → Store → Res D}
    (hn : l.most = some n) (hn2 : n ≤ sizeLine) (hdf : d.params.defaults = []) (hr : Room k callerA)
    (hY : ∀ (w : World) (h : Heap), YP w h → (K w.params).In h)
    (F : ∀ (w : World) (mg : Str → Option Value) (fa : Addr) (h : Heap), (K w.params).In h → h.Ns mainGlobals mg → mg d.name = some (.ref fa) →
      ∃ (fd : FuncData) (C : Nat → Addr), (∀ (s : Shared) (u : Value), BindsTo s fd ⟨[u], []⟩ [(x, u)]) ∧
        ∀ base : Heap, (K w.params).In base → base.Ns mainGlobals mg → FnOk l.prog w (K w.params) mg base (L2.CX l.prog w) k fa fd [x] (spOf (K w.params) C 1 g))
    (hg : ∀ ns : List Int, ns.length ≤ n → ∃ S', g [.lst (ns.map D.int)] [] = .ok (.bl true) S') :
    PySem.W.WalkO q loose XP YP l.row.toRowW d [] (fun f vs => PySem.call f vs) :=
  L2.walk_of (CX := fun w => L2.CX l.prog w) (sp := fun w vs H Q E => vs.length = 1 ∧ ∀ C, spOf (K w.params) C 1 g vs H Q E) hn hn2 hdf hr hY
    (fun w mg fa h hK hG hm => by
      obtain ⟨fd, C, hb, hF⟩ := F w mg fa h hK hG hm
      exact ⟨fd, hb, fun base h1 h2 => (hF base h1 h2).imp fun vs H Q E z => z.2 C⟩)
    (fun w H a ns hl hO hS => ⟨rfl, fun C => law_end hS (hg ns hl)⟩) (fun w H s e s' h => cx_end h)
end Ev
namespace Ev
open PySem PySem.Spec L2

/-! ### list comprehensions -/
def wipeE (e : Env) : List Nat → Env
  | [] => e
  | v :: vs => (wipeE e vs).set v none
def Res.calm {A : Type} : Res A → Res A
  | .ok a S => .ok a S
  | _ => .bad
def lcL (t : Tg) (c : RT) (elt : RE) (e0 : Env) : List D → Store → Res (List D)
  | [], S => .ok [] S
  | d :: ds, S => match bindT S d e0 t with
    | none => .bad
    | some e1 => (c e1 S).bind fun k S1 => if k = true then (elt e1 S1).bind fun y S2 => (lcL t c elt e0 ds S2).bind fun ys S3 => .ok (y :: ys) S3 else lcL t c elt e0 ds S1
def frzL : List D → Store → Res D := fun ys S => .ok (.lst ys) S
def mutL : List D → Store → Res D := fun ys S => .ok (.loc S.length) (S ++ [.lst ys])
def rLc (fin : List D → Store → Res D) (it : RA) (t : Tg) (vs : List Nat) (c : RT) (elt : RE) : RE := fun e S => (it e S).bind fun ds S1 => if ds.length ≤ sizeLine then (lcL t c elt (wipeE e vs) ds S1).calm.bind fin else .bad
def rYes : RT := fun _ S => .ok true S
theorem Slots.wipe {K : PySem.W.Frag} {C : Nat → Addr} {io : Io} {F : Hp} {e : Env} {sg : L2.St} (s : Slots K C io F e sg) : ∀ vs : List Nat, Slots K C io F (wipeE e vs) (wipe sg vs)
  | [] => s
  | v :: vs => (Slots.wipe s vs).none v
/-- what the end of a comprehension may do with the list at p -/
def FinOk (fin : List D → Store → Res D) : Prop := ∀ (K : PySem.W.Frag) (C : Nat → Addr) (W : WX) (sg : L2.St) (io0 io : Io) (H0 H : Hp) (S : Store) (p : Addr) (ys : List D) (vs : List V) (Q : VK),
  (∀ (n : Nat) (a : Addr), io0.l[n]? = some a → io.l[n]? = some a) → io.h = io0.h → Same (Fz io0 H0) (Fz (io.hide p (.lst vs)) H) → Den K C (io.hide p (.lst vs)) S H → Reps K C io (Fz (io.hide p (.lst vs)) H) ys vs → Post K C (RepR K C) W sg io0 H0 (fin ys S) Q → Q (.ref p) H
theorem frzL_ok : FinOk frzL := fun K C W sg io0 io H0 H S p ys vs Q hp hh hs dn rs post => by
  obtain ⟨d1, np, e⟩ := dn.unhide
  obtain ⟨s1, e1⟩ := Fz_unhide np e
  exact post _ H io ⟨hp, hh, hs.trans s1⟩ d1 (.lst (.inl (.inl e1)) (rs.mono (fun _ _ h => h) s1))
theorem Fz_adopt {io : Io} {H : Hp} {p : Addr} {o : HO} : Fz (io.add p) H = Fz (io.hide p o) H := by
  funext b
  unfold Fz
  simp only [mem_add, mem_hide]
theorem mutL_ok : FinOk mutL := fun K C W sg io0 io H0 H S p ys vs Q hp hh hs dn rs post => by
  obtain ⟨d1, np, e⟩ := dn.unhide
  have hpre : ∀ (n : Nat) (a : Addr), io.l[n]? = some a → (io.add p).l[n]? = some a := fun n a h => by
    show (io.l ++ [p])[n]? = some a
    rw [List.getElem?_append_left (List.getElem?_eq_some_iff.mp h).1]; exact h
  have hs2 : Same (Fz (io.hide p (.lst vs)) H) (Fz (io.add p) H) := by rw [Fz_adopt (o := .lst vs)]; exact fun _ _ h => h
  refine post _ H (io.add p) ⟨fun n a h => hpre n a (hp n a h), hh, hs.trans hs2⟩ ⟨by simp [Io.add, d1.len], nodup_add d1.nd np, fun n x a e1 e2 => ?_, fun q hq => d1.hid q hq⟩ (.loc ?_)
  · have e2' : (io.l ++ [p])[n]? = some a := e2
    by_cases hn : n < io.l.length
    · rw [List.getElem?_append_left hn] at e2'
      rw [List.getElem?_append_left (by rw [← d1.len]; exact hn)] at e1
      have q := dn.obj n x a e1 e2'
      cases x with
      | lst zs => obtain ⟨us, h1, h2⟩ := q; exact ⟨us, h1, h2.mono (io := io.hide p (.lst vs)) hpre hs2⟩
      | dK ks zs => obtain ⟨us, h1, h2, h3⟩ := q; exact ⟨us, h1, h2, h3.mono (io := io.hide p (.lst vs)) hpre hs2⟩
      | ins c ns zs => obtain ⟨dx, fs, h1, h2, h3, h4⟩ := q; exact ⟨dx, fs, h1, h2, h3, h4.mono (io := io.hide p (.lst vs)) hpre hs2⟩
    · have h1 : n = io.l.length := by
        have := (List.getElem?_eq_some_iff.mp e2').1
        simp at this; omega
      subst h1
      rw [List.getElem?_append_right (Nat.le_refl _)] at e2'
      rw [d1.len, List.getElem?_append_right (Nat.le_refl _)] at e1
      simp at e1 e2'
      subst e1; subst e2'
      exact ⟨vs, e, rs.mono hpre hs2⟩
  · rw [← d1.len]
    show (io.l ++ [p])[io.l.length]? = some p
    rw [List.getElem?_append_right (Nat.le_refl _)]; simp
def gTg (K : PySem.W.Frag) (C : Nat → Addr) (t : Tg) : TG := fun v sg H Q => ∃ e S io d e', Den K C io S H ∧ Slots K C io (Fz io H) e sg ∧ Rep K C io (Fz io H) d v ∧ bindT S d e t = some e' ∧ ∀ sg', Slots K C io (Fz io H) e' sg' → Agree t sg sg' → Q sg' H
section
variable {X : Cx} {C : Nat → Addr} {W : WX} {elt tg iter : Expr} {ifs : List Expr} {scope : Scope} {own : List (Str × Nat)} {pos : Pos} {ri : RA} {t : Tg} {rc : RT} {re : RE} {fin : List D → Store → Res D}
/-- the reading of a comprehension -/
theorem lc_read (hfin : FinOk fin) (sg : L2.St) (H : Hp) (Q : VK) (vs : List Nat) (hv : ∀ i ∈ t.ixs, i ∈ vs) (h : tE X.K C W (rLc fin ri t vs rc re) sg H Q) :
    tLc (tI X.K C W ri) (gTg X.K C t)
      (tT X.K C (fun _ _ _ _ => False) rc) (tE X.K C (fun _ _ _ _ => False) re) vs sg H Q := by
  refine (tR.seq1 (R := Wk X.K C) (fun e ds S1 => if ds.length ≤ sizeLine then (lcL t rc re (wipeE e vs) ds S1).calm.bind fin else .bad) h fun _ _ => rfl).mono fun J H1 ⟨e, S, io, ds, dn, sl, wk, post⟩ => ?_
  split at post
  · rename_i hz
    intro p hp
    let Done : List D → Store → Prop := fun ys S2 => Post X.K C (RepR X.K C) W sg io H1 (fin ys S2) Q
    refine ⟨fun i m H' => m + i = ds.length ∧ ∃ S' io' acc ys, (∀ (n : Nat) (a : Addr), io.l[n]? = some a → io'.l[n]? = some a) ∧ io'.h = io.h ∧ Same (Fz io H1) (Fz (io'.hide p (.lst acc)) H') ∧
        Den X.K C (io'.hide p (.lst acc)) S' H' ∧ Reps X.K C io' (Fz (io'.hide p (.lst acc)) H') ys acc ∧ acc.length ≤ i ∧ ∃ zs S2, lcL t rc re (wipeE e vs) (ds.drop i) S' = .ok zs S2 ∧ Done (ys ++ zs) S2,
      ⟨ds.length, rfl, S, io, [], [], fun _ _ h => h, rfl, by rw [Fz_hide hp]; exact fun _ _ h => h, dn.hide hp rfl, .nil, Nat.le_refl _, ?_⟩, fun i m H' ⟨hm, S', io', acc, ys, h1, h2, h3, d', rs, hl, zs, S2, hlc, hd⟩ => ?_⟩
    · cases q : lcL t rc re (wipeE e vs) ds S with
      | ok zs S2 => rw [q] at post; exact ⟨zs, S2, q, post⟩
      | err x S2 => rw [q] at post; exact post.elim
      | bad => rw [q] at post; exact post.elim
    obtain ⟨go, stop, yld⟩ := wk (io'.hide p (.lst acc)) H' S' h1 h3 d'
    by_cases hi : i < ds.length
    · rw [List.drop_eq_getElem_cons hi] at hlc
      refine .inr ⟨go i hi, fun H2 => ∃ S' io' acc ys, (∀ (n : Nat) (a : Addr), io.l[n]? = some a → io'.l[n]? = some a) ∧ io'.h = io.h ∧ Same (Fz io H1) (Fz (io'.hide p (.lst acc)) H2) ∧
        Den X.K C (io'.hide p (.lst acc)) S' H2 ∧ Reps X.K C io' (Fz (io'.hide p (.lst acc)) H2) ys acc ∧ acc.length ≤ i + 1 ∧ ∃ zs S2, lcL t rc re (wipeE e vs) (ds.drop (i + 1)) S' = .ok zs S2 ∧ Done (ys ++ zs) S2, fun H2 h2 => ⟨m - 1, by omega, by omega, h2⟩, fun x H2 y => ?_⟩
      obtain ⟨d, ed, x2, d2, r2⟩ := yld i x H2 hi y
      have ed' : ds[i] = d := by rw [List.getElem?_eq_getElem hi] at ed; exact Option.some.inj ed
      rw [ed'] at hlc
      unfold lcL at hlc
      cases hb : bindT S' d (wipeE e vs) t with
      | none => rw [hb] at hlc; cases hlc
      | some e1 =>
        rw [hb] at hlc
        dsimp only at hlc
        have hs2 : Slots X.K C (io'.hide p (.lst acc)) (Fz (io'.hide p (.lst acc)) H2) (wipeE e vs) (wipe sg vs) := by
          have s0 := sl.wipe vs
          refine ⟨s0.len, fun j q hq => ?_⟩
          obtain ⟨v, v1, v2⟩ := s0.get j q hq
          exact ⟨v, v1, (v2.mono (io' := io'.hide p (.lst acc)) h1 h3).mono (fun _ _ z => z) x2.same⟩
        refine ⟨wipeE e vs, S', io'.hide p (.lst acc), d, e1, d2, hs2, r2, hb, fun sg3 s3 ag => ⟨?_, e1, S', io'.hide p (.lst acc), d2, s3, ?_⟩⟩
        · rw [ag vs hv]
          have : ∀ s : L2.St, wipe (wipe s vs) vs = wipe s vs := fun s => by
            apply List.ext_getElem?
            intro j
            rw [wipe_get, wipe_get, wipe_length]
            by_cases hj : j ∈ vs <;> simp [hj]
          exact this sg
        cases hc : rc e1 S' with
        | err y Sy => rw [hc] at hlc; cases hlc
        | bad => rw [hc] at hlc; cases hlc
        | ok k S3 =>
          rw [hc] at hlc
          intro b H3 io3 x3 d3 eb
          cases eb
          -- the list that is filled is still there
          have hh3 : io3.h = (p, HO.lst acc) :: io'.h := x3.hid
          have e3 : io3 = (⟨io3.l, io'.h⟩ : Io).hide p (.lst acc) := by unfold Io.hide; rw [← hh3]
          cases k with
          | false =>
            replace hlc : lcL t rc re (wipeE e vs) (ds.drop (i + 1)) S3 = .ok zs S2 := hlc
            rw [if_neg Bool.false_ne_true]
            have px := x2.trans x3
            refine ⟨S3, ⟨io3.l, io'.h⟩, acc, ys, fun n a hn => px.pre n a (h1 n a hn), h2, ?_, ?_, ?_, by omega, zs, S2, hlc, hd⟩
            · rw [← e3]; exact h3.trans px.same
            · rw [← e3]; exact d3
            · rw [← e3]; exact rs.mono (io := io') (io' := ⟨io3.l, io'.h⟩) px.pre px.same
          | true =>
            replace hlc : ((re e1 S3).bind fun y S2 => (lcL t rc re (wipeE e vs) (ds.drop (i + 1)) S2).bind fun ys S3 => Res.ok (y :: ys) S3) = .ok zs S2 := hlc
            rw [if_pos rfl]
            refine ⟨e1, S3, io3, d3, s3.ext x3, ?_⟩
            cases he : re e1 S3 with
            | err y Sy => rw [he] at hlc; cases hlc
            | bad => rw [he] at hlc; cases hlc
            | ok y1 S4 =>
              rw [he] at hlc
              replace hlc : ((lcL t rc re (wipeE e vs) (ds.drop (i + 1)) S4).bind fun ys S3 => Res.ok (y1 :: ys) S3) = .ok zs S2 := hlc
              intro v H4 io4 x4 d4 r4
              have hh4 : io4.h = (p, HO.lst acc) :: io'.h := x4.hid.trans hh3
              have e4 : io4 = (⟨io4.l, io'.h⟩ : Io).hide p (.lst acc) := by unfold Io.hide; rw [← hh4]
              have px := (x2.trans x3).trans x4
              have hD : H4 p = some (.lst acc) := (d4.hid (p, .lst acc) (by rw [hh4]; exact List.mem_cons_self)).1
              refine ⟨acc, hD, by omega, ?_⟩
              cases hr : lcL t rc re (wipeE e vs) (ds.drop (i + 1)) S4 with
              | err q Sq => rw [hr] at hlc; cases hlc
              | bad => rw [hr] at hlc; cases hlc
              | ok zs' S5 =>
                rw [hr] at hlc
                cases hlc
                have fz : Fz ((⟨io4.l, io'.h⟩ : Io).hide p (.lst (acc ++ [v]))) (upd H4 p (.lst (acc ++ [v]))) = Fz io4 H4 := by
                  rw [Fz_hide_put (o := .lst acc), ← e4]
                refine ⟨S4, ⟨io4.l, io'.h⟩, acc ++ [v], ys ++ [y1], fun n a hn => px.pre n a (h1 n a hn), h2, ?_, ?_, ?_, by simp; omega, zs', S2, hr, by rw [List.append_assoc]; exact hd⟩
                · rw [fz]; exact h3.trans px.same
                · rw [e4] at d4
                  exact d4.rehide rfl
                · rw [fz]
                  exact (rs.mono (io := io') (io' := ⟨io4.l, io'.h⟩) px.pre px.same).append (.cons (r4.mono (io := io4) (io' := ⟨io4.l, io'.h⟩) (fun _ _ z => z) fun _ _ z => z) .nil)
    · have e1 : ds.length = i := by omega
      rw [List.drop_of_length_le (by omega)] at hlc
      cases hlc
      rw [e1] at stop
      rw [List.append_nil] at hd
      exact .inl ⟨stop, hfin X.K C W sg io io' H1 H' S' p ys acc Q h1 h2 h3 d' rs hd⟩
  · exact post.elim
theorem ee_lc {vs : List Nat} (hfin : FinOk fin) (hc : X.calm = true) (hN : X.N.Nodup) (hi : PI X tg iter (tI X.K C W ri)) (ok : BlkOk X.N X.env.scope scope own) (hw : own.map (·.2) = vs) (hv : ∀ i ∈ t.ixs, i ∈ vs)
    (hg : ∀ (s : Shared) (H : Hp) (A : Addr) (cl : List (Str × Addr)) (fp : List Addr), GD (X.blk s H scope (compEnvC scope cl A X.env) fp) C tg t)
    (ht : ∀ (s : Shared) (H : Hp) (A : Addr) (cl : List (Str × Addr)) (fp : List Addr), PTs (X.blk s H scope (compEnvC scope cl A X.env) fp) ifs (tT X.K C (fun _ _ _ _ => False) rc))
    (he : ∀ (s : Shared) (H : Hp) (A : Addr) (cl : List (Str × Addr)) (fp : List Addr), PE (X.blk s H scope (compEnvC scope cl A X.env) fp) elt (tE X.K C (fun _ _ _ _ => False) re)) (hs : ∀ x, foldedSetIterable iter X.env x = pure x := by intro _; rfl) :
    PE X (.ListComp elt [⟨tg, iter, ifs, 0⟩] scope pos) (tE X.K C W (rLc fin ri t vs rc re)) := by
  subst hw
  exact (pe_lc (g := gTg X.K C t) hc hN hi ok hg ht he hs).imp fun sg H Q h => lc_read hfin sg H Q _ hv h
theorem s_setLc (i : Nat) {vs : List Nat} {y : Str} {py spos : Pos} (hfin : FinOk fin) (hc : X.calm = true) (hN : X.N.Nodup) (hsw : swapsWith (.ListComp elt [⟨tg, iter, ifs, 0⟩] scope pos) (some (.Name y py)) spos.line X.env = pure true)
    (hi : PI X tg iter (tI X.K C W ri)) (ok : BlkOk X.N X.env.scope scope own) (hw : own.map (·.2) = vs) (hv : ∀ i ∈ t.ixs, i ∈ vs)
    (hg : ∀ (s : Shared) (H : Hp) (A : Addr) (cl : List (Str × Addr)) (fp : List Addr), GD (X.blk s H scope (compEnvC scope cl A X.env) fp) C tg t)
    (ht : ∀ (s : Shared) (H : Hp) (A : Addr) (cl : List (Str × Addr)) (fp : List Addr), PTs (X.blk s H scope (compEnvC scope cl A X.env) fp) ifs (tT X.K C (fun _ _ _ _ => False) rc))
    (he : ∀ (s : Shared) (H : Hp) (A : Addr) (cl : List (Str × Addr)) (fp : List Addr), PE (X.blk s H scope (compEnvC scope cl A X.env) fp) elt (tE X.K C (fun _ _ _ _ => False) re)) (hs : ∀ x, foldedSetIterable iter X.env x = pure x := by intro _; rfl)
    (hy : X.N[i]? = some y := by rfl) (hyl : X.env.scope.names.lookup y = some .local := by rfl) :
    PS X (.Assign [.Name y py] (.ListComp elt [⟨tg, iter, ifs, 0⟩] scope pos) spos) (tS X.K C W (sSet i (rLc fin ri t vs rc re))) := by
  subst hw
  exact (ps_setLc (g := gTg X.K C t) hc hN hy hyl hsw hi ok hg ht he hs).imp fun Dn sg H h => lc_read hfin sg H _ _ hv ((tS.seq (R := RepR X.K C) (fun e d S1 => .nx (e.set i (some d)) S1) h fun _ _ => rfl).mono fun v H1 ⟨e, S, io, k1, d, s, q, p⟩ => p _ H1 io (Ext.refl _ _) d (s.set i q))
theorem et_yes : PTs X [] (tT X.K C W rYes) := ⟨fun pins s sg H Q I h => pts_nil.run pins s sg H Q I (by
  obtain ⟨e, S, io, d, sl, p⟩ := h
  exact p true H io (Ext.refl _ _) d rfl)⟩
theorem et_if1 {c : Expr} (h : PT X c (tT X.K C W rc)) : PTs X [c] (tT X.K C W rc) := pts_one h
end
end Ev
namespace Ev
open PySem PySem.Spec L2 PyProof.Rows

/-! ### enumerate -/
/-- the signs of a text, each in a new pair with its place -/
def ItEs (x : Str) : It := ⟨fun i _ => i < x.cps.size, fun i H v H' => ∃ T c, x.cps[i]? = some c ∧ v = .ref T ∧ H T = none ∧ H' = upd H T (.tup [.int (i : Nat), .str ⟨#[c]⟩]), fun i _ => x.cps.size ≤ i⟩
theorem draws_str {P : Program} {w : World} {A : Around} (hh : A.handled = none) (it : Addr) (x : Str) (t : Tok) :
    Draws P w A it [it] x.cps.size (fun i v => ∃ c u, x.cps[i]? = some c ∧ v = .str ⟨#[c]⟩ u) (fun i h => h.IsStrIter it (strIterType x) x t i) := by
  unfold strIterType
  split
  · exact Draws.strAscii hh it x t
  · exact Draws.strWide hh it x t
theorem turn_enumS {P : Program} {w : World} {K : PySem.W.Frag} {elts : List Expr} {kk : Nat} {tpos : Pos} (x : Str) (t : Tok) (e it : Addr) :
    Turn P w K (.Tuple elts kk tpos) (ItEs x) [e, it] e (fun i h => (∃ old, IsEnum h e it ((i : Nat) : Int) old) ∧ h.IsStrIter it (strIterType x) x t i ∧ e ≠ it ∧ i ≤ x.cps.size) where
  mem := by simp
  obj := fun i h st b hb => by
    obtain ⟨⟨old, he⟩, ⟨o, ho, hc, hd⟩, _⟩ := st
    have e' : b = e ∨ b = it := by simpa using hb
    rcases e' with z | z
    · rw [z]; exact ⟨_, he, fun v q => nomatch q⟩
    · rw [z]; exact ⟨o, ho, fun v q => by rw [hd] at q; cases q⟩
  keep := fun i h h' st k => let ⟨⟨old, he⟩, ⟨o, ho, r⟩, hne, hle⟩ := st; ⟨⟨old, k e (by simp) _ he⟩, ⟨o, k it (by simp) o ho, r⟩, hne, hle⟩
  item := by
    intro X hP hw hK hc i pins s σ H E I hf st hg
    subst hP hw hK
    obtain ⟨⟨old, he⟩, hit, hne, hle⟩ := st
    have hel : e < s.heap.objs.size := Heap.lt_size he
    have hil : it < s.heap.objs.size := by obtain ⟨_, q, _⟩ := hit; exact Heap.lt_size q
    refine wpAny_pyNext_enum_itemD (draws_str (A := X.A.in1) (show X.A.in1.handled = none from I.ok.hd hc) it x t) he hit hg hne (by simp only [List.mem_singleton]; exact hne) fun v h' tk hv ho hit' hT hsz hk => ?_
    obtain ⟨c, u, hcx, rfl⟩ := hv
    refine ⟨_, rfl, wpAny_letOwnedTupleGo_enum (s := { s with heap := h', toks := tk + 1 }) ho fun h'' he' sb => ?_⟩
    have hT2 : h''.get? s.heap.objs.size = some { cls := .type "tuple", data := .seq #[.int i tk, .str ⟨#[c]⟩ u] } := (sb.2 _ (Nat.ne_of_gt hel)).trans hT
    have new : ObjOk X.prog X.w (upd H s.heap.objs.size (.tup [.int (i : Nat), .str ⟨#[c]⟩])) h'' s.heap.objs.size (.tup [.int (i : Nat), .str ⟨#[c]⟩]) :=
      ⟨by show 2 ≤ sizeLine; decide, [.int i tk, .str ⟨#[c]⟩ u], .cons ⟨_, rfl⟩ (.cons ⟨_, rfl⟩ .nil), ⟨_, hT2, rfl, _, rfl⟩⟩
    have I1 : Inv X pins σ (upd H s.heap.objs.size (.tup [.int (i : Nat), .str ⟨#[c]⟩])) { s with heap := h'', toks := tk + 1 } :=
      I.turnedNew (ch := [e, it]) (fun b ob hb q => (sb.2 b (fun z => hb (by simp [z]))).trans (hk b ob (fun z => hb (by simp [z])) (fun z => hb (by simp [z])) q)) hf (Nat.le_refl _) new
    refine ⟨.ref s.heap.objs.size, _, I1, rfl, ⟨_, c, hcx, rfl, I.hok.fresh (Nat.le_refl _), rfl⟩, ⟨⟨.str ⟨#[c]⟩ u, ?_⟩, ?_, hne, hg⟩, fun b hb => ?_⟩
    · have e1 : ((i + 1 : Nat) : Int) = (i : Int) + 1 := by omega
      rw [e1]; exact he'
    · obtain ⟨o, ho2, r⟩ := hit'
      exact ⟨o, (sb.2 it (Ne.symm hne)).trans ho2, r⟩
    · have hb' : b < s.heap.objs.size := by
        have e' : b = e ∨ b = it := by simpa using hb
        rcases e' with z | z
        · rw [z]; exact hel
        · rw [z]; exact hil
      rw [upd_ne (Nat.ne_of_lt hb')]
      exact (hf b hb).1
  done := by
    intro X hP hw hK hc i pins s σ H E I hf st hg
    subst hP hw hK
    obtain ⟨⟨old, he⟩, hit, hne, hle⟩ := st
    obtain ⟨f0, f1, f2, f3, f4, f5⟩ := hf it (by simp)
    have hi : i = x.cps.size := Nat.le_antisymm hle hg
    subst hi
    exact wpAny_pyNext_enum_endD (draws_str (A := X.A.in1) (show X.A.in1.handled = none from I.ok.hd hc) it x t) he hit fun h' eb => ⟨rfl, I.turned (t' := s.toks) (fun b o hb q => eb b o hb q) f0 f1 f3 f4 f5⟩
  self := fun A i s Q E st h => let ⟨⟨_, he⟩, _⟩ := st; wpAny_pyIter_enum he h
theorem wk_enumS {K : PySem.W.Frag} {C : Nat → Addr} {io : Io} {F : Hp} (x : Str) : Wk K C io F ((signsD x).mapIdx fun i d => .tup [.int (i : Nat), d]) (ItEs x) := fun io' H' S' hp hs dn => by
  have hl : ((signsD x).mapIdx fun i d => D.tup [.int (i : Nat), d]).length = x.cps.size := by simp [signsD]
  refine ⟨fun i hi => by rw [hl] at hi; exact hi, by show x.cps.size ≤ _; rw [hl]; exact Nat.le_refl _, fun i v H'' hi y => ?_⟩
  obtain ⟨T, c, hc, rfl, hT, rfl⟩ := y
  obtain ⟨x1, d1, r1⟩ := new_tup (xs := [.int (i : Nat), .str ⟨#[c]⟩]) dn (.cons (.int _) (.cons (.str _) .nil)) hT
  exact ⟨.tup [.int (i : Nat), .str ⟨#[c]⟩], by simp [signsD, hc], x1, d1, r1⟩
theorem wk_enumL {K : PySem.W.Frag} {C : Nat → Addr} {io : Io} {F : Hp} {a : Addr} {vs : List V} {ds : List D} (h : SqL K F a vs) (r : Reps K C io F ds vs) : Wk K C io F (ds.mapIdx fun i d => .tup [.int (i : Nat), d]) (Ite K a) := fun io' H' S' hp hs dn => by
  have h' : SqL K H' a vs := (Fz_same _ _).seq (hs.seq h)
  have hl : (ds.mapIdx fun i d => D.tup [.int (i : Nat), d]).length = ds.length := by simp
  refine ⟨fun i hi => ?_, ⟨vs, h', by rw [hl, r.length]; exact Nat.le_refl _⟩, fun i x H'' hi y => ?_⟩
  · have hv : i < vs.length := by rw [← r.length, ← hl]; exact hi
    exact ⟨vs, vs[i], h', by simp [hv]⟩
  · obtain ⟨T, x, rfl, hT, rfl, hx⟩ := y
    obtain ⟨d, e1, e2⟩ := r.getV (hx vs h')
    obtain ⟨x1, d1, r1⟩ := new_tup (xs := [.int (i : Nat), d]) dn (.cons (.int _) (.cons (e2.mono hp hs) .nil)) hT
    exact ⟨.tup [.int (i : Nat), d], by simp [e1], x1, d1, r1⟩
def enumD : List D → Option (List D)
  | [.str x] => some ((signsD x).mapIdx fun i d => .tup [.int (i : Nat), d])
  | [.lst xs] => some (xs.mapIdx fun i d => .tup [.int (i : Nat), d])
  | _ => none
section
variable {X : Cx} {C : Nat → Addr} {W : WX} {e : Expr} {rs : RA} {pos p tpos : Pos} {elts : List Expr} {kk : Nat}
theorem ei_enum (hg : Gl X "enumerate") (hm : X.mg "enumerate" = none) (ha : PA X [e] (tA X.K C W rs)) (hs : starEach [e] X.env = [(false, eval e X.env)] := by rfl) : PI X (.Tuple elts kk tpos) (.Call (.Name "enumerate" p) [e] [] pos) (tI X.K C W (rRan enumD rs)) := by
  have hi : PI X (.Tuple elts kk tpos) (.Call (.Name "enumerate" p) [e] [] pos) (fun sg H R => tA X.K C W rs sg H fun vs H1 => (∃ a xs, vs = [.ref a] ∧ SqL X.K H1 a xs ∧ R (Ite X.K a) H1) ∨ (∃ x, vs = [.str x] ∧ R (ItEs x) H1)) := by
    refine ⟨fun pins s σ H R I h => ?_⟩
    refine Call_ (ld_blt I hg hm boot_enumerate (PyProof.Rows.callWith_type1 (thn (ha.run pos pins s σ H _ I h) fun us s1 ⟨vs, H1, I1, r1, q1⟩ => ?_) hs rfl))
    have fp : ∀ b ∈ [s1.heap.objs.size + 1, s1.heap.objs.size], s1.heap.objs.size ≤ b := fun b hb => by
      have e' : b = s1.heap.objs.size + 1 ∨ b = s1.heap.objs.size := by simpa using hb
      omega
    rcases q1 with ⟨a, xs, rfl, hq, q⟩ | ⟨x, rfl, q⟩
    · obtain ⟨u, rfl, r⟩ := r1.one
      cases r
      obtain ⟨its, rv, p', hz⟩ := I1.list hq
      refine call_enumerate_list p'.isList fun h' he hit hsz hk => wpAny_pyIter_enum he ?_
      have I2 : L2.Inv X pins σ H1 { s1 with heap := h' } := I1.kept (t' := s1.toks) hk
      exact ⟨s1.heap.objs.size + 1, [s1.heap.objs.size + 1, s1.heap.objs.size], _, _, H1, rfl, I2, turn_enum a (s1.heap.objs.size + 1) s1.heap.objs.size, ⟨⟨.none, he⟩, hit, Nat.succ_ne_self _⟩, fun b hb => I1.fpOk (fp b hb) (I1.hok.fresh (fp b hb)), q⟩
    · obtain ⟨u, rfl, r⟩ := r1.one
      obtain ⟨t, rfl⟩ := r
      refine call_enumerate_str fun h' he hit hsz hk => wpAny_pyIter_enum he ?_
      have I2 : L2.Inv X pins σ H1 { s1 with heap := h' } := I1.kept (t' := s1.toks) hk
      exact ⟨s1.heap.objs.size + 1, [s1.heap.objs.size + 1, s1.heap.objs.size], _, _, H1, rfl, I2, turn_enumS x t (s1.heap.objs.size + 1) s1.heap.objs.size, ⟨⟨.none, he⟩, hit, Nat.succ_ne_self _, Nat.zero_le _⟩, fun b hb => I1.fpOk (fp b hb) (I1.hok.fresh (fp b hb)), q⟩
  refine hi.imp fun sg H R h => (tR.seq1 (R := RepsR X.K C) (fun _ ds S => ofO (enumD ds) S) h fun _ _ => rfl).mono fun vs H1 ⟨e, S, io, ds, dn, s, r, p1⟩ => ?_
  obtain ⟨zs, ed, p1⟩ := p1.ofO
  unfold enumD at ed
  split at ed
  · cases ed
    obtain ⟨v, rfl, h⟩ := reps1 r
    cases h
    exact .inr ⟨_, rfl, p1 _ H1 io (Ext.refl _ _) dn (wk_enumS _)⟩
  · cases ed
    obtain ⟨v, rfl, h⟩ := reps1 r
    cases h with
    | lst q rs => exact .inl ⟨_, _, rfl, (Fz_same _ _).seq q, p1 _ H1 io (Ext.refl _ _) dn (wk_enumL q rs)⟩
  · cases ed
end
end Ev
namespace Ev
open PySem PySem.Spec L2

/-! ### in, not in -/
def strIn (i j : Str) : Bool := !(Builtin.Str.occurrences j i 0 j.length 1).isEmpty
def inAny (ps : List PyData) (p : PyData) : Bool := ps.any fun y => PyData.eqv y p
def seqP : PyData → Option (List PyData)
  | .list ps => some ps
  | .tuple ps => some ps
  | _ => none
def inB (S : Store) : D → D → Option Bool
  | .str i, .str j => some (strIn i j)
  | a, b => (pyD S deepN a).bind fun x => (pyD S deepN b).bind fun y => (seqP y).bind fun ps => some (inAny ps x)
def inD (S : Store) (a b : D) : Option D := (inB S a b).bind fun k => some (.bl k)
def ninD (S : Store) (a b : D) : Option D := (inB S a b).bind fun k => some (.bl (!k))
theorem inB_cases {S : Store} {a b : D} {k : Bool} (h : inB S a b = some k) : (∃ i j, a = .str i ∧ b = .str j ∧ k = strIn i j) ∨ ∃ x y ps, pyD S deepN a = some x ∧ pyD S deepN b = some y ∧ seqP y = some ps ∧ k = inAny ps x := by
  unfold inB at h
  split at h
  · cases h; exact .inl ⟨_, _, rfl, rfl, rfl⟩
  · obtain ⟨x, h1, h⟩ := bind_some' h
    obtain ⟨y, h2, h⟩ := bind_some' h
    obtain ⟨ps, h3, h⟩ := bind_some' h
    cases h
    exact .inr ⟨x, y, ps, h1, h2, h3, rfl⟩
section
variable {X : Cx} {C : Nat → Addr}
theorem inD_ok (hu : X.A.units + 64 < cLine) : OpD X C (compareOp .In) inD := by
  intro pins s sg H x y v u Q I rx ry ⟨io, S, a, b, d, dn, ra, rb, e, q⟩
  obtain ⟨k, e1, e2⟩ := bind_some' e
  cases e2
  rcases inB_cases e1 with ⟨i, j, rfl, rfl, rfl⟩ | ⟨p, p', ps, h1, h2, h3, rfl⟩
  · cases ra; cases rb
    exact op_in_str pins s sg H _ _ v u Q I rx ry ⟨i, j, rfl, rfl, q _ H io (Ext.refl _ _) dn (.bl _)⟩
  · obtain ⟨⟨as, r1⟩, b1, l1⟩ := reads_of I dn h1 ra rx
    obtain ⟨⟨bs, r2⟩, b2, l2⟩ := reads_of I dn h2 rb ry
    have fin : EP X pins sg Q (.bool (ps.any fun y => PyData.eqv y p)) s := ⟨.bl _, H, I, rfl, q _ H io (Ext.refl _ _) dn (.bl _)⟩
    have hl : p.depth ≤ 60 := l1
    cases p' <;> cases h3
    · exact SeqAt.in_list_data r2 r1 (by simpa [PyData.plain] using b2) b1 (by omega) fin
    · exact SeqAt.in_tuple_data r2 r1 (by simpa [PyData.plain] using b2) b1 (by omega) fin
theorem ninD_ok (hu : X.A.units + 64 < cLine) : OpD X C (compareOp .NotIn) ninD := by
  intro pins s sg H x y v u Q I rx ry ⟨io, S, a, b, d, dn, ra, rb, e, q⟩
  obtain ⟨k, e1, e2⟩ := bind_some' e
  cases e2
  rcases inB_cases e1 with ⟨i, j, rfl, rfl, rfl⟩ | ⟨p, p', ps, h1, h2, h3, rfl⟩
  · cases ra; cases rb
    exact op_notin_str pins s sg H _ _ v u Q I rx ry ⟨i, j, rfl, rfl, q _ H io (Ext.refl _ _) dn (.bl _)⟩
  · obtain ⟨⟨as, r1⟩, b1, l1⟩ := reads_of I dn h1 ra rx
    obtain ⟨⟨bs, r2⟩, b2, l2⟩ := reads_of I dn h2 rb ry
    have fin : EP X pins sg Q (.bool (!ps.any fun y => PyData.eqv y p)) s := ⟨.bl _, H, I, rfl, q _ H io (Ext.refl _ _) dn (.bl _)⟩
    have hl : p.depth ≤ 60 := l1
    cases p' <;> cases h3
    · exact SeqAt.notIn_list_data r2 r1 (by simpa [PyData.plain] using b2) b1 (by omega) fin
    · exact SeqAt.notIn_tuple_data r2 r1 (by simpa [PyData.plain] using b2) b1 (by omega) fin

/-! ### list(x), tuple(x), repr(x) -/
def seqD (S : Store) : D → Option (List D)
  | .tup xs => some xs
  | d => asL S d
theorem seq_rep {K : PySem.W.Frag} {io : Io} {S : Store} {H : Hp} {d : D} {v : V} {xs : List D} (h : seqD S d = some xs) (dn : Den K C io S H) (r : Rep K C io (Fz io H) d v) :
    ∃ a vs, v = .ref a ∧ (SqL K H a vs ∨ SqT K H a vs) ∧ Reps K C io (Fz io H) xs vs := by
  unfold seqD at h
  split at h
  · cases h
    cases r with
    | tup q rs => exact ⟨_, _, rfl, .inr (sqT_same (Fz_same _ _) q), rs⟩
  · obtain ⟨a, vs, e, q, rs⟩ := asL_rep h dn r
    exact ⟨a, vs, e, .inl q, rs⟩
def listD (S : Store) : List D → Option D
  | [d] => (seqD S d).bind fun xs => some (.lst xs)
  | _ => none
theorem listD_ok : CallD X C (.type "list") listD := fun pins s sg H xs us Q I rx ⟨io, S, as, d, dn, ra, e, q⟩ => by
  unfold listD at e
  split at e
  · obtain ⟨v, rfl, h⟩ := reps1 ra
    obtain ⟨ys, h1, h2⟩ := bind_some' e
    cases h2
    obtain ⟨a, vs, rfl, hq, rs⟩ := seq_rep h1 dn h
    exact call_list_of pins s sg H _ us Q I rx ⟨a, vs, rfl, hq, fun l hl => let ⟨x, d', r'⟩ := new_lst dn rs hl; q _ _ _ x d' r'⟩
  · cases e
def tupleD (S : Store) : List D → Option D
  | [d] => (seqD S d).bind fun xs => some (.tup xs)
  | _ => none
theorem tupleD_ok : CallD X C (.type "tuple") tupleD := fun pins s sg H xs us Q I rx ⟨io, S, as, d, dn, ra, e, q⟩ => by
  unfold tupleD at e
  split at e
  · obtain ⟨v, rfl, h⟩ := reps1 ra
    obtain ⟨ys, h1, h2⟩ := bind_some' e
    cases h2
    unfold seqD at h1
    split at h1
    · cases h1
      cases h with
      | tup hq rs => exact call_tuple_of pins s sg H _ us Q I rx ⟨_, _, rfl, .inr ⟨sqT_same (Fz_same _ _) hq, q _ H io (Ext.refl _ _) dn (.tup hq rs)⟩⟩
    · obtain ⟨a, vs, rfl, hq, rs⟩ := asL_rep h1 dn h
      exact call_tuple_of pins s sg H _ us Q I rx ⟨a, vs, rfl, .inl ⟨hq, fun l hl => let ⟨x, d', r'⟩ := new_tup dn rs hl; q _ _ _ x d' r'⟩⟩
  · cases e
def showOk (p : PyData) : Bool := p.showable && !p.hasDict && decide (p.shown.length ≤ sizeLine)
def reprD (S : Store) : List D → Option D
  | [d] => (pyD S deepN d).bind fun p => if showOk p = true then some (.str p.shown) else none
  | _ => none
theorem reprD_ok (hu : X.A.units + 64 < cLine) (hg : X.A.guards = some []) : CallD X C (.builtin "repr") reprD := fun pins s sg H xs us Q I rx ⟨io, S, as, d, dn, ra, e, q⟩ => by
  unfold reprD at e
  split at e
  · rename_i d0
    obtain ⟨v, rfl, h⟩ := reps1 ra
    obtain ⟨p, h1, h2⟩ := bind_some' e
    split at h2
    · rename_i ok
      cases h2
      obtain ⟨u, rfl, ru⟩ := rx.one
      obtain ⟨⟨as, r1⟩, b1, l1⟩ := reads_of I dn h1 h ru
      simp only [showOk, Bool.and_eq_true, decide_eq_true_eq, Bool.not_eq_true'] at ok
      obtain ⟨⟨o1, o2⟩, o3⟩ := ok
      have fin : ∀ k t, EP X pins sg Q (.str p.shown t) { s with toks := k } := fun k t => ⟨.str _, H, I.tok k, ⟨t, rfl⟩, q _ H io (Ext.refl _ _) dn (.str _)⟩
      have hl : p.depth ≤ 60 := l1
      cases r1 with
      | none => exact P.repr_of_none (fin _ _)
      | bool => exact P.repr_of_bool (fin _ _)
      | int => exact P.repr_of_int (by simpa [PyData.showable] using o1) (fin _ _)
      | str => exact P.repr_of_str (fin _ _) o3
      | list g1 g2 g3 g4 => exact repr_of_reads' (.list g1 g2 g3 g4) o1 (PyData.noDict_hsm o2) hg (by omega) (fun _ _ e => e) (fun h' u tk hk => ⟨.str _, H, I.kept (t' := tk) hk, ⟨u, rfl⟩, q _ H io (Ext.refl _ _) dn (.str _)⟩) o3
      | tuple g1 g2 g3 g4 => exact repr_of_reads' (.tuple g1 g2 g3 g4) o1 (PyData.noDict_hsm o2) hg (by omega) (fun _ _ e => e) (fun h' u tk hk => ⟨.str _, H, I.kept (t' := tk) hk, ⟨u, rfl⟩, q _ H io (Ext.refl _ _) dn (.str _)⟩) o3
      | dict => simp [PyData.hasDict] at o2
    · cases h2
  · cases e

/-! ### methods of built-in things -/
def tyM (S : Store) : D → Option String
  | .str _ => some "str"
  | .lst _ => some "list"
  | .dct _ _ => some "dict"
  | .loc n => match S[n]? with
    | some (.lst _) => some "list"
    | some (.dK _ _) => some "dict"
    | _ => none
  | _ => none
theorem ty_rep {K : PySem.W.Frag} {io : Io} {S : Store} {H : Hp} {d : D} {v : V} {T : String} (h : tyM S d = some T) (dn : Den K C io S H) (r : Rep K C io (Fz io H) d v) : tyV K T v H := by
  cases r with
  | str => cases h; rfl
  | lst q rs => cases h; exact .inl ⟨rfl, _, (Fz_same _ _).seq q⟩
  | dct q e1 e2 rs => cases h; exact .inr (.inr (.inl ⟨rfl, .inl ⟨_, Fz_same _ _ _ _ q⟩⟩))
  | @loc n a q =>
    simp only [tyM] at h
    split at h
    · rename_i ys e
      cases h
      obtain ⟨vs, h1, h2⟩ := dn.obj n _ a e q
      exact .inl ⟨rfl, vs, .of h1⟩
    · rename_i ks ys e
      cases h
      obtain ⟨kvs, h1, h2, h3⟩ := dn.obj n _ a e q
      exact .inr (.inr (.inl ⟨rfl, .inl ⟨_, h1⟩⟩))
    · cases h
  | _ => cases h
/-- a method: the value, the store behind it -/
abbrev MF := Store → D → List D → Option (D × Store)
def MthD (X : Cx) (C : Nat → Addr) (id : String) (f : MF) : Prop :=
  MtR X id (fun x xs H Q => ∃ io S a as d S', Den X.K C io S H ∧ Rep X.K C io (Fz io H) a x ∧ Reps X.K C io (Fz io H) as xs ∧ f S a as = some (d, S') ∧ ∀ v H' io', Ext io H io' H' → Den X.K C io' S' H' → Rep X.K C io' (Fz io' H') d v → Q v H')
def ofP {A : Type} : Option (A × Store) → Res A
  | some (a, S) => .ok a S
  | none => .bad
def rMth (T : String) (f : MF) (o : RE) (as : RA) : RE := fun e S => (o e S).bind fun x S1 => if tyM S1 x = some T then (as e S1).bind fun xs S2 => ofP (f S2 x xs) else .bad
theorem Post.ofP {K : PySem.W.Frag} {A B : Type} {R : Io → Hp → A → B → Prop} {W : WX} {sg : L2.St} {io : Io} {H : Hp} {Q : B → Hp → Prop} {o : Option (A × Store)} (h : Post K C R W sg io H (ofP o) Q) : ∃ a S, o = some (a, S) ∧ ∀ b H' io', Ext io H io' H' → Den K C io' S H' → R io' (Fz io' H') a b → Q b H' := by
  cases o with
  | some p => exact ⟨p.1, p.2, rfl, h⟩
  | none => exact h.elim
variable {W : WX} {o e : Expr} {es : List Expr} {ro : RE} {rs : RA} {name : Str} {apos cpos : Pos} {T id : String} {f : MF}
theorem ee_mth (pa : PlainAttrs T) (slot : Slot T name id) (hty : typeOf (.builtin id) = pure (.type "method_descriptor")) (hm : MthD X C id f) (ho : PE X o (tE X.K C W ro)) (ha : PA X (e :: es) (tA X.K C W rs))
    (hbase : attributeBase o name X.env (eval o X.env) = eval o X.env := by rfl)
    (hfew : ((backTo cpos (starEach (e :: es) X.env)).all (fun x => !x.1) && (backToKw cpos (keywordEach [] X.env)).all (fun x => x.1.isSome)
      && decide ((e :: es).length + ([] : List Keyword).length + (if ([] : List Keyword).isEmpty then 0 else 1) < 30)) = true := by rfl)
    (hline : (apos.endLine == cpos.line) = true := by rfl) (hs : starEach (e :: es) X.env = (false, eval e X.env) :: starEach es X.env := by rfl) (hplain : (backTo cpos (starEach es X.env)).any (·.1) = false := by rfl) :
    PE X (.Call (.Attribute o name apos) (e :: es) [] cpos) (tE X.K C W (rMth T f ro rs)) :=
  (pe_bm pa slot hty hm ho ha hbase hfew hline hs hplain).imp fun sg H Q h => (tR.seq1 (R := RepR X.K C) (fun e x S1 => if tyM S1 x = some T then (rs e S1).bind fun xs S2 => ofP (f S2 x xs) else .bad) h fun _ _ => rfl).mono fun v H1 ⟨e, S, io, x1, d, s, r1, p⟩ => by
    split at p
    · rename_i ty
      refine ⟨ty_rep ty d r1, e, S, io, d, s, p.bind.mono fun vs H2 ⟨io2, S2, as, x2, d2, r2, p2⟩ => ?_⟩
      obtain ⟨z, S3, ez, p2⟩ := p2.ofP
      exact ⟨io2, S2, x1, as, z, S3, d2, r1.ext x2, r2, ez, p2⟩
    · exact p.elim
theorem ee_mth0 (pa : PlainAttrs T) (slot : Slot T name id) (hty : typeOf (.builtin id) = pure (.type "method_descriptor")) (hm : MthD X C id f) (ho : PE X o (tE X.K C W ro))
    (hbase : attributeBase o name X.env (eval o X.env) = eval o X.env := by rfl) (hline : (apos.endLine == cpos.line) = true := by rfl) : PE X (.Call (.Attribute o name apos) [] [] cpos) (tE X.K C W (rMth T f ro rNil)) :=
  (pe_bm0 pa slot hty hm ho hbase hline).imp fun sg H Q h => (tR.seq1 (R := RepR X.K C) (fun e x S1 => if tyM S1 x = some T then (rNil e S1).bind fun xs S2 => ofP (f S2 x xs) else .bad) h fun _ _ => rfl).mono fun v H1 ⟨e, S, io, x1, d, s, r1, p⟩ => by
    split at p
    · rename_i ty
      obtain ⟨z, S3, ez, p2⟩ := Post.ofP p
      exact ⟨ty_rep ty d r1, io, S, x1, [], z, S3, d, r1, .nil, ez, p2⟩
    · exact p.elim
/-- a method that lays nothing -/
theorem mthD_flat {r : V → List V → Hp → VK → Prop} (h : MtR X id r)
    (hf : ∀ io S H a as d S' x xs, Den X.K C io S H → Rep X.K C io (Fz io H) a x → Reps X.K C io (Fz io H) as xs → f S a as = some (d, S') → S' = S ∧ ∃ z, (∀ F, Rep X.K C io F d z) ∧ ∀ Q : VK, Q z H → r x xs H Q) : MthD X C id f := by
  intro pins s sg H x xs v us Q I rx rxs ⟨io, S, a, as, d, S', dn, ra, ras, e, q⟩
  obtain ⟨rfl, z, rz, hq⟩ := hf io S H a as d S' x xs dn ra ras e
  exact h pins s sg H x xs v us Q I rx rxs (hq Q (q z H io (Ext.refl _ _) dn (rz _)))
def strsD : List D → Option (List Str)
  | [] => some []
  | .str x :: r => (strsD r).bind fun ys => some (x :: ys)
  | _ :: _ => none
theorem strs_rep {K : PySem.W.Frag} {io : Io} {F : Hp} : ∀ {ds : List D} {vs : List V} {ys : List Str}, strsD ds = some ys → Reps K C io F ds vs → vs = ys.map V.str
  | _, _, _, h, .nil => by cases h; rfl
  | _, _, _, h, .cons r rs => by
    cases r <;> simp only [strsD] at h <;> try cases h
    obtain ⟨zs, h1, h2⟩ := bind_some' h
    cases h2
    rw [strs_rep h1 rs]
    rfl
def joinOk (a : Str) (ys : List Str) : Bool := decide ((ys.map (·.length)).sum + ys.length * a.length ≤ 16777216)
def joinD : MF
  | S, .str a, [d] => (seqD S d).bind fun ds => (strsD ds).bind fun ys => if joinOk a ys = true then some (.str (Txt.join a ys), S) else none
  | _, _, _ => none
theorem joinD_ok : MthD X C "str.join" joinD := mthD_flat mt_join fun io S H a as d S' x xs dn ra ras e => by
  unfold joinD at e
  split at e
  · obtain ⟨v, rfl, h⟩ := reps1 ras
    cases ra
    obtain ⟨ds, h1, e⟩ := bind_some' e
    obtain ⟨ys, h2, e⟩ := bind_some' e
    split at e
    · rename_i ok
      cases e
      obtain ⟨p, vs, rfl, hq, rs⟩ := seq_rep h1 dn h
      rw [strs_rep h2 rs] at hq
      exact ⟨rfl, _, fun _ => .str _, fun Q q => ⟨_, p, ys, rfl, rfl, hq, by simpa [joinOk] using ok, q⟩⟩
    · cases e
  · cases e
def indexS : MF
  | S, .str a, [.str b] => match Builtin.Str.occurrences a b 0 a.length 1 with
    | i :: _ => some (.int (i : Nat), S)
    | [] => none
  | _, _, _ => none
theorem indexS_ok : MthD X C "str.index" indexS := mthD_flat mt_sindex fun io S H a as d S' x xs dn ra ras e => by
  unfold indexS at e
  split at e
  · obtain ⟨v, rfl, h⟩ := reps1 ras
    cases ra; cases h
    split at e
    · rename_i hq
      cases e
      exact ⟨rfl, _, fun _ => .int _, fun Q q => ⟨_, _, _, _, rfl, rfl, hq, q⟩⟩
    · cases e
  · cases e
/-- xs.count(x) of data -/
def countL : MF
  | S, d, [x] => (asL S d).bind fun ds => (pyAll (pyD S deepN) ds).bind fun ps => (pyD S deepN x).bind fun p => some (.int ((ps.countP fun y => PyData.eqv y p : Nat) : Int), S)
  | _, _, _ => none
theorem countL_ok (hu : X.A.units + 64 < cLine) : MthD X C "list.count" countL := by
  intro pins s sg H x xs v us Q I rx rxs ⟨io, S, a, as, d, S', dn, ra, ras, e, q⟩
  unfold countL at e
  split at e
  · obtain ⟨w, rfl, h⟩ := reps1 ras
    obtain ⟨ds, h1, e⟩ := bind_some' e
    obtain ⟨ps, h2, e⟩ := bind_some' e
    obtain ⟨p, h3, e⟩ := bind_some' e
    cases e
    obtain ⟨u, rfl, ru⟩ := rxs.one
    obtain ⟨⟨bs, r2⟩, b2, l2⟩ := reads_of I dn h3 h ru
    have l2' : p.depth ≤ 60 := l2
    -- the list as data
    have h4 : pyD S (deepN + 1) a = some (.list ps) := by
      cases a with
      | lst zs => cases h1; simp only [pyD, h2, Option.bind]
      | loc n =>
        simp only [asL] at h1
        split at h1
        · rename_i e1
          cases h1
          simp only [pyD, e1, h2, Option.bind]
        · cases h1
      | _ => cases h1
    obtain ⟨⟨as, r1⟩, b1, l1⟩ := reads_of I dn h4 ra rx
    have pa : PyData.plainAll ps = true := by simpa [PyData.plain] using b1
    cases r1 with
    | @list l o vs n xs as' g1 g2 g3 g4 =>
      obtain ⟨cls, dd, data, sl⟩ := o
      simp only at g2 g3
      subst g2; subst g3
      refine call_meets PySem.F.slot_list_count ⟨_, g1, rfl⟩ PySem.F.entry_list_count (PySem.F.args_list_count_2 _ _)
        (SeqAt.list_countAt l vs n dd sl u (fun y => PyData.eqv (SeqAt.readOf s.heap y) p)) ⟨g1, fun y hy => ?_, ?_⟩
      · exact SeqAt.items_plain (A := X.A) g4 r2 pa b2 (by omega) y hy
      · have ec : vs.toList.countP (fun y => PyData.eqv (SeqAt.readOf s.heap y) p) = ps.countP (fun y => PyData.eqv y p) := by
          rw [← SeqAt.readsAll_map_plain ps _ _ pa g4, List.countP_map]
          rfl
        rw [ec]
        exact ⟨.int _, H, I.tok _, ⟨_, rfl⟩, q _ H io (Ext.refl _ _) dn (.int _)⟩
  · cases e
/-- xs.append(x) -/
def appendL : MF
  | S, .loc n, [x] => match S[n]? with
    | some (.lst xs) => if xs.length < sizeLine then some (.non, S.set n (.lst (xs ++ [x]))) else none
    | _ => none
  | _, _, _ => none
theorem put_lst {K : PySem.W.Frag} {io : Io} {S : Store} {H : Hp} {n : Nat} {p : Addr} {xs : List D} {vs : List V} (dn : Den K C io S H) (h : io.l[n]? = some p) (r : Reps K C io (Fz io H) xs vs) :
    Ext io H io (upd H p (.lst vs)) ∧ Den K C io (S.set n (.lst xs)) (upd H p (.lst vs)) :=
  ⟨Ext.put (mem_all h), dn.put h ⟨vs, upd_same, r.ext (Ext.put (mem_all h))⟩⟩
theorem appendL_ok : MthD X C "list.append" appendL := by
  intro pins s sg H x xs v us Q I rx rxs ⟨io, S, a, as, d, S', dn, ra, ras, e, q⟩
  unfold appendL at e
  split at e
  · rename_i n y
    obtain ⟨w, rfl, h⟩ := reps1 ras
    cases ra with
    | @loc _ p hn =>
    split at e
    · rename_i ys e1
      split at e
      · rename_i hz
        cases e
        obtain ⟨vs, g1, g2⟩ := dn.obj n _ p e1 hn
        obtain ⟨x1, d1⟩ := put_lst dn hn (g2.append (.cons h .nil))
        exact mt_append pins s sg H _ _ v us Q I rx rxs ⟨p, vs, w, rfl, rfl, g1, by rw [← g2.length]; exact hz, q _ _ io x1 d1 .non⟩
      · cases e
    · cases e
  · cases e
/-- xs.pop() -/
def popL : MF
  | S, .loc n, [] => match S[n]? with
    | some (.lst xs) => (xs[xs.length - 1]?).bind fun y => some (y, S.set n (.lst xs.dropLast))
    | _ => none
  | _, _, _ => none
theorem Reps.dropLast {K : PySem.W.Frag} {io : Io} {F : Hp} {ds : List D} {vs : List V} (r : Reps K C io F ds vs) : Reps K C io F ds.dropLast vs.dropLast := by
  rw [List.dropLast_eq_take, List.dropLast_eq_take, r.length]
  exact r.take _
theorem popL_ok : MthD X C "list.pop" popL := by
  intro pins s sg H x xs v us Q I rx rxs ⟨io, S, a, as, d, S', dn, ra, ras, e, q⟩
  unfold popL at e
  split at e
  · rename_i n
    cases ras
    cases ra with
    | @loc _ p hn =>
    split at e
    · rename_i ys e1
      obtain ⟨y, h2, e⟩ := bind_some' e
      cases e
      obtain ⟨vs, g1, g2⟩ := dn.obj n _ p e1 hn
      obtain ⟨w, h3, h4⟩ := g2.get h2
      obtain ⟨x1, d1⟩ := put_lst dn hn g2.dropLast
      exact mt_pop pins s sg H _ _ v us Q I rx rxs ⟨p, vs, w, rfl, rfl, g1, by rw [← g2.length]; exact h3, q _ _ io x1 d1 (h4.ext x1)⟩
    · cases e
  · cases e
end
/-! ### list(range(..)) -/
def rgD (f : List D → Option (List D)) : Store → List D → Option D := fun _ as => (f as).bind fun xs => if xs.length ≤ 2 ^ 24 then some (.lst xs) else none
section
variable {X : Cx} {C : Nat → Addr} {W : WX} {a b : Expr} {ra rb : RE} {rs : RA} {p p2 pos pos2 : Pos}
theorem ee_listRg2 (hc : X.calm = true) (hg : Gl X "list") (hm : X.mg "list" = none) (hg2 : Gl X "range") (hm2 : X.mg "range" = none) (ha : PE X a (tE X.K C W ra)) (hb : PE X b (tE X.K C W rb))
    (na : starEach [a, b] X.env = (false, eval a X.env) :: starEach [b] X.env := by rfl) (nb : starEach [b] X.env = (false, eval b X.env) :: starEach [] X.env := by rfl) (hp : (backTo pos2 (starEach [b] X.env)).any (·.1) = false := by rfl)
    (ne : starEach [.Call (.Name "range" p2) [a, b] [] pos2] X.env = (false, eval (.Call (.Name "range" p2) [a, b] [] pos2) X.env) :: starEach [] X.env := by rfl) :
    PE X (.Call (.Name "list" p) [.Call (.Name "range" p2) [a, b] [] pos2] [] pos) (tE X.K C W (rCal (rgD ran2) (rCons ra (rCons rb rNil)))) :=
  (pe_listRg hc hg hm (prg_2 hg2 hm2 ha hb na nb hp) ne).imp fun sg H Q h => (tR.seq2 repM (fun _ x y S => ofO (rgD ran2 S [x, y]) S) h (fun e S => by
      unfold rCal rCons rNil
      cases ra e S with
      | ok x S1 =>
        simp only [Res.bind]
        cases rb e S1 <;> rfl
      | err => rfl
      | bad => rfl)).mono fun x H1 h1 => h1.mono fun y H2 ⟨e, S, io, x1, y1, d, s, r1, r2, p⟩ => by
    obtain ⟨z, ez, p⟩ := p.ofO
    obtain ⟨xs, e1, e2⟩ := bind_some' ez
    split at e2
    · rename_i hz
      cases e2
      unfold ran2 at e1
      split at e1
      · rename_i i j hh
        cases hh
        split at e1
        · rename_i hj
          cases e1
          cases r1; cases r2
          have e3 : (j - i).toNat ≤ 2 ^ 24 := by simpa [rangeD] using hz
          refine ⟨i, j, rfl, rfl, ⟨hj.1, hj.2.1, hj.2.2.1, hj.2.2.2, e3⟩, fun q hq => ?_⟩
          have rr : Reps X.K C io (Fz io H2) (rangeD i (j - i).toNat) (rgV i j) := by
            unfold rangeD rgV
            induction (List.range (j - i).toNat) with
            | nil => exact .nil
            | cons m r ih => exact .cons (.int _) ih
          obtain ⟨x', d', r'⟩ := new_lst d rr hq
          exact p _ _ _ x' d' r'
        · cases e1
      · cases e1
    · cases e2
end
end Ev
namespace Ev
open PySem PySem.Spec L2 PyProof.Rows

/-! ### defs that show data: no guard may stand ahead of them -/
structure RoomG (k : Nat) (A : Around) : Prop where
  room : Room k A
  gd : A.guards = some []
structure FnG (P : Program) (w : World) (K : PySem.W.Frag) (mg : Str → Option Value) (base : Heap) (CX : CXT) (k : Nat) (f : Addr) (fd : FuncData) (ps : List Str) (sp : Sp) : Prop where
  len : ∀ vs H Q E, sp vs H Q E → vs.length = ps.length
  run : ∀ (A : Around) (outer : List PySem.Env) (s : Shared) (H : Hp) (args : Args) (us : List Value) (vs : List V) (Q : VK) (E : XK), RoomG k A → Env0 P w K mg base A outer s H → BindsTo s fd args (ps.zip us) → Vals vs us → sp vs H Q E →
    codeAny (model P w) A (.call (.ref f) args) (CR CX outer P w H s Q E) s
theorem RoomG.mono {j k : Nat} {A : Around} (r : RoomG k A) (h : j ≤ k) : RoomG j A := ⟨r.room.mono h, r.gd⟩
theorem FnG.of {P : Program} {w : World} {K : PySem.W.Frag} {mg : Str → Option Value} {base : Heap} {CX : CXT} {k : Nat} {f : Addr} {fd : FuncData} {ps : List Str} {sp : Sp} (F : FnOk P w K mg base CX k f fd ps sp) : FnG P w K mg base CX k f fd ps sp :=
  ⟨F.len, fun A outer s H args us vs Q E hr => F.run A outer s H args us vs Q E hr.room⟩
section
variable {P : Program} {w : World} {K : PySem.W.Frag} {mg : Str → Option Value} {base : Heap} {C : Nat → Addr}
/-- the frame of a def's run is entered, its body is run -/
theorem fnG_ev {x qual : Str} {st : Stmt} {f : Addr} {fd : FuncData} {N ps : List Str} {k : Nat} {m : RS} (F : Fun K x qual st f fd) (S : FnScope N ps (defScope st))
    (hbody : ∀ (cdv : Value) (A : Around) (outer : List PySem.Env) (s : Shared) (H : Hp) (E : XK), RoomG k (A.deeper (envOfC qual (defScope st) s.heap.objs.size f cdv)) →
      Takes (cxOf (L2.CX P w) P w K mg base N qual (defScope st) f cdv A outer s H E) (fun cls d _ H => E cls d H) →
      PassesOwn (model P w) (cxOf (L2.CX P w) P w K mg base N qual (defScope st) f cdv A outer s H E).A (cxOf (L2.CX P w) P w K mg base N qual (defScope st) f cdv A outer s H E).env (cxOf (L2.CX P w) P w K mg base N qual (defScope st) f cdv A outer s H E).xe →
      PSs (cxOf (L2.CX P w) P w K mg base N qual (defScope st) f cdv A outer s H E) (defBody st) (tS K C (fun cls d _ H => E cls d H) m)) :
    FnG P w K mg base (L2.CX P w) (k + 1) f fd ps (spOf K C ps.length (runDef N.length m)) := by
  obtain ⟨oc, od, kV, doc, pm, an, cdv, ct, osl, rfl, lk, hcd⟩ := F.ex
  refine ⟨fun vs H Q E h => h.1, fun A outer s H args us vs Q E hr e0 hb r hsp => ?_⟩
  have KX : K.In s.heap := e0.mod.kin.keeps fun b o e => (e0.bs b o e).1
  have rdp := hr.room.deeper (envOfC qual (defScope st) s.heap.objs.size f cdv)
  have ht := hbody cdv A outer s H E ⟨rdp, hr.gd⟩ (takes_of rfl rfl rfl rfl) (passes_of rfl)
  have hq : tS K C (fun cls d _ H => E cls d H) m { nx := fun _ H' => Q .non H', rt := Q } (L2.start N vs) H := by
    obtain ⟨hl, ds, S, io, dn, rs, p⟩ := hsp
    refine ⟨_, S, io, dn, slots_start rs, ?_⟩
    unfold runDef Fl.res at p
    split at p
    · rename_i e S1 q
      rw [q]
      exact fun sg H' io' x d s => p _ H' io' x d .non
    · rename_i d S1 q
      rw [q]
      exact p
    · rename_i x e S1 q
      rw [q]
      exact fun cls dd sg H' io' x d s xr => p cls dd H' io' x d xr
    · exact p.elim
  refine codeAny_call_function hr.room.depth (KX _ _ lk) rfl S.co S.gen rfl (PySem.W.codeRec_of KX hcd) (hb _ _ _ _ (wpAny_newFunctionEnv_cells S.kind (fun y hy => ?_) fun env he s1 x => ?_))
  · obtain ⟨n, v⟩ := y
    exact (S.par n (List.of_mem_zip hy).1).imp id fun q => ⟨q, PySem.W.cellsFrom_some _ _ _ (.inl q)⟩
  · subst he
    have lim : s.heap.NoLimit := e0.mod.nolimit.keeps fun b o e => (e0.bs b o e).1
    refine ⟨lim.keeps x.toInCall.keep, codeAny_func (wpAny_mono (ht.run [] s1 (L2.start N vs) H _ (inv_start S hr.room.hd e0 hsp.1 r x) hq) (fun fl s' hs => ?_) fun e s' hs => hs)⟩
    cases fl with
    | ret u => obtain ⟨v, _, H', J, rv, q⟩ := hs; exact ⟨v, H', J.os, J.bare, J.base, J.hok, rv, q⟩
    | next => obtain ⟨_, H', J, q⟩ := hs; exact ⟨.non, H', J.os, J.bare, J.base, J.hok, rfl, q⟩
    | brk => obtain ⟨_, _, _, q⟩ := hs; exact False.elim q
    | cont => obtain ⟨_, _, _, q⟩ := hs; exact False.elim q
end
theorem Fun.toD {K : PySem.W.Frag} {x qual : Str} {st : Stmt} {f : Addr} {fd : FuncData} (F : Fun K x qual st f fd) : FunD K x qual (defArgs st) (defBody st) (defScope st) [] [] f fd := by
  obtain ⟨oc, od, kV, doc, pm, an, cdv, ct, osl, e, lk, hcd⟩ := F.ex
  exact ⟨⟨oc, od, .none, kV, doc, pm, an, cdv, ct, osl, e, lk, hcd, .inl ⟨rfl, rfl⟩, .inl rfl⟩, F.kp⟩
theorem fnD_ev {P : Program} {w : World} {K : PySem.W.Frag} {mg : Str → Option Value} {base : Heap} {C : Nat → Addr} {x qual : Str} {st : Stmt} {f : Addr} {fd : FuncData} {N ps : List Str} {k : Nat} {m : RS} {kws : List (Str × V)} (F : FunD K x qual (defArgs st) (defBody st) (defScope st) [] kws f fd) (S : FnScope N ps (defScope st))
    (hbody : ∀ (cdv : Value) (A : Around) (outer : List PySem.Env) (s : Shared) (H : Hp) (E : XK), Room k (A.deeper (envOfC qual (defScope st) s.heap.objs.size f cdv)) →
      Takes (cxOf (L2.CX P w) P w K mg base N qual (defScope st) f cdv A outer s H E) (fun cls d _ H => E cls d H) →
      PassesOwn (model P w) (cxOf (L2.CX P w) P w K mg base N qual (defScope st) f cdv A outer s H E).A (cxOf (L2.CX P w) P w K mg base N qual (defScope st) f cdv A outer s H E).env (cxOf (L2.CX P w) P w K mg base N qual (defScope st) f cdv A outer s H E).xe →
      PSs (cxOf (L2.CX P w) P w K mg base N qual (defScope st) f cdv A outer s H E) (defBody st) (tS K C (fun cls d _ H => E cls d H) m)) :
    FnOk P w K mg base (L2.CX P w) (k + 1) f fd ps (spOf K C ps.length (runDef N.length m)) := by
  refine F.ok S (fun vs H Q E h => h.1) (fun cdv A outer s H vs Q E hr h => ⟨_, hbody cdv A outer s H E hr (takes_of rfl rfl rfl rfl) (passes_of rfl), ?_⟩)
  obtain ⟨hl, ds, S, io, dn, rs, p⟩ := h
  refine ⟨_, S, io, dn, slots_start rs, ?_⟩
  unfold runDef Fl.res at p
  split at p
  · rename_i e S1 q
    rw [q]
    exact fun sg H' io' x d s => p _ H' io' x d .non
  · rename_i d S1 q
    rw [q]
    exact p
  · rename_i x e S1 q
    rw [q]
    exact fun cls dd sg H' io' x d s xr => p cls dd H' io' x d xr
  · exact p.elim
/-! ### own defs as they may be called from here -/
/-- the def may be called in X -/
structure Cal (X : Cx) (f : Addr) (fd : FuncData) (ps : List Str) (sp : Sp) : Prop where
  len : ∀ vs H Q E, sp vs H Q E → vs.length = ps.length
  run : ∀ (pins : List (Addr × Obj)) (sg : L2.St) (s : Shared) (H : Hp) (args : Args) (us : List Value) (vs : List V) (Q : VK) (E : XK), L2.Inv X pins sg H s → BindsTo s fd args (ps.zip us) → Vals vs us → sp vs H Q E →
    codeAny (model X.prog X.w) X.A (.call (.ref f) args) (CR (L2.CX X.prog X.w) X.stack X.prog X.w H s Q E) s
theorem Cal.ok {X : Cx} {k : Nat} {f : Addr} {fd : FuncData} {ps : List Str} {sp : Sp} (F : FnOk X.prog X.w X.K X.mg X.base (L2.CX X.prog X.w) k f fd ps sp) (hr : Room k X.A) : Cal X f fd ps sp :=
  ⟨F.len, fun pins sg s H args us vs Q E I => F.run X.A X.stack s H args us vs Q E hr I.env0⟩
theorem Cal.g {X : Cx} {k : Nat} {f : Addr} {fd : FuncData} {ps : List Str} {sp : Sp} (F : FnG X.prog X.w X.K X.mg X.base (L2.CX X.prog X.w) k f fd ps sp) (hr : RoomG k X.A) : Cal X f fd ps sp :=
  ⟨F.len, fun pins sg s H args us vs Q E I => F.run X.A X.stack s H args us vs Q E hr I.env0⟩
/-! ### what a call binds -/
inductive Src where
  | p (i : Nat)
  | k (j : Nat)
  | c (d : D)
def pick1 (us ws : List D) : Src → Option D
  | .p i => us[i]?
  | .k j => ws[j]?
  | .c d => some d
def pick (us ws : List D) : List Src → Option (List D)
  | [] => some []
  | q :: r => (pick1 us ws q).bind fun x => (pick us ws r).bind fun xs => some (x :: xs)
def CstV : D → Value → Prop
  | .non, v => v = .none
  | .bl b, v => v = .bool b
  | .int i, v => ∃ t, v = .int i t
  | .str x, v => ∃ t, v = .str x t
  | _, _ => False
def srcV (us ws : List Value) : Src → Value → Prop
  | .p i, v => us[i]? = some v
  | .k j, v => ws[j]? = some v
  | .c d, v => CstV d v
inductive SrcVs (us ws : List Value) : List Src → List Value → Prop
  | nil : SrcVs us ws [] []
  | cons {q : Src} {r : List Src} {v : Value} {vs : List Value} : srcV us ws q v → SrcVs us ws r vs → SrcVs us ws (q :: r) (v :: vs)
structure BindK (K : PySem.W.Frag) (fd : FuncData) (ps : List Str) (n : Nat) (ks : List Str) (src : List Src) : Prop where
  to : ∀ (s : Shared) (us ws : List Value), K.In s.heap → us.length = n → ws.length = ks.length → ∃ zs, BindsTo s fd ⟨us, ks.zip ws⟩ (ps.zip zs) ∧ SrcVs us ws src zs
theorem BindK.plain {K : PySem.W.Frag} {fd : FuncData} {ps : List Str} {n : Nat} {ks : List Str} {src : List Src} {x qual : Str} {params : Arguments} {body : List Stmt} {scope : Scope} {kws : List (Str × V)} {f : Addr} (F : FunD K x qual params body scope [] kws f fd)
    (h : ∀ (kV doc pm : Value) (an : Option Addr) (cdv ct : Value) (us ws : List Value), us.length = n → ws.length = ks.length → ∃ zs, bindArgs (PySem.W.fnOf x qual params body scope .none kV doc pm an cdv ct) ⟨us, ks.zip ws⟩ = pure (ps.zip zs) ∧ SrcVs us ws src zs) : BindK K fd ps n ks src := by
  obtain ⟨oc, od, dV, kV, doc, pm, an, cdv, ct, osl, rfl, lk, hcd, hD, hK⟩ := F.ex
  rcases hD with ⟨_, rfl⟩ | ⟨e, _⟩
  · refine ⟨fun s us ws KI h1 h2 => ?_⟩
    obtain ⟨zs, e1, e2⟩ := h kV doc pm an cdv ct us ws h1 h2
    exact ⟨zs, .of_eq e1, e2⟩
  · exact absurd rfl e
/-- keyword-only parameters that lack, ms -/
theorem BindK.lack {K : PySem.W.Frag} {fd : FuncData} {ps : List Str} {n : Nat} {ks : List Str} {src : List Src} {x qual : Str} {params : Arguments} {body : List Stmt} {scope : Scope} {kws : List (Str × V)} {f : Addr} (F : FunD K x qual params body scope [] kws f fd) (hk : kws ≠ []) (ms : List (Str × V)) (hms : ∀ q ∈ ms, q ∈ kws)
    (h : ∀ (D : Addr) (doc pm : Value) (an : Option Addr) (cdv ct : Value) (us ws mv : List Value), us.length = n → ws.length = ks.length → mv.length = ms.length → Vals (ms.map (·.2)) mv →
      ∃ zs, KwChain D ((ms.map (·.1)).zip mv) (bindArgs (PySem.W.fnOf x qual params body scope .none (.ref D) doc pm an cdv ct) ⟨us, ks.zip ws⟩) (ps.zip zs) ∧ SrcVs us ws src zs) : BindK K fd ps n ks src := by
  obtain ⟨oc, od, dV, kV, doc, pm, an, cdv, ct, osl, rfl, lk, hcd, hD, hK⟩ := F.ex
  rcases hD with ⟨_, rfl⟩ | ⟨e, _⟩
  · rcases hK with e | ⟨D, rfl, hq⟩
    · exact absurd e hk
    · obtain ⟨mv, hl, rk, hks⟩ := kwd_vals (ms := ms) fun q hm => hq q (hms q hm)
      refine ⟨fun s us ws KI h1 h2 => ?_⟩
      obtain ⟨zs, e1, e2⟩ := h D doc pm an cdv ct us ws mv h1 h2 hl rk
      exact ⟨zs, BindsTo.of_looks fun M => KwChain.looks KI hks e1, e2⟩
  · exact absurd rfl e
theorem cst_rep {K : PySem.W.Frag} {C : Nat → Addr} {io : Io} {F : Hp} {d : D} {u : Value} (h : CstV d u) : ∃ v, RelV v u ∧ Rep K C io F d v := by
  cases d <;> simp only [CstV] at h
  · exact ⟨.non, h, .non⟩
  · exact ⟨.bl _, h, .bl _⟩
  · exact ⟨.int _, h, .int _⟩
  · exact ⟨.str _, h, .str _⟩
theorem Vals.at' {vs : List V} {us : List Value} (r : Vals vs us) {i : Nat} {u : Value} (h : us[i]? = some u) : ∃ v, vs[i]? = some v ∧ RelV v u := by
  induction r generalizing i with
  | nil => simp at h
  | cons r1 rs ih =>
    cases i with
    | zero => simp at h; subst h; exact ⟨_, rfl, r1⟩
    | succ i => simpa using ih (by simpa using h)
theorem picked {K : PySem.W.Frag} {C : Nat → Addr} {io : Io} {F : Hp} {us ws : List Value} {vs xs : List V} {ds es : List D} (ru : Vals vs us) (rw_ : Vals xs ws) (rd : Reps K C io F ds vs) (re : Reps K C io F es xs) :
    ∀ {src : List Src} {zs : List Value} {as : List D}, SrcVs us ws src zs → pick ds es src = some as → ∃ ys, Vals ys zs ∧ Reps K C io F as ys
  | _, _, _, .nil, h => by cases h; exact ⟨[], .nil, .nil⟩
  | q :: r, _, _, .cons (v := v0) h1 h2, h => by
    simp only [pick] at h
    obtain ⟨d, e1, h⟩ := bind_some' h
    obtain ⟨ds', e2, h⟩ := bind_some' h
    cases h
    obtain ⟨ys, g1, g2⟩ := picked ru rw_ rd re h2 e2
    have : ∃ y, RelV y v0 ∧ Rep K C io F d y := by
      cases q with
      | p i =>
        obtain ⟨v, a1, a2⟩ := Vals.at' ru h1
        obtain ⟨d', b1, b2⟩ := rd.getV a1
        have e : d' = d := by have e1' : ds[i]? = some d := e1; rw [b1] at e1'; exact Option.some.inj e1'
        exact ⟨v, a2, e ▸ b2⟩
      | k i =>
        obtain ⟨v, a1, a2⟩ := Vals.at' rw_ h1
        obtain ⟨d', b1, b2⟩ := re.getV a1
        have e : d' = d := by have e1' : es[i]? = some d := e1; rw [b1] at e1'; exact Option.some.inj e1'
        exact ⟨v, a2, e ▸ b2⟩
      | c d0 => cases e1; exact cst_rep h1
    obtain ⟨y, c1, c2⟩ := this
    exact ⟨y :: ys, .cons c1 g1, .cons c2 g2⟩
def rCallK (g : List D → Store → Res D) (src : List Src) (as ks : RA) : RE := fun e S => (as e S).bind fun ds S1 => (ks e S1).bind fun es S2 => match pick ds es src with
  | some zs => g zs S2
  | none => .bad
theorem SrcVs.length {us ws : List Value} : ∀ {src : List Src} {zs : List Value}, SrcVs us ws src zs → zs.length = src.length
  | _, _, .nil => rfl
  | _, _, .cons _ h => by simp [SrcVs.length h]
section
variable {X : Cx} {C : Nat → Addr} {W : WX} {n : Nat} {f : Addr} {fd : FuncData} {ps ks : List Str} {g : List D → Store → Res D} {x : Str} {p pos : Pos} {e : Expr} {es : List Expr} {rs rk : RA} {src : List Src} {kws : List Keyword} {m : Nat}
theorem run_cal {pins : List (Addr × Obj)} {sg : L2.St} {H : Hp} {s : Shared} {Q : VK} {us zs : List Value} {kw : List (Str × Value)} {vs : List V} {sp : Sp} (F : Cal X f fd ps sp) (tk : Takes X W) (hb : BindsTo s fd ⟨us, kw⟩ (ps.zip zs)) (I : L2.Inv X pins sg H s) (r : Vals vs zs) (h : sp vs H Q (WE W sg)) :
    wpAny (model X.prog X.w) X.A (call (.ref f) us kw) (EP X pins sg Q) X.xe s := by
  refine wpAny_call (codeAny_mono (F.run pins sg s H _ zs vs Q (WE W sg) I hb r h) fun r s' hq => ?_)
  cases r with
  | error e => exact passAt tk sg pins H s e s' I hq
  | ok fl =>
    cases fl with
    | ret u => exact I.after hq
    | next => exact False.elim hq
    | brk => exact False.elim hq
    | cont => exact False.elim hq
theorem spOf_of {K : PySem.W.Frag} {n : Nat} {ds : List D} {vs : List V} {S : Store} {io : Io} {H : Hp} {sg : L2.St} {Q : VK} (hl : vs.length = n) (dn : Den K C io S H) (r : Reps K C io (Fz io H) ds vs) (p : Post K C (RepR K C) W sg io H (g ds S) Q) : spOf K C n g vs H Q (WE W sg) :=
  ⟨hl, ds, S, io, dn, r, by
    cases q : g ds S with
    | ok a S1 => rw [q] at p; exact p
    | err y S1 => rw [q] at p; exact p
    | bad => rw [q] at p; exact p⟩
/-- a call by places -/
theorem ee_callC (F : Cal X f fd ps (spOf X.K C n g)) (hg : Gl X x) (hm : X.mg x = some (.ref f)) (hk : PySem.W.keepIn X.K (.ref f) = true) (hb : Binds X.K fd ps []) (tk : Takes X W)
    (ha : PA X (e :: es) (tA X.K C W rs)) (hn : AL n rs) (hdb : (x == ("__debug__" : Str)) = false := by decide) (he : starEach (e :: es) X.env = (false, eval e X.env) :: starEach es X.env := by rfl) (hpl : (backTo pos (starEach es X.env)).any (·.1) = false := by rfl) :
    PE X (.Call (.Name x p) (e :: es) [] pos) (tE X.K C W (rCall g rs)) := by
  refine ⟨fun pins s sg H Q I h => ?_⟩
  have h2 := tA.alen hn (tR.seq1 (fun _ ds S => g ds S) h fun _ _ => rfl)
  refine wpAny_Call_Name_kw (ld_glob I hg hm ?_ hdb)
  refine PySem.W.callWith_K (h₀ := X.base) I.ok.mod.kin hk (thn (ha.run pos pins s sg H _ I h2) fun us s1 ⟨vs, H1, I1, r, hl, e, S, io, ds, dn, sl, rr, q⟩ => ⟨I1.kIn, ?_⟩) he hpl
  have hl2 : us.length = ps.length := by
    rw [← r.length]
    exact F.len vs H1 Q _ (spOf_of hl dn rr q)
  have b := hb s1 us I1.kIn (by rw [List.append_nil]; exact hl2)
  rw [List.append_nil] at b
  exact run_cal F tk b I1 r (spOf_of hl dn rr q)
theorem ek_nil : PK X [] (tA X.K C W rNil) := ⟨fun pos pins s sg H Q I h => pk_nil.run pos pins s sg H Q I (by
  obtain ⟨e, S, io, d, s, p⟩ := h
  exact p.here d .nil)⟩
theorem ek_cons {nm : Option Str} {kpos : Pos} {re : RE} (ha : PE X e (tE X.K C W re)) (hr : PK X kws (tA X.K C W rk)) : PK X (⟨nm, e, kpos⟩ :: kws) (tA X.K C W (rCons re rk)) :=
  ⟨fun pos pins s sg H Q I h => (pk_cons ha hr).run pos pins s sg H Q I ((tR.seq2 repM (fun _ x xs S => .ok (x :: xs) S) h fun _ _ => rfl).mono fun x H1 h1 => h1.mono fun y H2 ⟨e, S, io, x1, y1, d, s, r1, r2, p⟩ =>
    p _ H2 io (Ext.refl _ _) d (.cons r1 r2))⟩
/-- by places and by names, or with parameters left out -/
theorem ee_callK (F : Cal X f fd ps (spOf X.K C m g)) (hg : Gl X x) (hm : X.mg x = some (.ref f)) (hk : PySem.W.keepIn X.K (.ref f) = true) (hb : BindK X.K fd ps n ks src) (hsrc : src.length = m) (tk : Takes X W)
    (ha : PA X (e :: es) (tA X.K C W rs)) (hn : AL n rs) (hkw : PK X kws (tA X.K C W rk)) (hnk : AL ks.length rk) (hall : (backToKw pos (keywordEach kws X.env)).all (·.1.isSome) = true := by rfl) (hks : (backToKw pos (keywordEach kws X.env)).filterMap (·.1) = ks := by rfl)
    (hdb : (x == ("__debug__" : Str)) = false := by decide) (he : starEach (e :: es) X.env = (false, eval e X.env) :: starEach es X.env := by rfl)
    (hpl : ((backTo pos (starEach (e :: es) X.env)).any (·.1) || (backToKw pos (keywordEach kws X.env)).any (·.1.isNone)) = false := by rfl) :
    PE X (.Call (.Name x p) (e :: es) kws pos) (tE X.K C W (rCallK g src rs rk)) := by
  refine ⟨fun pins s sg H Q I h => ?_⟩
  have h2 := tA.alen hn (tR.seq1 (R := RepsR X.K C) (fun e ds S1 => (rk e S1).bind fun es S2 => match pick ds es src with | some zs => g zs S2 | none => .bad) h fun _ _ => rfl)
  refine wpAny_Call_Name_kw (ld_glob I hg hm ?_ hdb)
  refine PySem.W.callWith_KW (h₀ := X.base) I.ok.mod.kin hk hall (thn (ha.run pos pins s sg H _ I h2) fun us s1 ⟨vs, H1, I1, r, hl, e, S, io, ds, dn, sl, rr, q⟩ => ?_) hpl he
  have h3 : tA X.K C W rk sg H1 (fun xs H2 => ∃ S2 io2 es, Ext io H1 io2 H2 ∧ Den X.K C io2 S2 H2 ∧ Reps X.K C io2 (Fz io2 H2) es xs ∧ Post X.K C (RepR X.K C) W sg io2 H2 (match pick ds es src with | some zs => g zs S2 | none => .bad) Q) :=
    ⟨e, S, io, dn, sl, q.bind.mono fun xs H2 ⟨io2, S2, es, x2, d2, r2, p2⟩ => ⟨S2, io2, es, x2, d2, r2, p2⟩⟩
  refine thn (hkw.run pos pins s1 sg H1 _ I1 (tA.alen hnk h3)) fun ws s2 ⟨xs, H2, I2, rx, hl2, S2, io2, es, x2, d2, r2, p2⟩ => ⟨I2.kIn, ?_⟩
  rw [hks]
  obtain ⟨zs, b1, b2⟩ := hb.to s2 us ws I2.kIn (r.length.symm.trans hl) (rx.length.symm.trans hl2)
  split at p2
  · rename_i as hp
    obtain ⟨ys, y1, y2⟩ := picked r rx (rr.ext x2) r2 b2 hp
    exact run_cal F tk b1 I2 y1 (spOf_of (by rw [y1.length, b2.length, hsrc]) d2 y2 p2)
  · exact p2.elim
/-- by names alone -/
theorem ee_callK0 (F : Cal X f fd ps (spOf X.K C m g)) (hg : Gl X x) (hm : X.mg x = some (.ref f)) (hk : PySem.W.keepIn X.K (.ref f) = true) (hb : BindK X.K fd ps 0 ks src) (hsrc : src.length = m) (tk : Takes X W)
    (hkw : PK X kws (tA X.K C W rk)) (hnk : AL ks.length rk) (hall : (backToKw pos (keywordEach kws X.env)).all (·.1.isSome) = true := by rfl) (hks : (backToKw pos (keywordEach kws X.env)).filterMap (·.1) = ks := by rfl)
    (hdb : (x == ("__debug__" : Str)) = false := by decide) (hpl : ((backTo pos (starEach [] X.env)).any (·.1) || (backToKw pos (keywordEach kws X.env)).any (·.1.isNone)) = false := by rfl) :
    PE X (.Call (.Name x p) [] kws pos) (tE X.K C W (rCallK g src rNil rk)) := by
  refine ⟨fun pins s sg H Q I h => ?_⟩
  refine wpAny_Call_Name_kw (ld_glob I hg hm ?_ hdb)
  have h2 : tA X.K C W rk sg H (fun xs H2 => ∃ S2 io2 es, Den X.K C io2 S2 H2 ∧ Reps X.K C io2 (Fz io2 H2) es xs ∧ Post X.K C (RepR X.K C) W sg io2 H2 (match pick [] es src with | some zs => g zs S2 | none => .bad) Q) := by
    obtain ⟨e, S, io, dn, sl, q⟩ := h
    exact ⟨e, S, io, dn, sl, (Post.bind (k := fun es S2 => match pick [] es src with | some zs => g zs S2 | none => .bad) q).mono fun xs H2 ⟨io2, S2, es, x2, d2, r2, p2⟩ => ⟨S2, io2, es, d2, r2, p2⟩⟩
  refine PySem.W.callWith_KW0 (h₀ := X.base) I.ok.mod.kin hk hall (thn (hkw.run pos pins s sg H _ I (tA.alen hnk h2)) fun ws s2 ⟨xs, H2, I2, rx, hl2, S2, io2, es, d2, r2, p2⟩ => ⟨I2.kIn, ?_⟩) hpl
  rw [hks]
  obtain ⟨zs, b1, b2⟩ := hb.to s2 [] ws I2.kIn rfl (rx.length.symm.trans hl2)
  split at p2
  · rename_i as hp
    obtain ⟨ys, y1, y2⟩ := picked .nil rx .nil r2 b2 hp
    exact run_cal F tk b1 I2 y1 (spOf_of (by rw [y1.length, b2.length, hsrc]) d2 y2 p2)
  · exact p2.elim
end
/-! ### the end of a law whose def shows data -/
theorem law_callG {P : Program} {w : World} {K : PySem.W.Frag} {mg mb : Str → Option Value} {k : Nat} {fa a : Addr} {fd : FuncData} {x : Str} {sp : Sp} {s1 : Shared} {vs : List Value} {ns : List Int}
    (KX : K.In s1.heap) (hns : s1.heap.Ns mainGlobals mg) (hb : s1.heap.Ns builtinsNs mb) (hbb : ∀ x : Str, x ≠ "__name__" → mb x = bootBuiltins x) (hlim : s1.heap.NoLimit) (hg : s1.gens = #[])
    (ha : s1.heap.get? a = some { cls := .type "list", data := .seq vs.toArray }) (hi : IntsAre vs ns) (hl : ns.length ≤ sizeLine) (hr : Room k callerA)
    (F : ∀ base : Heap, K.In base → base.Ns mainGlobals mg → FnG P w K mg base (L2.CX P w) k fa fd [x] sp) (hbind : ∀ (s : Shared) (u : Value), BindsTo s fd ⟨[u], []⟩ [(x, u)])
    (hsp : ∀ H : Hp, Only H → SqL K H a (ns.map V.int) → sp [.ref a] H (fun v _ => v = .bl true) fun _ _ _ => False) :
    codeAny (model P w) callerA (.call (.ref fa) ⟨[.ref a], []⟩) (fun r s' => r = .ok (.ret (.bool true)) ∧ OldK s1.heap s'.heap ∧ s'.os = s1.os ∧ AllBare s'.gens) s1 := by
  have rv := vals_ints hi
  -- the run from a heap H that knows the script at most
  have go : ∀ H : Hp, Only H → SqL K H a (ns.map V.int) → HOk P w H s1.heap → (∀ b u, H b = some u → b = a ∧ K.lookup a = none) →
      codeAny (model P w) callerA (.call (.ref fa) ⟨[.ref a], []⟩) (fun r s' => r = .ok (.ret (.bool true)) ∧ OldK s1.heap s'.heap ∧ s'.os = s1.os ∧ AllBare s'.gens) s1 := fun H hO hS hok hA => by
    have offD : ∀ {b : Addr} {o : Obj} {es : Array DictEntry} {ep : Nat}, s1.heap.get? b = some o → o.data = .dict es ep → H b = none := fun {b o es ep} e d => by
      cases q : H b with
      | none => rfl
      | some u =>
        obtain ⟨rfl, _⟩ := hA b u q
        rw [ha] at e
        cases e
        cases d
    have nsK : ∀ {b : Addr} {m : Str → Option Value}, s1.heap.Ns b m → (hidT s1.heap H).Ns b m := fun {b m} ⟨o, es, ep, e, d, r⟩ => ⟨o, es, ep, hidT_get e (offD e d), d, r⟩
    have hKb : K.In (hidT s1.heap H) := fun b o e => hidT_get (KX b o e) (by
      cases q : H b with
      | none => rfl
      | some u =>
        obtain ⟨rfl, hk⟩ := hA b u q
        rw [hk] at e
        cases e)
    have lim : (hidT s1.heap H).NoLimit := by
      obtain ⟨mc, h1, h2⟩ := hlim
      exact ⟨mc, nsK h1, h2⟩
    have e0 : Env0 P w K mg (hidT s1.heap H) callerA [] s1 H := ⟨rfl, ⟨hKb, nsK hns, ⟨mb, nsK hb, hbb⟩, lim⟩, fun b o e => of_hidT e, Nat.le_of_eq (hidT_size _ _), trivial, fun b hb => (by cases hb), hok, .of_eq hg⟩
    refine codeAny_mono ((F _ hKb (nsK hns)).run callerA [] s1 H ⟨[.ref a], []⟩ [.ref a] [.ref a] _ _ ⟨hr, rfl⟩ e0 (hbind s1 (.ref a)) (.cons rfl .nil) (hsp H hO hS)) fun r s' h => ?_
    cases r with
    | error e => exact (cx_end h).elim
    | ok fl =>
      cases fl with
      | ret u =>
        obtain ⟨v, H', os, bare, un, hok', r', q⟩ := h
        subst q
        obtain rfl : u = Value.bool true := r'
        refine ⟨rfl, OldK.of_keep fun b o e => ?_, os, bare⟩
        rcases hO b with z | ⟨ob, xs, z⟩
        · exact un.keep b o e z (fun y => by cases y) (by simp)
        · obtain ⟨e1, _⟩ := hok b _ z
          obtain ⟨e2, _⟩ := hok' b _ (un.frzs b ob _ z)
          rw [e] at e1
          cases e1
          exact e2
      | _ => exact False.elim h
  cases hk : K.lookup a with
  | some o =>
    have e := KX a o hk
    rw [ha] at e
    cases e
    exact go (fun _ => none) (fun _ => .inl rfl) (.inr ⟨_, vs.toArray, _, hk, rfl, rfl, rfl, by rw [List.size_toArray, hi.length]; exact hl, by simpa using rv⟩) (fun b u z => by cases z) fun b u z => by cases z
  | none =>
    have at_ : ∀ {b : Addr} {u : HO}, (if b = a then some (HO.frz { cls := .type "list", data := .seq vs.toArray } (.lst (ns.map V.int))) else none) = some u → b = a ∧ u = HO.frz { cls := .type "list", data := .seq vs.toArray } (.lst (ns.map V.int)) := fun {b u} z => by
      split at z
      · cases z; exact ⟨by assumption, rfl⟩
      · cases z
    refine go (fun b => if b = a then some (.frz { cls := .type "list", data := .seq vs.toArray } (.lst (ns.map V.int))) else none) (fun b => ?_) (.inl (.inr ⟨_, if_pos rfl⟩)) (fun b u z => ?_) fun b u z => ⟨(at_ z).1, hk⟩
    · by_cases hb : b = a
      · exact .inr ⟨_, _, if_pos hb⟩
      · exact .inl (if_neg hb)
    · obtain ⟨rfl, rfl⟩ := at_ z
      exact ⟨ha, by rw [List.length_map]; exact hl, vs, _, rv, ha⟩
theorem walk_evG {l : PySem.W.OpenLaw} {n k : Nat} {q : Program} {loose : List Str} {XP : (Str → Option Value) → Heap → Prop} {YP : World → Heap → Prop} {d : DefRec} {K : Params → PySem.W.Frag} {x : Str} {g : List D → Store → Res D}
    (hn : l.most = some n) (hn2 : n ≤ sizeLine) (hdf : d.params.defaults = []) (hr : Room k callerA)
    (hY : ∀ (w : World) (h : Heap), YP w h → (K w.params).In h)
    (F : ∀ (w : World) (mg : Str → Option Value) (fa : Addr) (h : Heap), (K w.params).In h → h.Ns mainGlobals mg → mg d.name = some (.ref fa) →
      ∃ (fd : FuncData) (C : Nat → Addr), (∀ (s : Shared) (u : Value), BindsTo s fd ⟨[u], []⟩ [(x, u)]) ∧
        ∀ base : Heap, (K w.params).In base → base.Ns mainGlobals mg → FnG l.prog w (K w.params) mg base (L2.CX l.prog w) k fa fd [x] (spOf (K w.params) C 1 g))
    (hg : ∀ ns : List Int, ns.length ≤ n → ∃ S', g [.lst (ns.map D.int)] [] = .ok (.bl true) S') :
    PySem.W.WalkO q loose XP YP l.row.toRowW d [] (fun f vs => PySem.call f vs) := by
  refine Att.attach_call hn hdf fun w s0 s1 mg mb fa o pm cd doc a vs ns G Y ho hd hcd hmg hobj hints hlen hgn => ?_
  have KX := hY w _ Y
  obtain ⟨fd, C, hb, hF⟩ := F w mg fa _ KX G.T.g hmg
  exact law_callG KX G.T.g G.T.b G.T.builtins G.T.nolimit hgn hobj hints (Nat.le_trans hlen hn2) hr hF hb (fun H hO hS => law_end hS (hg ns hlen))
end Ev
namespace Ev
open PySem PySem.Spec L2

/-! ### loops over a list of the store, as it stands at each turn -/
def itemAt (S : Store) (x : D) (i : Nat) : Option (Option D) := match x with
  | .loc n => match S[n]? with
    | some (.lst xs) => some xs[i]?
    | _ => none
  | .lst xs => some xs[i]?
  | .tup xs => some xs[i]?
  | _ => none
def okIt (S : Store) : D → Bool
  | .loc n => match S[n]? with
    | some (.lst _) => true
    | _ => false
  | .lst _ => true
  | .tup _ => true
  | _ => false
def forV (t : Tg) (body : RS) (x : D) : Nat → Nat → RS
  | 0, _, _, _ => .bad
  | k + 1, i, e, S => match itemAt S x i with
    | none => .bad
    | some none => .nx e S
    | some (some d) => match bindT S d e t with
      | none => .bad
      | some e1 => (body e1 S).andThen (forV t body x k (i + 1))
def rLive (a : RE) : RE := fun e S => (a e S).bind fun d S1 => if okIt S1 d = true then .ok d S1 else .bad
def sForV (a : RE) (t : Tg) (body : RS) (k : Nat) : RS := fun e S => (rLive a e S).fl e fun x S1 => forV t body x k 0 e S1
/-- the walk J goes through the thing x, as it stands -/
def WkV (K : PySem.W.Frag) (C : Nat → Addr) : Io → Hp → D → It → Prop := fun io F x J =>
  ∀ (io' : Io) (H' : Hp) (S' : Store), (∀ (n : Nat) (a : Addr), io.l[n]? = some a → io'.l[n]? = some a) → Same F (Fz io' H') → Den K C io' S' H' →
    ∀ i, (itemAt S' x i = some none → J.stop i H') ∧ ∀ d, itemAt S' x i = some (some d) → J.go i H' ∧ ∀ v H'', J.yld i H' v H'' → Ext io' H' io' H'' ∧ Den K C io' S' H'' ∧ Rep K C io' (Fz io' H'') d v
theorem wkV_loc {K : PySem.W.Frag} {C : Nat → Addr} {io : Io} {F : Hp} {a : Addr} {n : Nat} (h : io.l[n]? = some a) : WkV K C io F (.loc n) (Itl K a) := fun io' H' S' hp hs dn i => by
  have ha := hp n a h
  cases hS : S'[n]? with
  | none => exact ⟨fun z => by simp [itemAt, hS] at z, fun d z => by simp [itemAt, hS] at z⟩
  | some o =>
    cases o with
    | lst xs =>
      obtain ⟨vs, h1, h2⟩ := dn.obj n _ a hS ha
      refine ⟨fun z => ?_, fun d z => ?_⟩
      · simp only [itemAt, hS, Option.some.injEq] at z
        refine ⟨vs, .of h1, ?_⟩
        rw [← h2.length]
        exact List.getElem?_eq_none_iff.mp z
      · simp only [itemAt, hS, Option.some.injEq] at z
        obtain ⟨v, e1, e2⟩ := h2.get z
        refine ⟨⟨vs, v, .of h1, e1⟩, fun u H'' y => ?_⟩
        obtain ⟨rfl, y⟩ := y
        have e3 := y vs (.of h1)
        rw [e1] at e3
        cases e3
        exact ⟨Ext.refl _ _, dn, e2⟩
    | dK ks xs => exact ⟨fun z => by simp [itemAt, hS] at z, fun d z => by simp [itemAt, hS] at z⟩
    | ins c ns xs => exact ⟨fun z => by simp [itemAt, hS] at z, fun d z => by simp [itemAt, hS] at z⟩
theorem wkV_lst {K : PySem.W.Frag} {C : Nat → Addr} {io : Io} {F : Hp} {a : Addr} {vs : List V} {ds : List D} (h : SqL K F a vs) (r : Reps K C io F ds vs) : WkV K C io F (.lst ds) (Itl K a) := fun io' H' S' hp hs dn i => by
  have h' : SqL K H' a vs := (Fz_same _ _).seq (hs.seq h)
  refine ⟨fun z => ⟨vs, h', ?_⟩, fun d z => ?_⟩
  · rw [← r.length]
    exact List.getElem?_eq_none_iff.mp (Option.some.inj z)
  · have z' : ds[i]? = some d := Option.some.inj z
    obtain ⟨v, e1, e2⟩ := r.get z'
    refine ⟨⟨vs, v, h', e1⟩, fun u H'' y => ?_⟩
    obtain ⟨rfl, y⟩ := y
    have e3 := y vs h'
    rw [e1] at e3
    cases e3
    exact ⟨Ext.refl _ _, dn, e2.mono hp hs⟩
theorem wkV_tup {K : PySem.W.Frag} {C : Nat → Addr} {io : Io} {F : Hp} {a : Addr} {vs : List V} {ds : List D} (h : SqT K F a vs) (r : Reps K C io F ds vs) : WkV K C io F (.tup ds) (Itt K a) := fun io' H' S' hp hs dn i => by
  have h' : SqT K H' a vs := sqT_same (Fz_same _ _) (sqT_same hs h)
  refine ⟨fun z => ⟨vs, h', ?_⟩, fun d z => ?_⟩
  · rw [← r.length]
    exact List.getElem?_eq_none_iff.mp (Option.some.inj z)
  · have z' : ds[i]? = some d := Option.some.inj z
    obtain ⟨v, e1, e2⟩ := r.get z'
    refine ⟨⟨vs, v, h', e1⟩, fun u H'' y => ?_⟩
    obtain ⟨rfl, y⟩ := y
    have e3 := y vs h'
    rw [e1] at e3
    cases e3
    exact ⟨Ext.refl _ _, dn, e2.mono hp hs⟩
section
variable {X : Cx} {C : Nat → Addr} {W : WX} {tg a : Expr} {ra : RE}
theorem ei_live (ha : PE X a (tE X.K C W ra)) : PI X tg a (tR X.K C (WkV X.K C) W (rLive ra)) := by
  have hi : PI X tg a (fun sg H R => tE X.K C W ra sg H fun x H1 => (∃ p, x = .ref p ∧ (∃ xs, SqL X.K H1 p xs) ∧ R (Itl X.K p) H1) ∨ (∃ p, x = .ref p ∧ (∃ xs, SqT X.K H1 p xs) ∧ R (Itt X.K p) H1)) := by
    refine ⟨fun pins s sg H R I h => ?_⟩
    refine thn (ha.run pins s sg H _ I h) fun v s1 ⟨x, H1, I1, r1, q1⟩ => ?_
    rcases q1 with ⟨p, rfl, ⟨xs, hq⟩, q⟩ | ⟨p, rfl, ⟨xs, hq⟩, q⟩
    · cases r1
      obtain ⟨its, rv, pl, hz⟩ := I1.list hq
      refine wpAny_pyIter_list pl.isList ?_
      refine ⟨s1.heap.objs.size, [s1.heap.objs.size], _, _, H1, rfl, I1.kept (t' := s1.toks) fun b o e => Heap.get?_push_of_some _ e, turn_list p _, ⟨_, Heap.get?_push_size _ rfl, rfl, rfl⟩, fun b hb => ?_, q⟩
      have e : b = s1.heap.objs.size := by simpa using hb
      subst e
      exact I1.fpOk (Nat.le_refl _) (I1.hok.fresh (Nat.le_refl _))
    · cases r1
      obtain ⟨its, rv, pl, hz⟩ := I1.tuple hq
      refine wpAny_pyIter_tuple (show s1.heap.IsTuple p its.toArray from pl) ?_
      refine ⟨s1.heap.objs.size, [s1.heap.objs.size], _, _, H1, rfl, I1.kept (t' := s1.toks) fun b o e => Heap.get?_push_of_some _ e, turn_tuple p _, ⟨_, Heap.get?_push_size _ rfl, rfl, rfl⟩, fun b hb => ?_, q⟩
      have e : b = s1.heap.objs.size := by simpa using hb
      subst e
      exact I1.fpOk (Nat.le_refl _) (I1.hok.fresh (Nat.le_refl _))
  refine hi.imp fun sg H R h => (tR.seq1 (R := RepR X.K C) (fun _ d S => if okIt S d = true then .ok d S else .bad) h fun _ _ => rfl).mono fun x H1 ⟨e, S, io, d, dn, s, r, p⟩ => ?_
  by_cases hk : okIt S d = true
  · rw [if_pos hk] at p
    cases r with
    | tup q rs => exact .inr ⟨_, rfl, ⟨_, sqT_same (Fz_same _ _) q⟩, p _ H1 io (Ext.refl _ _) dn (wkV_tup q rs)⟩
    | lst q rs => exact .inl ⟨_, rfl, ⟨_, (Fz_same _ _).seq q⟩, p _ H1 io (Ext.refl _ _) dn (wkV_lst q rs)⟩
    | @loc n a q =>
      simp only [okIt] at hk
      split at hk
      · rename_i xs e1
        obtain ⟨vs, h1, h2⟩ := dn.obj n _ a e1 q
        exact .inl ⟨_, rfl, ⟨vs, .of h1⟩, p _ H1 io (Ext.refl _ _) dn (wkV_loc q)⟩
      · cases hk
    | _ => cases hk
  · rw [if_neg hk] at p
    exact p.elim
end
section
variable {X : Cx} {C : Nat → Addr} {W : WX} {tg iter : Expr} {ra : RE} {body : List Stmt} {mb : RS} {t : Tg} {pos : Pos}
theorem s_forV (k : Nat) (hp : PassesOwn (model X.prog X.w) X.A X.env X.xe) (hc : X.calm = true) (hi : PI X tg iter (tR X.K C (WkV X.K C) W (rLive ra))) (hg : GD X C tg t) (hb : PSs X body (tS X.K C W mb)) (hs : ∀ x, foldedSetIterable iter X.env x = pure x := by intro _; rfl) :
    PS X (.For tg iter body [] pos) (tS X.K C W (sForV ra t mb k)) :=
  (ps_for hp hc hi hg hb hs).imp fun Dn sg H h => (tS.seq (R := WkV X.K C) (fun e x S1 => forV t mb x k 0 e S1) h fun _ _ => rfl).mono fun J H1 ⟨e, S, io, x, dn, s, wk, p⟩ => by
    refine ⟨fun i m sg' H' => ∃ e' S' io', Ext io H1 io' H' ∧ Den X.K C io' S' H' ∧ Slots X.K C io' (Fz io' H') e' sg' ∧ PostS X.K C W io' H' (forV t mb x m i e' S') Dn,
      ⟨k, e, S, io, Ext.refl _ _, dn, s, p⟩, fun i m sg' H' ⟨e', S', io', x', d', s', p'⟩ => ?_⟩
    obtain ⟨stop, step⟩ := wk io' H' S' x'.pre x'.same d' i
    cases m with
    | zero => exact p'.elim
    | succ m =>
      unfold forV at p'
      cases hq : itemAt S' x i with
      | none => rw [hq] at p'; exact p'.elim
      | some o =>
        rw [hq] at p'
        cases o with
        | none => exact .inl ⟨stop hq, p' sg' H' io' (Ext.refl _ _) d' s'⟩
        | some d =>
          obtain ⟨go, yld⟩ := step d hq
          refine .inr ⟨go, fun sg2 H2 => ∃ e2 S2 io2, Ext io H1 io2 H2 ∧ Den X.K C io2 S2 H2 ∧ Slots X.K C io2 (Fz io2 H2) e2 sg2 ∧ PostS X.K C W io2 H2 (forV t mb x m (i + 1) e2 S2) Dn, fun sg2 H2 h2 => ⟨m, by omega, h2⟩, fun v H2 y => ?_⟩
          obtain ⟨x2, d2, r2⟩ := yld v H2 y
          cases hb : bindT S' d e' t with
          | none => simp only [hb] at p'; exact p'.elim
          | some e1 =>
            simp only [hb] at p'
            refine ⟨e', S', io', d, e1, d2, s'.ext x2, r2, hb, fun sg3 s3 _ => ⟨e1, S', io', d2, s3, ?_⟩⟩
            have p2 := PostS.ext x2 p'
            cases q : mb e1 S' with
            | nx e4 S4 =>
              simp only [q, Fl.andThen] at p2
              exact fun sg4 H4 io4 x4 d4 s4 => ⟨e4, S4, io4, (x'.trans x2).trans x4, d4, s4, PostS.ext x4 p2⟩
            | rt d4 S4 => simp only [q, Fl.andThen] at p2; exact p2
            | er x4 e4 S4 => simp only [q, Fl.andThen] at p2; exact p2
            | bad => simp only [q, Fl.andThen] at p2; exact p2
end
end Ev
namespace Ev
open PySem PySem.Spec L2
/-! ### try .. except X: without a name -/
def Fl.noEr : Fl → Fl
  | .er _ _ _ => .bad
  | f => f
def catchOnly (sub : Nat → Option Bool) (suite : RS) (x : Exn) (e : Env) (S : Store) : Fl := match sub x.c with
  | some true => (suite e S).noEr
  | some false => .er x e S
  | none => .bad
def sTryOnly (sub : Nat → Option Bool) (body suite : RS) : RS := fun e S => match body e S with
  | .er x e1 S1 => catchOnly sub suite x e1 S1
  | f => f
theorem s_try_only {X : Cx} {C : Nat → Addr} {W : WX} {x : Str} {c : Value} {body suite : List Stmt} {b0 : Stmt} {np pos pos' : Pos} {mb ms : RS} {sub : Nat → Option Bool} (hs : X.stack = X.env :: X.outer) (hf : X.env.frame = some X.env.locals) (hc : Names X x c) (tk : Takes X W)
    (hsub : ∀ y b, sub y = some b → PySem.W.exmOne X.K (.ref (C y)) c = some b)
    (hb : ∀ (W : WX) (pn : List (Addr × Obj)) (xe : Value → Shared → Prop), Takes (X.tr pn xe) W → PassesOwn (model X.prog X.w) X.A X.env xe → PSs (X.tr pn xe) body (tS X.K C W mb))
    (hsu : ∀ (a : Addr) (pn : List (Addr × Obj)), PSs (X.suite a pn) (b0 :: suite) (tS X.K C (fun _ _ _ _ => False) ms)) :
    PS X (.Try body [.ExceptHandler (some (.Name x np)) none (b0 :: suite) pos'] [] [] pos) (tS X.K C W (sTryOnly sub mb ms)) :=
  (ps_try_only (ts := fun _ _ _ => tS X.K C (fun _ _ _ _ => False) ms) hs hf hc tk hb (fun a oe cls d pn _ _ => hsu a ((a, oe) :: pn))).imp fun Dn sg H h => by
    obtain ⟨e0, S0, io0, dn0, sl0, p0⟩ := h
    refine ⟨e0, S0, io0, dn0, sl0, ?_⟩
    unfold sTryOnly at p0
    cases q : mb e0 S0 with
    | nx e1 S1 => rw [q] at p0; exact p0
    | rt d1 S1 => rw [q] at p0; exact p0
    | bad => rw [q] at p0; exact p0
    | er x e1 S1 =>
      rw [q] at p0
      intro cls dd sg' H' io' xx d' s' xr
      have pc := PostS.ext xx p0
      obtain ⟨rfl, _⟩ := id xr
      cases eb : sub x.c with
      | none => simp only [catchOnly, eb] at pc; exact pc.elim
      | some b =>
        refine ⟨b, hsub _ _ eb, fun hbt a _ => ?_, fun hbf => ?_⟩
        · subst hbt
          simp only [catchOnly, eb] at pc
          refine ⟨e1, S1, io', d', s', ?_⟩
          cases z : ms e1 S1 with
          | nx e2 S2 => rw [z] at pc; exact pc
          | rt d2 S2 => rw [z] at pc; exact pc
          | er y e2 S2 => rw [z] at pc; exact pc.elim
          | bad => rw [z] at pc; exact pc.elim
        · subst hbf
          simp only [catchOnly, eb] at pc
          exact pc _ dd sg' H' io' (Ext.refl _ _) d' s' xr
end Ev
namespace Ev
open PySem PySem.Spec L2 PyProof.Rows

/-! ### list(text) -/
def listT (S : Store) : List D → Option D
  | [.str x] => if x.length ≤ sizeLine then some (.lst (signsD x)) else none
  | as => listD S as
theorem reps_signs {K : PySem.W.Frag} {C : Nat → Addr} {io : Io} {F : Hp} : ∀ l : List Nat, Reps K C io F (l.map fun c => D.str ⟨#[c]⟩) (l.map fun c => V.str ⟨#[c]⟩)
  | [] => .nil
  | c :: l => .cons (.str _) (reps_signs l)
theorem listT_ok {X : Cx} {C : Nat → Addr} (hc : X.calm = true) : CallD X C (.type "list") listT := fun pins s sg H xs us Q I rx ⟨io, S, as, d, dn, ra, e, q⟩ => by
  unfold listT at e
  split at e
  · rename_i x
    split at e
    · rename_i hz
      cases e
      obtain ⟨v, rfl, rv⟩ := reps1 ra
      cases rv
      obtain ⟨u, rfl, ru⟩ := vals1 rx
      obtain ⟨t, rfl⟩ := ru
      refine call_list_str (I.ok.hd hc) x t (hn := hz) fun h' tk acc' c' hk hS hacc => ?_
      have el : acc'.toList.length = acc'.size := by simp
      have hl : (x.cps.toList.map fun c => V.str ⟨#[c]⟩).length = x.length := by simp; rfl
      obtain ⟨x1, d1, r1⟩ := new_lst (xs := signsD x) (vs := x.cps.toList.map fun c => V.str ⟨#[c]⟩) dn (reps_signs _) (I.hok.fresh (Nat.le_refl s.heap.objs.size))
      refine ⟨.ref s.heap.objs.size, upd H s.heap.objs.size (.lst (x.cps.toList.map fun c => V.str ⟨#[c]⟩)), I.laid hk (Nat.le_refl _) (show ObjOk X.prog X.w _ _ _ (.lst (x.cps.toList.map fun c => V.str ⟨#[c]⟩)) from ⟨by rw [hl]; exact hz, acc'.toList, c', ?_, ?_⟩), rfl, q _ _ io x1 d1 r1⟩
      · refine vals_of_at (by rw [hl, el, hacc.1]; rfl) fun j y w h1 h2 => ?_
        obtain ⟨c, u, hcx, rfl⟩ := hacc.2 j w (by rw [← Array.getElem?_toList]; exact h2)
        rw [List.getElem?_map, Array.getElem?_toList, hcx] at h1
        cases h1
        exact ⟨u, rfl⟩
      · rw [Array.toArray_toList]; exact hS
    · cases e
  · exact listD_ok pins s sg H xs us Q I rx ⟨io, S, as, d, dn, ra, e, q⟩
end Ev
namespace Ev
open PySem PySem.Spec L2

/-! ### comprehensions over a list of the store, as it stands at each turn -/
def lcV (t : Tg) (c : RT) (elt : RE) (e0 : Env) (x : D) : Nat → Nat → Store → Res (List D)
  | 0, _, _ => .bad
  | k + 1, i, S => match itemAt S x i with
    | none => .bad
    | some none => .ok [] S
    | some (some d) => match bindT S d e0 t with
      | none => .bad
      | some e1 => (c e1 S).bind fun b S1 => if b = true then (elt e1 S1).bind fun y S2 => (lcV t c elt e0 x k (i + 1) S2).bind fun ys S3 => .ok (y :: ys) S3 else lcV t c elt e0 x k (i + 1) S1
def rLcV (fin : List D → Store → Res D) (a : RE) (t : Tg) (vs : List Nat) (c : RT) (elt : RE) (k : Nat) : RE := fun e S => (rLive a e S).bind fun x S1 => if k ≤ sizeLine then (lcV t c elt (wipeE e vs) x k 0 S1).calm.bind fin else .bad
section
variable {X : Cx} {C : Nat → Addr} {W : WX} {elt tg iter : Expr} {ifs : List Expr} {scope : Scope} {own : List (Str × Nat)} {pos : Pos} {ra : RE} {t : Tg} {rc : RT} {re : RE} {fin : List D → Store → Res D}
theorem lcV_read (k : Nat) (hfin : FinOk fin) (sg : L2.St) (H : Hp) (Q : VK) (vs : List Nat) (hv : ∀ i ∈ t.ixs, i ∈ vs) (h : tE X.K C W (rLcV fin ra t vs rc re k) sg H Q) :
    tLc (tR X.K C (WkV X.K C) W (rLive ra)) (gTg X.K C t)
      (tT X.K C (fun _ _ _ _ => False) rc) (tE X.K C (fun _ _ _ _ => False) re) vs sg H Q := by
  refine (tR.seq1 (R := WkV X.K C) (fun e x S1 => if k ≤ sizeLine then (lcV t rc re (wipeE e vs) x k 0 S1).calm.bind fin else .bad) h fun _ _ => rfl).mono fun J H1 ⟨e, S, io, x, dn, sl, wk, post⟩ => ?_
  split at post
  · rename_i hz
    intro p hp
    let Done : List D → Store → Prop := fun ys S2 => Post X.K C (RepR X.K C) W sg io H1 (fin ys S2) Q
    refine ⟨fun i m H' => m + i = k ∧ ∃ S' io' acc ys, (∀ (n : Nat) (a : Addr), io.l[n]? = some a → io'.l[n]? = some a) ∧ io'.h = io.h ∧ Same (Fz io H1) (Fz (io'.hide p (.lst acc)) H') ∧
        Den X.K C (io'.hide p (.lst acc)) S' H' ∧ Reps X.K C io' (Fz (io'.hide p (.lst acc)) H') ys acc ∧ acc.length ≤ i ∧ ∃ zs S2, lcV t rc re (wipeE e vs) x m i S' = .ok zs S2 ∧ Done (ys ++ zs) S2,
      ⟨k, rfl, S, io, [], [], fun _ _ h => h, rfl, by rw [Fz_hide hp]; exact fun _ _ h => h, dn.hide hp rfl, .nil, Nat.le_refl _, ?_⟩, fun i m H' ⟨hm, S', io', acc, ys, h1, h2, h3, d', rs, hl, zs, S2, hlc, hd⟩ => ?_⟩
    · cases q : lcV t rc re (wipeE e vs) x k 0 S with
      | ok zs S2 => rw [q] at post; exact ⟨zs, S2, rfl, post⟩
      | err x S2 => rw [q] at post; exact post.elim
      | bad => rw [q] at post; exact post.elim
    obtain ⟨stop, step⟩ := wk (io'.hide p (.lst acc)) H' S' h1 h3 d' i
    cases m with
    | zero => cases hlc
    | succ m =>
    unfold lcV at hlc
    cases hq : itemAt S' x i with
    | none => rw [hq] at hlc; cases hlc
    | some o =>
    rw [hq] at hlc
    cases o with
    | none =>
      cases hlc
      rw [List.append_nil] at hd
      exact .inl ⟨stop hq, hfin X.K C W sg io io' H1 H' S' p ys acc Q h1 h2 h3 d' rs hd⟩
    | some d =>
      obtain ⟨go, yld⟩ := step d hq
      refine .inr ⟨go, fun H2 => ∃ S' io' acc ys, (∀ (n : Nat) (a : Addr), io.l[n]? = some a → io'.l[n]? = some a) ∧ io'.h = io.h ∧ Same (Fz io H1) (Fz (io'.hide p (.lst acc)) H2) ∧
        Den X.K C (io'.hide p (.lst acc)) S' H2 ∧ Reps X.K C io' (Fz (io'.hide p (.lst acc)) H2) ys acc ∧ acc.length ≤ i + 1 ∧ ∃ zs S2, lcV t rc re (wipeE e vs) x m (i + 1) S' = .ok zs S2 ∧ Done (ys ++ zs) S2, fun H2 h2 => ⟨m, by omega, by omega, h2⟩, fun v0 H2 y => ?_⟩
      obtain ⟨x2, d2, r2⟩ := yld v0 H2 y
      cases hb : bindT S' d (wipeE e vs) t with
      | none => simp only [hb] at hlc; cases hlc
      | some e1 =>
        simp only [hb] at hlc
        have hs2 : Slots X.K C (io'.hide p (.lst acc)) (Fz (io'.hide p (.lst acc)) H2) (wipeE e vs) (wipe sg vs) := by
          have s0 := sl.wipe vs
          refine ⟨s0.len, fun j q hq => ?_⟩
          obtain ⟨v, v1, v2⟩ := s0.get j q hq
          exact ⟨v, v1, (v2.mono (io' := io'.hide p (.lst acc)) h1 h3).mono (fun _ _ z => z) x2.same⟩
        refine ⟨wipeE e vs, S', io'.hide p (.lst acc), d, e1, d2, hs2, r2, hb, fun sg3 s3 ag => ⟨?_, e1, S', io'.hide p (.lst acc), d2, s3, ?_⟩⟩
        · rw [ag vs hv]
          have : ∀ s : L2.St, wipe (wipe s vs) vs = wipe s vs := fun s => by
            apply List.ext_getElem?
            intro j
            rw [wipe_get, wipe_get, wipe_length]
            by_cases hj : j ∈ vs <;> simp [hj]
          exact this sg
        cases hc : rc e1 S' with
        | err y Sy => rw [hc] at hlc; cases hlc
        | bad => rw [hc] at hlc; cases hlc
        | ok k S3 =>
          rw [hc] at hlc
          intro b H3 io3 x3 d3 eb
          cases eb
          have hh3 : io3.h = (p, HO.lst acc) :: io'.h := x3.hid
          have e3 : io3 = (⟨io3.l, io'.h⟩ : Io).hide p (.lst acc) := by unfold Io.hide; rw [← hh3]
          cases k with
          | false =>
            replace hlc : lcV t rc re (wipeE e vs) x m (i + 1) S3 = .ok zs S2 := hlc
            rw [if_neg Bool.false_ne_true]
            have px := x2.trans x3
            refine ⟨S3, ⟨io3.l, io'.h⟩, acc, ys, fun n a hn => px.pre n a (h1 n a hn), h2, ?_, ?_, ?_, by omega, zs, S2, hlc, hd⟩
            · rw [← e3]; exact h3.trans px.same
            · rw [← e3]; exact d3
            · rw [← e3]; exact rs.mono (io := io') (io' := ⟨io3.l, io'.h⟩) px.pre px.same
          | true =>
            replace hlc : ((re e1 S3).bind fun y S2 => (lcV t rc re (wipeE e vs) x m (i + 1) S2).bind fun ys S3 => Res.ok (y :: ys) S3) = .ok zs S2 := hlc
            rw [if_pos rfl]
            refine ⟨e1, S3, io3, d3, s3.ext x3, ?_⟩
            cases he : re e1 S3 with
            | err y Sy => rw [he] at hlc; cases hlc
            | bad => rw [he] at hlc; cases hlc
            | ok y1 S4 =>
              rw [he] at hlc
              replace hlc : ((lcV t rc re (wipeE e vs) x m (i + 1) S4).bind fun ys S3 => Res.ok (y1 :: ys) S3) = .ok zs S2 := hlc
              intro v H4 io4 x4 d4 r4
              have hh4 : io4.h = (p, HO.lst acc) :: io'.h := x4.hid.trans hh3
              have e4 : io4 = (⟨io4.l, io'.h⟩ : Io).hide p (.lst acc) := by unfold Io.hide; rw [← hh4]
              have px := (x2.trans x3).trans x4
              have hD : H4 p = some (.lst acc) := (d4.hid (p, .lst acc) (by rw [hh4]; exact List.mem_cons_self)).1
              refine ⟨acc, hD, by omega, ?_⟩
              cases hr : lcV t rc re (wipeE e vs) x m (i + 1) S4 with
              | err q Sq => rw [hr] at hlc; cases hlc
              | bad => rw [hr] at hlc; cases hlc
              | ok zs' S5 =>
                rw [hr] at hlc
                cases hlc
                have fz : Fz ((⟨io4.l, io'.h⟩ : Io).hide p (.lst (acc ++ [v]))) (upd H4 p (.lst (acc ++ [v]))) = Fz io4 H4 := by
                  rw [Fz_hide_put (o := .lst acc), ← e4]
                refine ⟨S4, ⟨io4.l, io'.h⟩, acc ++ [v], ys ++ [y1], fun n a hn => px.pre n a (h1 n a hn), h2, ?_, ?_, ?_, by simp; omega, zs', S2, hr, by rw [List.append_assoc]; exact hd⟩
                · rw [fz]; exact h3.trans px.same
                · rw [e4] at d4
                  exact d4.rehide rfl
                · rw [fz]
                  exact (rs.mono (io := io') (io' := ⟨io4.l, io'.h⟩) px.pre px.same).append (.cons (r4.mono (io := io4) (io' := ⟨io4.l, io'.h⟩) (fun _ _ z => z) fun _ _ z => z) .nil)
  · exact post.elim
theorem ee_lcV (k : Nat) {vs : List Nat} (hfin : FinOk fin) (hc : X.calm = true) (hN : X.N.Nodup) (hi : PI X tg iter (tR X.K C (WkV X.K C) W (rLive ra))) (ok : BlkOk X.N X.env.scope scope own) (hw : own.map (·.2) = vs) (hv : ∀ i ∈ t.ixs, i ∈ vs)
    (hg : ∀ (s : Shared) (H : Hp) (A : Addr) (cl : List (Str × Addr)) (fp : List Addr), GD (X.blk s H scope (compEnvC scope cl A X.env) fp) C tg t)
    (ht : ∀ (s : Shared) (H : Hp) (A : Addr) (cl : List (Str × Addr)) (fp : List Addr), PTs (X.blk s H scope (compEnvC scope cl A X.env) fp) ifs (tT X.K C (fun _ _ _ _ => False) rc))
    (he : ∀ (s : Shared) (H : Hp) (A : Addr) (cl : List (Str × Addr)) (fp : List Addr), PE (X.blk s H scope (compEnvC scope cl A X.env) fp) elt (tE X.K C (fun _ _ _ _ => False) re)) (hs : ∀ x, foldedSetIterable iter X.env x = pure x := by intro _; rfl) :
    PE X (.ListComp elt [⟨tg, iter, ifs, 0⟩] scope pos) (tE X.K C W (rLcV fin ra t vs rc re k)) := by
  subst hw
  exact (pe_lc (g := gTg X.K C t) hc hN hi ok hg ht he hs).imp fun sg H Q h => lcV_read k hfin sg H Q _ hv h
theorem s_setLcV (i k : Nat) {vs : List Nat} {y : Str} {py spos : Pos} (hfin : FinOk fin) (hc : X.calm = true) (hN : X.N.Nodup) (hsw : swapsWith (.ListComp elt [⟨tg, iter, ifs, 0⟩] scope pos) (some (.Name y py)) spos.line X.env = pure true)
    (hi : PI X tg iter (tR X.K C (WkV X.K C) W (rLive ra))) (ok : BlkOk X.N X.env.scope scope own) (hw : own.map (·.2) = vs) (hv : ∀ i ∈ t.ixs, i ∈ vs)
    (hg : ∀ (s : Shared) (H : Hp) (A : Addr) (cl : List (Str × Addr)) (fp : List Addr), GD (X.blk s H scope (compEnvC scope cl A X.env) fp) C tg t)
    (ht : ∀ (s : Shared) (H : Hp) (A : Addr) (cl : List (Str × Addr)) (fp : List Addr), PTs (X.blk s H scope (compEnvC scope cl A X.env) fp) ifs (tT X.K C (fun _ _ _ _ => False) rc))
    (he : ∀ (s : Shared) (H : Hp) (A : Addr) (cl : List (Str × Addr)) (fp : List Addr), PE (X.blk s H scope (compEnvC scope cl A X.env) fp) elt (tE X.K C (fun _ _ _ _ => False) re)) (hs : ∀ x, foldedSetIterable iter X.env x = pure x := by intro _; rfl)
    (hy : X.N[i]? = some y := by rfl) (hyl : X.env.scope.names.lookup y = some .local := by rfl) :
    PS X (.Assign [.Name y py] (.ListComp elt [⟨tg, iter, ifs, 0⟩] scope pos) spos) (tS X.K C W (sSet i (rLcV fin ra t vs rc re k))) := by
  subst hw
  exact (ps_setLc (g := gTg X.K C t) hc hN hy hyl hsw hi ok hg ht he hs).imp fun Dn sg H h => lcV_read k hfin sg H _ _ hv ((tS.seq (R := RepR X.K C) (fun e d S1 => .nx (e.set i (some d)) S1) h fun _ _ => rfl).mono fun v H1 ⟨e, S, io, k1, d, s, q, p⟩ => p _ H1 io (Ext.refl _ _) d (s.set i q))
end
/-! ### two lists glued to a list of the store -/
def rAddM (a b : RE) : RE := fun e S => (a e S).bind fun x S1 => (b e S1).bind fun y S2 => match asL S2 x, asL S2 y with
  | some xs, some ys => if xs.length + ys.length ≤ sizeLine then .ok (.loc S2.length) (S2 ++ [.lst (xs ++ ys)]) else .bad
  | _, _ => .bad
section
variable {X : Cx} {C : Nat → Addr} {W : WX} {a b : Expr} {ra rb : RE} {pos : Pos}
theorem ee_addM (ha : PE X a (tE X.K C W ra)) (hb : PE X b (tE X.K C W rb)) : PE X (.BinOp a .Add b pos) (tE X.K C W (rAddM ra rb)) :=
  (pe_op op_catL ha hb).imp fun sg H Q h => (tR.seq2 repM (fun _ x y S2 => match asL S2 x, asL S2 y with
  | some xs, some ys => if xs.length + ys.length ≤ sizeLine then .ok (.loc S2.length) (S2 ++ [.lst (xs ++ ys)]) else .bad
  | _, _ => .bad) h fun _ _ => rfl).mono fun x H1 h1 => h1.mono fun y H2 ⟨e, S, io, x1, y1, dn, s, r1, r2, p⟩ => by
    split at p
    · rename_i xs ys e1 e2
      split at p
      · rename_i hz
        obtain ⟨p1, v1, rfl, h1, r1⟩ := asL_rep e1 dn r1
        obtain ⟨p2, v2, rfl, h2, r2⟩ := asL_rep e2 dn r2
        have l1 := r1.length
        have l2 := r2.length
        refine ⟨_, _, _, _, rfl, rfl, h1, h2, by omega, fun q hq => ?_⟩
        obtain ⟨x1, d1, r1⟩ := new_lstM dn (r1.append r2) hq
        exact p _ _ _ x1 d1 r1
      · exact p.elim
    · exact p.elim
end
end Ev
namespace Ev
open PySem PySem.Spec L2 PyProof.Rows

/-! ### tuple(text) -/
section
variable {prog : Program} {w : World} {A : Around} {E : Value → Shared → Prop} {s : Shared}
theorem code_tuple_new_str {Q₁ : Value → Shared → Prop} (hh : A.handled = none) (x : Str) (t : Tok)
    (h : ∀ (s' : Shared) (acc : Array Value), (∀ b o, s.heap.get? b = some o → s'.heap.get? b = some o) → s'.gens = s.gens → s'.drawn = s.drawn → s'.os = s.os → ItemsOf (SignAt x) acc x.cps.size → Q₁ (.ref s'.heap.objs.size) { s' with heap := s'.heap.push { cls := .type "tuple", data := .seq acc } }) (hn : x.cps.size ≤ sizeLine) :
    codeAny (model prog w) A (.call (.builtin "tuple.__new__") ⟨[.type "tuple", .str x t], []⟩) (wants Q₁ E) s := by
  refine codeAny_of_tree ?_
  show wpAny _ A.in1 (do checkBuiltinCall "tuple.__new__" ⟨[.type "tuple", .str x t], []⟩; again (.builtin "tuple.__new__" ⟨[.type "tuple", .str x t], []⟩)) _ _ s
  refine wpAny_bind (wpAny_of_eq (F.newCall_tuple_1 _) (wpAny_pure ⟨plainId_quiet F.plain_tuple_new _, codeAny_builtin F.entry_tuple_new ?_⟩))
  rw [Around.under_plainId F.plain_tuple_new _]
  have hsub := sub_tuple_self
  have hinit := init_tuple_lookup
  have hmh := madeHere_tuple
  have hTI : s.TypeIs (.str x t) "str" := typeIs_str _ _ _
  wp_walk using wpAny_typeOf hTI, wpAny_collect_str (hn := hn) (A := A.in1) hh x t
  intro s' acc h1 h2 h3 h4 hacc
  show wpAny _ _ (Builtin.Tuple.tupleExact acc.toList.toArray >>= fun v => ret v) _ _ _
  unfold Builtin.Tuple.tupleExact
  refine wpAny_bind (wpAny_newObj_type ?_ (by show acc.toList.toArray.size ≤ sizeLine; simp only [Array.toArray_toList]; rw [hacc.1]; exact hn))
  refine wpAny_pure ?_
  have e : acc.toList.toArray = acc := by simp
  rw [e]
  exact h s' acc h1 h2 h3 h4 hacc
theorem call_tuple_str {Q : Value → Shared → Prop} (hh : A.handled = none) (x : Str) (t : Tok)
    (h : ∀ (s' : Shared) (acc : Array Value), (∀ b o, s.heap.get? b = some o → s'.heap.get? b = some o) → s'.gens = s.gens → s'.drawn = s.drawn → s'.os = s.os → ItemsOf (SignAt x) acc x.cps.size → Q (.ref s'.heap.objs.size) { s' with heap := s'.heap.push { cls := .type "tuple", data := .seq acc } }) (hn : x.cps.size ≤ sizeLine) :
    wpAny (model prog w) A (call (.type "tuple") [.str x t]) Q E s := by
  refine callType_codes (Q₁ := fun obj s₁ => s₁.TypeIs obj "tuple" ∧ Q obj s₁) F.called_tuple (F.typeCall_tuple_1 _) F.entry_object_init
    (code_tuple_new_str (A := A.in1) hh x t (fun s' acc h1 h2 h3 h4 hacc => ⟨⟨_, Heap.get?_push_size _ rfl, rfl⟩, h s' acc h1 h2 h3 h4 hacc⟩) hn) fun obj s₁ h₁ => ?_
  exact ⟨h₁.1, F.args_object_init_2 obj _, object_init_meets F.called_tuple.init.lookup F.called_tuple.made (by decide) prog w A.in1 _ s₁ ⟨h₁.1, rfl, h₁.2⟩⟩
end
def tupleT (S : Store) : List D → Option D
  | [.str x] => if x.length ≤ sizeLine then some (.tup (signsD x)) else none
  | as => tupleD S as
theorem tupleT_ok {X : Cx} {C : Nat → Addr} (hc : X.calm = true) : CallD X C (.type "tuple") tupleT := fun pins s sg H xs us Q I rx ⟨io, S, as, d, dn, ra, e, q⟩ => by
  unfold tupleT at e
  split at e
  · rename_i x
    split at e
    · rename_i hz
      cases e
      obtain ⟨v, rfl, rv⟩ := reps1 ra
      cases rv
      obtain ⟨u, rfl, ru⟩ := vals1 rx
      obtain ⟨t, rfl⟩ := ru
      refine call_tuple_str (I.ok.hd hc) x t (fun s' acc h1 h2 h3 h4 hacc => ?_) hz
      have el : acc.toList.length = acc.size := by simp
      have hl : (x.cps.toList.map fun c => V.str ⟨#[c]⟩).length = x.length := by simp; rfl
      obtain ⟨hp', g', d', tk', os'⟩ := s'
      simp only at h2 h3 h4
      subst h2 h3 h4
      have I' : Inv X pins sg H { s with heap := hp', toks := tk' } := I.kept (t' := tk') h1
      obtain ⟨x1, d1, r1⟩ := new_tup (xs := signsD x) (vs := x.cps.toList.map fun c => V.str ⟨#[c]⟩) dn (reps_signs _) (I'.hok.fresh (Nat.le_refl hp'.objs.size))
      refine ⟨.ref hp'.objs.size, upd H hp'.objs.size (.tup (x.cps.toList.map fun c => V.str ⟨#[c]⟩)), I'.laid (t' := tk') (fun b o e => Heap.get?_push_of_some _ e) (Nat.le_refl _) (show ObjOk X.prog X.w _ _ _ (.tup (x.cps.toList.map fun c => V.str ⟨#[c]⟩)) from ⟨by rw [hl]; exact hz, acc.toList, ?_, ?_⟩), rfl, q _ _ io x1 d1 r1⟩
      · refine vals_of_at (by rw [hl, el, hacc.1]; rfl) fun j y w h1 h2 => ?_
        obtain ⟨c, u, hcx, rfl⟩ := hacc.2 j w (by rw [← Array.getElem?_toList]; exact h2)
        rw [List.getElem?_map, Array.getElem?_toList, hcx] at h1
        cases h1
        exact ⟨u, rfl⟩
      · rw [Array.toArray_toList]
        exact ⟨_, Heap.get?_push_size _ rfl, rfl, _, rfl⟩
    · cases e
  · exact tupleD_ok pins s sg H xs us Q I rx ⟨io, S, as, d, dn, ra, e, q⟩
/-! ### text[::-1] -/
def revS (x : Str) : Str := ⟨x.cps.toList.reverse.toArray⟩
theorem sliceBy_rev (x : Str) (u : Tok) : Txt.sliceBy x none none (-1, u) = revS x := by
  have h := step_rev_list x u
  generalize Txt.sliceBy x none none (-1, u) = y at h
  obtain ⟨⟨l⟩⟩ := y
  unfold revS
  congr 2
  rw [show (⟨⟨l⟩⟩ : Str).cps.toList = l from rfl] at h
  rw [h]
  apply List.ext_getElem
  · simp [Str.length]
  · intro i h1 h2
    simp [Str.length] at h1 h2 ⊢
    have h3 : x.cps.size - 1 - i < x.cps.size := by omega
    simp [Array.getD, h3]
def revD (S : Store) : D → Option D
  | .str x => if x.length ≤ sizeLine then some (.str (revS x)) else none
  | _ => none
theorem pe_revS {X : Cx} {e : Expr} {te : TE} {k : Nat} {p1 p2 p3 pos : Pos} (he : PE X e te) : PE X (.Subscript e (.Slice none none (some (.UnaryOp .USub (.Constant (.int 1) k p1) p2)) p3) pos) (fun σ H Q => te σ H fun x H1 => ∃ z, x = .str z ∧ z.length ≤ sizeLine ∧ Q (.str (revS z)) H1) := by
  refine ⟨fun pins s σ H Q I h => ?_⟩
  refine Subscript_ (thn (he.run pins s σ H _ I h) fun v s1 ⟨x, H1, I1, r1, q1⟩ => ?_)
  obtain ⟨z, ex, hx, q⟩ := q1
  subst ex
  obtain ⟨t, rfl⟩ := r1
  have hst : PO X (some (.UnaryOp .USub (.Constant (.int 1) k p1) p2)) (tPart (tUn (rU fun i => .int (-i)) (tC (.int 1)))) := po_some (pe_un un_neg pe_int)
  refine wpAny_Slice (thn (po_none.run pins s1 σ H1 (fun o H2 => o = none ∧ H2 = H1) I1 ⟨rfl, rfl⟩) fun vl s2 ⟨l, H2, I2, pl, el, e2⟩ => ?_)
  subst el e2
  refine thn (po_none.run pins s2 σ H2 (fun o H3 => o = none ∧ H3 = H2) I2 ⟨rfl, rfl⟩) fun vu s3 ⟨u, H3, I3, pu, eu, e3⟩ => ?_
  subst eu e3
  refine thn (hst.run pins s3 σ H3 (fun o H4 => o = some (-1) ∧ H4 = H3) I3 ⟨1, rfl, -1, rfl, rfl, rfl⟩) fun vs s4 ⟨o, H4, I4, ps, eo, e4⟩ => ?_
  subst eo e4
  have I5 : Inv X pins σ H4 { s4 with heap := s4.heap.push { cls := .type "slice", data := .fields #[vl, vu, vs] } } := I4.kept (t' := s4.toks) fun b ob q => Heap.get?_push_of_some _ q
  show wpAny (model X.prog X.w) X.A (subscriptTail e (.Slice none none (some (.UnaryOp .USub (.Constant (.int 1) k p1) p2)) p3) (.str z t) (.ref s4.heap.objs.size)) (EP X pins σ Q) X.xe { s4 with heap := s4.heap.push { cls := .type "slice", data := .fields #[vl, vu, vs] } }
  refine tail_any (ops := [.str z t, .ref s4.heap.objs.size]) (typeIs_str _ _ _) (F.slot_str_getitem.lookup) ?_ (by with_unfolding_all rfl)
  obtain ⟨l', rfl, hl'⟩ := IsPart.raw pl
  obtain ⟨u', rfl, hu'⟩ := IsPart.raw pu
  obtain ⟨st', rfl, hst'⟩ := IsPart.raw ps
  cases l' with
  | some p => cases hl'
  | none =>
  cases u' with
  | some p => cases hu'
  | none =>
  cases st' with
  | none => cases hst'
  | some st' =>
  obtain ⟨st0, stk⟩ := st'
  cases hst'
  refine wpAny_getItem_str_slice (l := none) (u := none) (st := some (-1, stk)) ⟨_, Heap.get?_push_size _ rfl, rfl, rfl⟩ rfl ?_
  have e5 : sliceMade z t none none (some (-1, stk)) = .str (revS z) := by
    rw [← sliceBy_rev z stk]
    rfl
  rw [e5]
  exact ⟨by show (revS z).cps.size ≤ sizeLine; unfold revS; simp; exact hx, .str _, H4, I5.tok _, ⟨_, rfl⟩, q⟩
theorem ee_revS {X : Cx} {C : Nat → Addr} {W : WX} {e : Expr} {re : RE} {k : Nat} {p1 p2 p3 pos : Pos} (he : PE X e (tE X.K C W re)) : PE X (.Subscript e (.Slice none none (some (.UnaryOp .USub (.Constant (.int 1) k p1) p2)) p3) pos) (tE X.K C W (rUn revD re)) :=
  (pe_revS he).imp fun sg H Q h => (tR.seq1 (fun _ x S => ofO (revD S x) S) h fun _ _ => rfl).mono fun x H1 ⟨e, S, io, x1, d, s, r1, p⟩ => by
    obtain ⟨z, ez, p⟩ := p.ofO
    unfold revD at ez
    split at ez
    · split at ez
      · cases ez
        cases r1
        exact ⟨_, rfl, by assumption, p _ H1 io (Ext.refl _ _) d (.str _)⟩
      · cases ez
    · cases ez
end Ev
namespace Ev
open PySem PySem.Spec L2 PyProof.Rows

/-! ### own exceptions with fields: class X(B): def __init__(self, a, ..): B.__init__(self, 'text'); self.f = a; .. -/
section
variable {X : Cx} {e : Expr} {es : List Expr} {ta : TA} {x : Str} {B : Addr} {p1 p2 pos : Pos}
/-- B.__init__(self, ..), B an own class over ValueError without an __init__ -/
structure BaseC (K : PySem.W.Frag) (B : Addr) : Prop where
  sp : PySem.W.specialIn K (.ref B) "__getattribute__" = some (some (.builtin "type.__getattribute__"))
  rd : PySem.W.readsIn K B (.type "type") = true
  vl : PySem.W.findCls K (.ref B) (.type "type") "__init__" = some (.val (.builtin "ValueError.__init__"))
theorem pe_ownInit {pl : Sem Bool} (hg : Gl X x) (hm : X.mg x = some (.ref B)) (b : BaseC X.K B) (ha : PA X (e :: es) ta)
    (hdb : (x == ("__debug__" : Str)) = false := by decide)
    (hc : eval (.Call (.Attribute (.Name x p1) "__init__" p2) (e :: es) [] pos) X.env = (do
      let ov ← eval (.Name x p1) X.env
      standAt p2.atName
      let (f, first) ← holding [ov] (getMethod ov "__init__" pl)
      callWith pos f first (backTo pos (starEach (e :: es) X.env)) (backToKw pos (keywordEach [] X.env))) := by rfl)
    (he : starEach (e :: es) X.env = (false, eval e X.env) :: starEach es X.env := by rfl) (hpl : (backTo pos (starEach es X.env)).any (·.1) = false := by rfl) :
    PE X (.Call (.Attribute (.Name x p1) "__init__" p2) (e :: es) [] pos) (tVeI X.K ta) := by
  refine ⟨fun pins s σ H Q I h => ?_⟩
  refine PySem.W.methodCall_KW (ld_glob I hg hm ?_ hdb) hc
  refine PySem.W.method_cls I.kIn b.sp (PySem.W.cls_value I.kIn b.rd b.vl (by decide +kernel) ?_)
  show wpAny _ _ (callWith pos (Value.builtin "ValueError.__init__") [] (backTo pos (starEach (e :: es) X.env)) []) _ _ _
  refine PyProof.Rows.callWith_method1 (thn (ha.run pos pins _ σ H _ (I.tok _) h) fun us s1 ⟨vs, H1, I1, r1, a, C, ws, ev, hl, T, ea, q⟩ => ?_) he hpl
  subst ev
  cases r1 with
  | @cons _ u0 _ ur ra rw' =>
    obtain rfl : u0 = Value.ref a := ra
    have hlen : ur.length ≤ sizeLine := by
      rw [← Paired.length rw', sizeLine_eq]
      omega
    exact oinit_ok T I1 ea hlen fun s' J => ⟨.non, H1, J, rfl, q⟩
end
/-- what an __init__ leaves: the fields, the last one first -/
def spI (K : PySem.W.Frag) (C : Addr) (ns : List Str) : Sp := fun vs H Q _ => ∃ a xs, vs = .ref a :: xs ∧ xs.length = ns.length ∧ OexC K C ∧ H a = some (exo a C none) ∧ ∀ dx, H dx = none → dx ≠ a → Q .non (upd (upd H dx (exd dx ((ns.zip xs).reverse))) a (exo a C (some dx)))
/-- what is said of a class with fields -/
structure FldC (K : PySem.W.Frag) (C fI : Addr) (ns : List Str) : Prop where
  ox : OexC K C
  ini : PySem.W.findIn K (.ref C) "__init__" = some (some (.ref fI))
  fn : PySem.W.typeIn K (.ref fI) = some (.type "function")
  no : ∀ f ∈ ns, PySem.W.findIn K (.ref C) f = some none
section
variable {P : Program} {w : World} {K : PySem.W.Frag} {mg : Str → Option Value} {base : Heap} {C fI B : Addr} {fd : FuncData} {st : Stmt} {qual : Str} {k : Nat}
theorem exd_upd {H : Hp} {a C dx : Addr} {fs gs : List (Str × V)} (h : H dx = none) (hn : dx ≠ a) : upd (upd (upd H dx (exd dx fs)) a (exo a C (some dx))) dx (exd dx gs) = upd (upd H dx (exd dx gs)) a (exo a C (some dx)) := by
  funext b
  by_cases hb : b = dx
  · subst hb; rw [upd_same, upd_ne hn, upd_same]
  · rw [upd_ne hb]
    by_cases ha : b = a
    · subst ha; rw [upd_same, upd_same]
    · rw [upd_ne ha, upd_ne ha, upd_ne hb, upd_ne hb]
/-- one field -/
theorem init1_ok {f y x : Str} (F : Fun K "__init__" qual st fI fd) (S : FnScope ["self", y] ["self", y] (defScope st)) (T : FldC K C fI [f])
    (hb : ∀ (cdv : Value) (A : Around) (outer : List PySem.Env) (s : Shared) (H : Hp) (E : XK),
      PSs (cxOf (L2.CX P w) P w K mg base ["self", y] qual (defScope st) fI cdv A outer s H E) (defBody st) (tSeq (tDrop (tVeI K (tCons (tVar 0) (tCons (tC (.str x)) tNil)))) (tOst K f (tVar 0) (tVar 1)))) :
    FnOk P w K mg base (L2.CX P w) (k + 1) fI fd ["self", y] (spI K C [f]) := by
  refine F.okX S (fun vs H Q E ⟨a, xs, ev, hl, _⟩ => by rw [ev]; simp [hl]) (fun cdv A outer s H vs Q E hr h => ?_)
  refine ⟨_, hb cdv A outer s H E, ?_⟩
  obtain ⟨a, xs, rfl, hl, ox, ha, q⟩ := h
  obtain ⟨z, rfl⟩ : ∃ z, xs = [z] := by
    match xs, hl with
    | [z], _ => exact ⟨z, rfl⟩
  exact ⟨.ref a, rfl, ⟨a, C, [.str x], rfl, by simp, ox, ha, ⟨z, rfl, ⟨.ref a, rfl, ⟨a, C, rfl, ox, T.no f (by simp), .inl ⟨ha, fun dx n ne => q dx n ne⟩⟩⟩⟩⟩⟩
/-- two fields -/
theorem init2_ok {f g y z x : Str} (F : Fun K "__init__" qual st fI fd) (S : FnScope ["self", y, z] ["self", y, z] (defScope st)) (T : FldC K C fI [f, g])
    (hb : ∀ (cdv : Value) (A : Around) (outer : List PySem.Env) (s : Shared) (H : Hp) (E : XK),
      PSs (cxOf (L2.CX P w) P w K mg base ["self", y, z] qual (defScope st) fI cdv A outer s H E) (defBody st) (tSeq (tDrop (tVeI K (tCons (tVar 0) (tCons (tC (.str x)) tNil)))) (tSeq (tOst K f (tVar 0) (tVar 1)) (tOst K g (tVar 0) (tVar 2))))) :
    FnOk P w K mg base (L2.CX P w) (k + 1) fI fd ["self", y, z] (spI K C [f, g]) := by
  refine F.okX S (fun vs H Q E ⟨a, xs, ev, hl, _⟩ => by rw [ev]; simp [hl]) (fun cdv A outer s H vs Q E hr h => ?_)
  refine ⟨_, hb cdv A outer s H E, ?_⟩
  obtain ⟨a, xs, rfl, hl, ox, ha, q⟩ := h
  obtain ⟨u, v, rfl⟩ : ∃ u v, xs = [u, v] := by
    match xs, hl with
    | [u, v], _ => exact ⟨u, v, rfl⟩
  refine ⟨.ref a, rfl, ⟨a, C, [.str x], rfl, by simp, ox, ha, ⟨u, rfl, ⟨.ref a, rfl, ⟨a, C, rfl, ox, T.no f (by simp), .inl ⟨ha, fun dx n ne => ?_⟩⟩⟩⟩⟩⟩
  refine ⟨v, rfl, ⟨.ref a, rfl, ⟨a, C, rfl, ox, T.no g (by simp), .inr ⟨dx, [(f, u)], upd_same, by rw [upd_ne ne, upd_same], by simp, ?_⟩⟩⟩⟩
  show Q .non _
  rw [exd_upd n ne]
  exact q dx n ne
end
/-! ### raise X(a, ..) -/
def sRaiseF (c : Nat) (ns : List Str) (as : RA) : RS := fun e S => (as e S).fl e fun ds S1 => if ds.length = ns.length then .er ⟨c, ns.reverse, ds.reverse⟩ e S1 else .bad
theorem Reps.reverse {K : PySem.W.Frag} {C : Nat → Addr} {io : Io} {F : Hp} : ∀ {ds : List D} {vs : List V}, Reps K C io F ds vs → Reps K C io F ds.reverse vs.reverse
  | _, _, .nil => .nil
  | _, _, .cons h r => by
    rw [List.reverse_cons, List.reverse_cons]
    exact (Reps.reverse r).append (.cons h .nil)
theorem zip_map1 {A B : Type} : ∀ (xs : List A) (ys : List B), xs.length = ys.length → (xs.zip ys).map (·.1) = xs
  | [], [], _ => rfl
  | x :: xs, y :: ys, h => by simp [zip_map1 xs ys (by simpa using h)]
theorem zip_map2 {A B : Type} : ∀ (xs : List A) (ys : List B), xs.length = ys.length → (xs.zip ys).map (·.2) = ys
  | [], [], _ => rfl
  | x :: xs, y :: ys, h => by simp [zip_map2 xs ys (by simpa using h)]
theorem s_raiseF (c : Nat) {X : Cx} {C : Nat → Addr} {W : WX} {x : Str} {fI : Addr} {k : Nat} {fd : FuncData} {ps ns : List Str} {e : Expr} {es : List Expr} {ra : RA} {p pos pos' : Pos} (hc : X.calm = true) (tk : Takes X W) (T : FldC X.K (C c) fI ns)
    (F1 : FnOk X.prog X.w X.K X.mg X.base (L2.CX X.prog X.w) k fI fd ps (spI X.K (C c) ns)) (hr : Room (k + 1) X.A) (hb : Binds X.K fd ps []) (hz : ns.length ≤ 1000) (gC : X.mg x = some (.ref (C c))) (hg : Gl X x) (ha : PA X (e :: es) (tA X.K C W ra))
    (hdb : (x == ("__debug__" : Str)) = false := by decide) (he : starEach (e :: es) X.env = (false, eval e X.env) :: starEach es X.env := by rfl) (hpl : (backTo pos' (starEach es X.env)).any (·.1) = false := by rfl) :
    PS X (.Raise (some (.Call (.Name x p) (e :: es) [] pos')) none pos) (tS X.K C W (sRaiseF c ns ra)) :=
  (ps_raise hc tk (pmk_oex T.ox T.ini T.fn F1 hr hb .nil (fun _ _ _ _ _ _ _ ⟨_, _, _, _, _, _, _, _, _, _, _, _, hE⟩ => hE.elim) hg gC ha hdb he hpl)).imp fun Dn sg H h =>
    (tS.seq (R := RepsR X.K C) (fun e ds S1 => if ds.length = ns.length then .er ⟨c, ns.reverse, ds.reverse⟩ e S1 else .bad) h fun _ _ => rfl).mono fun vs H1 ⟨e1, S, io, ds, dn, sl, rs, post⟩ => by
      split at post
      · rename_i hlen
        have hl := rs.length
        refine ⟨by omega, fun a na => ⟨a, vs, by rw [List.append_nil], by omega, T.ox, upd_same, fun dx n ne => ⟨rfl, dx, _, upd_same, by rw [upd_ne ne, upd_same], ?_, ?_⟩⟩⟩
        · rw [upd_ne ne] at n; exact n
        · have n1 : H1 dx = none := by rw [upd_ne ne] at n; exact n
          have eH : upd (del (upd (upd (upd H1 a (exo a (C c) none)) dx (exd dx (ns.zip vs).reverse)) a (exo a (C c) (some dx))) a) dx (.xd (ns.zip vs).reverse) = upd H1 dx (.xd (ns.zip vs).reverse) := by
            funext b
            by_cases hb : b = dx
            · subst hb; rw [upd_same, upd_same]
            · rw [upd_ne hb, upd_ne hb]
              by_cases hba : b = a
              · subst hba; rw [del_same]; exact na.symm
              · rw [del_ne hba, upd_ne hba, upd_ne hb, upd_ne hba]
          rw [eH]
          refine post _ _ sg _ io (Ext.new dn n1) (dn.new n1) (sl.ext (Ext.new dn n1)) ⟨rfl, .inr ⟨dx, _, rfl, upd_same, ?_, ?_⟩⟩
          · rw [List.map_reverse, zip_map1 _ _ (by omega)]
          · rw [List.map_reverse, zip_map2 _ _ (by omega)]
            exact (rs.ext (Ext.new dn n1)).reverse
      · exact post.elim
/-! ### e.f, e an exception that was caught -/
def fldD (ok : Nat → Bool) (f : Str) (S : Store) : D → Option D
  | .exn c ns xs => if ok c = true then (ns.zip xs).lookup f else none
  | _ => none
theorem lookup_rep {K : PySem.W.Frag} {C : Nat → Addr} {io : Io} {F : Hp} {f : Str} {d : D} : ∀ {fs : List (Str × V)} {xs : List D}, Reps K C io F xs (fs.map (·.2)) → ((fs.map (·.1)).zip xs).lookup f = some d → ∃ v, fs.lookup f = some v ∧ Rep K C io F d v
  | [], _, r, h => by simp at h
  | (g, v) :: fs, _, .cons (d := x) (ds := xs) rx r, h => by
    simp only [List.map_cons, List.zip_cons_cons, List.lookup_cons] at h ⊢
    cases e : f == g with
    | true => rw [e] at h; cases h; exact ⟨v, rfl, rx⟩
    | false => rw [e] at h; exact lookup_rep r h
theorem ee_fld {X : Cx} {C : Nat → Addr} {W : WX} {e : Expr} {re : RE} {f : Str} {pos : Pos} {ok : Nat → Bool} (he : PE X e (tE X.K C W re)) (hk : ∀ c, ok c = true → XfC X.K (C c) ∧ PySem.W.findIn X.K (.ref (C c)) f = some none)
    (hb : attributeBase e f X.env (eval e X.env) = eval e X.env := by rfl) : PE X (.Attribute e f pos) (tE X.K C W (rUn (fldD ok f) re)) := by
  refine ⟨fun pins s sg H Q I h => ?_⟩
  refine attr_of hb (thn (he.run pins s sg H _ I (tR.seq1 (fun _ x S => ofO (fldD ok f S x) S) h fun _ _ => rfl)) fun u s1 hh => ?_)
  obtain ⟨x, H1, I1, rx, e1, S, io, d, dn, sl, rd, p⟩ := hh
  obtain ⟨z, ez, p1⟩ := p.ofO
  clear p
  unfold fldD at ez
  split at ez
  · rename_i c ns xs
    split at ez
    · rename_i hc
      obtain ⟨T, hno⟩ := hk c hc
      cases rd with
      | exn0 _ => simp at ez
      | @exnF _ a dx fs _ vs _ ha hd h1 h2 rs =>
        subst h1
        subst h2
        obtain rfl : u = Value.ref a := rx
        obtain ⟨v, hl, rv⟩ := lookup_rep rs ez
        have ha' : H1 a = some (exH a (.ref (C c)) (some dx)) := Fz_same _ _ _ _ ha
        have hd' : H1 dx = some (.xd fs) := Fz_same _ _ _ _ hd
        have oka : ObjOk X.prog X.w H1 s1.heap a (.ext fun h => ∃ oe vs, h.get? a = some oe ∧ oe.cls = .ref (C c) ∧ oe.dict = some dx ∧ oe.data = .fields vs) := I1.hok a _ ha'
        obtain ⟨⟨oe, vs0, hoe, hcl, hdi, hda⟩, _⟩ := oka
        have hx : ObjOk X.prog X.w H1 s1.heap dx (.xd fs) := I1.hok dx _ hd'
        obtain ⟨mA, hns, hr⟩ := hx
        obtain ⟨od, ho, hlk⟩ := lookIn_ns hns
        obtain ⟨u2, hu, ru⟩ := RelO.some_of (v := v) (o := mA f) (by rw [← hl]; exact hr f)
        have J : PySem.W.InstAt s1.heap a oe (C c) (some od) := ⟨hoe, hcl, by unfold PySem.W.notCls; rw [hda] <;> rfl, by rw [hdi]; exact ho⟩
        exact HandSPX.exc_get I1.kIn J T.ga T.gg T.exC (PySem.W.findObj_own T.hdC hno rfl (by rw [hlk, hu])) (handed_of ru) ⟨v, H1, I1.tok _, ru, p1 v H1 io (Ext.refl _ _) dn rv⟩
    · cases ez
  · cases ez
end Ev
namespace Ev
open PySem PySem.Spec L2 PyProof.Rows
theorem pvx (i : Nat) {X : Cx} {x : Str} {pos : Pos} (hN : X.N[i]? = some x := by rfl) (hv : Vis X.env.scope x := by first | exact Or.inl rfl | exact Or.inr (Or.inl rfl) | exact Or.inr (Or.inr rfl)) (hd : (x == ("__debug__" : Str)) = false := by decide)
    (hcd : (x == ("__classdict__" : Str)) = false := by decide) : PE X (.Name x pos) (tVar i) := pe_var hN hv hd hcd
end Ev
namespace Ev
open PySem PySem.Spec L2 PyProof.Rows

/-! ### texts -/
section
variable {X : Cx} {C : Nat → Addr}
def startsS : MF
  | S, .str a, [.str b] => some (.bl (Txt.startswith a b), S)
  | _, _, _ => none
theorem startsS_ok : MthD X C "str.startswith" startsS := mthD_flat mt_startswith fun io S H a as d S' x xs dn ra ras e => by
  unfold startsS at e
  split at e
  · obtain ⟨v, rfl, h⟩ := reps1 ras
    cases ra; cases h
    cases e
    exact ⟨rfl, _, fun _ => .bl _, fun Q q => ⟨_, _, rfl, rfl, q⟩⟩
  · cases e
theorem reps_strs {K : PySem.W.Frag} {io : Io} {F : Hp} : ∀ ys : List Str, Reps K C io F (ys.map D.str) (ys.map V.str)
  | [] => .nil
  | y :: ys => .cons (.str y) (reps_strs ys)
def partS : MF
  | S, .str a, [.str b] => if (b.length == 0) = false ∧ a.length ≤ sizeLine then some (.tup [.str (Txt.partition a b).1, .str (Txt.partition a b).2.1, .str (Txt.partition a b).2.2], S) else none
  | _, _, _ => none
theorem partS_ok : MthD X C "str.partition" partS := fun pins s sg H x xs v us Q I rx rxs ⟨io, S, a, as, d, S', dn, ra, ras, e, q⟩ => by
  unfold partS at e
  split at e
  · obtain ⟨v, rfl, h⟩ := reps1 ras
    cases ra; cases h
    split at e
    · rename_i hc
      cases e
      refine mt_partition pins s sg H _ _ _ us Q I rx rxs ⟨_, _, rfl, rfl, hc.1, hc.2, fun p hp => ?_⟩
      obtain ⟨x1, d1, r1⟩ := new_tup dn (.cons (.str _) (.cons (.str _) (.cons (.str _) .nil))) hp
      exact q _ _ io x1 d1 r1
    · cases e
  · cases e
def splitS : MF
  | S, .str a, [.str b] => if (b.length == 0) = false ∧ a.length + 2 ≤ sizeLine then some (.lst ((Txt.split a b).map D.str), S) else none
  | _, _, _ => none
theorem splitS_ok : MthD X C "str.split" splitS := fun pins s sg H x xs v us Q I rx rxs ⟨io, S, a, as, d, S', dn, ra, ras, e, q⟩ => by
  unfold splitS at e
  split at e
  · obtain ⟨v, rfl, h⟩ := reps1 ras
    cases ra; cases h
    split at e
    · rename_i hc
      cases e
      refine mt_split pins s sg H _ _ _ us Q I rx rxs ⟨_, _, rfl, rfl, hc.1, hc.2, fun p hp => ?_⟩
      obtain ⟨x1, d1, r1⟩ := new_lst dn (reps_strs _) hp
      exact q _ _ io x1 d1 r1
    · cases e
  · cases e
def splitMaxS : MF
  | S, .str a, [.str b, .int k] => if (b.length == 0) = false ∧ -(2 ^ 63) ≤ k ∧ k < 2 ^ 63 ∧ a.length + 2 ≤ sizeLine then some (.lst ((Txt.splitMax a b k).map D.str), S) else none
  | _, _, _ => none
theorem splitMaxS_ok : MthD X C "str.split" splitMaxS := fun pins s sg H x xs v us Q I rx rxs ⟨io, S, a, as, d, S', dn, ra, ras, e, q⟩ => by
  unfold splitMaxS at e
  split at e
  · obtain ⟨v, u, rfl, h, h2⟩ := reps2 ras
    cases ra; cases h; cases h2
    split at e
    · rename_i hc
      cases e
      refine mt_splitMax pins s sg H _ _ _ us Q I rx rxs ⟨_, _, _, rfl, rfl, hc.1, hc.2.1, hc.2.2.1, hc.2.2.2, fun p hp => ?_⟩
      obtain ⟨x1, d1, r1⟩ := new_lst dn (reps_strs _) hp
      exact q _ _ io x1 d1 r1
    · cases e
  · cases e
/-! str(i), int(text) -/
def strD : Store → List D → Option D
  | _, [.int i] => if i.natAbs.log2 < 1920 then some (.str (toString i)) else none
  | _, _ => none
theorem strD_ok : CallD X C (.type "str") strD := callD_flat call_str_int fun io S H as d xs dn ra e => by
  unfold strD at e
  split at e
  · obtain ⟨v, rfl, h⟩ := reps1 ra
    cases h
    split at e
    · rename_i hc
      cases e
      exact ⟨.str _, fun _ => .str _, fun Q q => ⟨_, rfl, hc, q⟩⟩
    · cases e
  · cases e
def intT (S : Store) : List D → Option D
  | [.str a] => if a.length ≤ 640 then (intText? a).bind fun n => some (.int n) else none
  | as => intD S as
theorem intT_ok : CallD X C (.type "int") intT := fun pins s sg H xs us Q I rx ⟨io, S, as, d, dn, ra, e, q⟩ => by
  unfold intT at e
  split at e
  · obtain ⟨v, rfl, h⟩ := reps1 ra
    cases h
    split at e
    · rename_i hc
      obtain ⟨n, hn, e⟩ := bind_some' e
      cases e
      exact call_int_str pins s sg H _ us Q I rx ⟨_, n, rfl, hn, hc, q _ H io (Ext.refl _ _) dn (.int _)⟩
    · cases e
  · exact intD_ok pins s sg H xs us Q I rx ⟨io, S, as, d, dn, ra, e, q⟩
/-! ### f'..' -/
def fmtD (S : Store) : D → Option D
  | .str y => if y.length ≤ sizeLine then some (.str y) else none
  | .int i => if i.natAbs.log2 < 1920 then some (.str (toString i)) else none
  | _ => none
variable {W : WX}
theorem ee_fmt {e : Expr} {re : RE} {pos : Pos} (he : PE X e (tE X.K C W re)) : PE X (.FormattedValue e (-1) none pos) (tE X.K C W (rUn fmtD re)) :=
  (pe_fmt he).imp fun sg H Q h => (tR.seq1 (fun _ x S => ofO (fmtD S x) S) h fun _ _ => rfl).mono fun x H1 ⟨e, S, io, x1, d, s, r1, p⟩ => by
    obtain ⟨z, ez, p⟩ := p.ofO
    unfold fmtD at ez
    split at ez
    · split at ez
      · cases ez
        cases r1
        exact .inl ⟨_, rfl, by assumption, p _ H1 io (Ext.refl _ _) d (.str _)⟩
      · cases ez
    · split at ez
      · cases ez
        cases r1
        exact .inr ⟨_, rfl, by assumption, p _ H1 io (Ext.refl _ _) d (.str _)⟩
      · cases ez
    · cases ez
/-- the parts, glued from acc on -/
def rJs : List RE → Str → RE
  | [], acc, _, S => .ok (.str acc) S
  | r :: rs, acc, e, S => (r e S).bind fun x S1 => match x with
    | .str y => if (acc ++ y).length ≤ sizeLine then rJs rs (acc ++ y) e S1 else .bad
    | _ => .bad
inductive PJE (X : Cx) (C : Nat → Addr) (W : WX) : List Expr → List RE → Prop where
  | nil : PJE X C W [] []
  | cons {e : Expr} {r : RE} {es : List Expr} {rs : List RE} (h : PE X e (tE X.K C W r)) (t : PJE X C W es rs) : PJE X C W (e :: es) (r :: rs)
theorem PJE.pj {es : List Expr} {rs : List RE} (h : PJE X C W es rs) : PJ X es (rs.map fun r => tE X.K C W r) := by
  induction h with
  | nil => exact .nil
  | cons h t ih => exact .cons h ih
theorem js_read : ∀ (rs : List RE) (acc : Str) (sg : L2.St) (H : Hp) (Q : VK), tE X.K C W (rJs rs acc) sg H Q → tJs (rs.map fun r => tE X.K C W r) acc sg H fun out H1 => Q (.str out) H1
  | [], acc, sg, H, Q, h => by
    obtain ⟨e, S, io, d, s, p⟩ := h
    exact p _ H io (Ext.refl _ _) d (.str _)
  | r :: rs, acc, sg, H, Q, h => by
    refine (tR.seq1 (R := RepR X.K C) (fun e x S1 => match x with
      | .str y => if (acc ++ y).length ≤ sizeLine then rJs rs (acc ++ y) e S1 else .bad
      | _ => .bad) h fun _ _ => rfl).mono fun x H1 ⟨e, S, io, x1, d, s, r1, p⟩ => ?_
    split at p
    · split at p
      · cases r1
        exact ⟨_, rfl, by assumption, js_read rs _ sg H1 Q ⟨e, S, io, d, s, p⟩⟩
      · exact p.elim
    · exact p.elim
theorem ee_joined {v1 v2 : Expr} {rest : List Expr} {rs : List RE} {pos : Pos} (h : PJE X C W (v1 :: v2 :: rest) rs) : PE X (.JoinedStr (v1 :: v2 :: rest) pos) (tE X.K C W (rJs rs Str.empty)) :=
  (pe_joined h.pj).imp fun sg H Q h => js_read rs _ sg H Q h
end
end Ev
namespace Ev
open PySem PySem.Spec L2 PyProof.Rows
/-! ### text * n -/
def repS (x : Str) (n : Nat) : Str := ⟨(List.replicate n x.cps).foldl (· ++ ·) #[]⟩
theorem rep_size (c : Array Nat) : ∀ (n : Nat) (a : Array Nat), ((List.replicate n c).foldl (· ++ ·) a).size = a.size + n * c.size
  | 0, a => by simp
  | n + 1, a => by
    rw [List.replicate_succ, List.foldl_cons, rep_size c n, Array.size_append, Nat.succ_mul]
    omega
theorem repS_len (x : Str) (n : Nat) : (repS x n).length = n * x.length := by
  show ((List.replicate n x.cps).foldl (· ++ ·) #[]).size = _
  rw [rep_size]
  simp
  rfl
def mulT (S : Store) (a b : D) : Option D := match a, b with
  | .str x, .int n => if 1 < n ∧ n < 1000 ∧ x.length ≠ 0 ∧ x.length * n.toNat ≤ sizeLine then some (.str (repS x n.toNat)) else none
  | a, b => mulD S a b
theorem mulT_ok {X : Cx} {C : Nat → Addr} : OpD X C (binaryOp .Mult) mulT := by
  intro pins s sg H x y v u Q I rx ry ⟨io, S, a, b, d, dn, ra, rb, e, q⟩
  unfold mulT at e
  split at e
  · rename_i z n
    split at e
    · rename_i hc
      obtain ⟨h1, h2, h3, h4⟩ := hc
      cases e
      cases ra
      cases rb
      obtain ⟨t, rfl⟩ := rx
      obtain ⟨t', rfl⟩ := ry
      have n1 : (n == 1 || z.length == 0) = false := by
        rw [Bool.or_eq_false_iff]
        exact ⟨by rw [beq_eq_false_iff_ne]; omega, by rw [beq_eq_false_iff_ne]; exact h3⟩
      have hl : Builtin.Str.tooLong (z.length * n.toNat) = false := by
        unfold Builtin.Str.tooLong
        exact decide_eq_false (by omega)
      refine PySem.P.mul_str ?_ (fun _ _ => ?_) (fun _ _ => hl) ?_
      · rw [Bool.or_eq_false_iff]
        exact ⟨decide_eq_false (by omega), decide_eq_false (by omega)⟩
      · have : (z.length : Int) ≤ 16777216 := by
          have : z.length * 1 ≤ z.length * n.toNat := Nat.mul_le_mul_left _ (by omega)
          have e : sizeLine = 16777216 := sizeLine_eq
          omega
        have h5 : (16777216 : Int) * n ≤ 2 ^ 63 - 1 := by omega
        have h6 : (16777216 : Int) ≤ (2 ^ 63 - 1) / n := Int.le_ediv_of_mul_le (by omega) h5
        omega
      · rw [if_neg (by omega), if_neg (by rw [n1]; decide)]
        refine ⟨?_, .str _, H, I.tok _, ⟨_, rfl⟩, q _ H io (Ext.refl _ _) dn (.str _)⟩
        show (repS z n.toNat).length ≤ sizeLine
        rw [repS_len, Nat.mul_comm]
        exact h4
    · cases e
  · exact mulD_ok pins s sg H x y v u Q I rx ry ⟨io, S, a, b, d, dn, ra, rb, e, q⟩
end Ev
namespace Ev
open PySem PySem.Spec L2 PyProof.Rows

/-! ### text.replace('a', 'b'): wants that a token is out -/
def replD (y z : Str) (S : Store) : D → Option D
  | .str x => if x.length + (x.length + 1) * z.length ≤ 16777216 then some (.str (Txt.replace x y z)) else none
  | _ => none
section
variable {X : Cx} {C : Nat → Addr} {W : WX}
theorem eeT_repl {o : Expr} {ro : RE} {y z : Str} {j k : Nat} {c0 c1 apos pos : Pos} (ho : PE X o (tE X.K C W ro)) (hyz : (y == z) = false := by decide +kernel)
    (hst : starEach [.Constant (.str y) j c0, .Constant (.str z) k c1] X.env = [(false, eval (.Constant (.str y) j c0) X.env), (false, eval (.Constant (.str z) k c1) X.env)] := by rfl)
    (hbase : attributeBase o "replace" X.env (eval o X.env) = eval o X.env := by rfl) (hline : (apos.endLine == pos.line) = true := by rfl) :
    PET X (.Call (.Attribute o "replace" apos) [.Constant (.str y) j c0, .Constant (.str z) k c1] [] pos) (tE X.K C W (rUn (replD y z) ro)) := fun pins s sg H Q h0 I h =>
  CwR.pet_replC ho hyz hst hbase hline pins s sg H Q h0 I ((tR.seq1 (fun _ x S => ofO (replD y z S x) S) h fun _ _ => rfl).mono fun x H1 ⟨e, S, io, x1, d, s, r1, p⟩ => by
    obtain ⟨w, ew, p⟩ := p.ofO
    unfold replD at ew
    split at ew
    · split at ew
      · cases ew
        cases r1
        exact ⟨_, rfl, by assumption, p _ H1 io (Ext.refl _ _) d (.str _)⟩
      · cases ew
    · cases ew)
theorem eeT_mth {o e : Expr} {es : List Expr} {ro : RE} {rs : RA} {name : Str} {apos cpos : Pos} {T id : String} {f : MF} (pa : PlainAttrs T) (slot : Slot T name id) (hty : typeOf (.builtin id) = pure (.type "method_descriptor")) (hm : MthD X C id f) (ho : PET X o (tE X.K C W ro)) (ha : PA X (e :: es) (tA X.K C W rs))
    (hbase : attributeBase o name X.env (eval o X.env) = eval o X.env := by rfl)
    (hfew : ((backTo cpos (starEach (e :: es) X.env)).all (fun x => !x.1) && (backToKw cpos (keywordEach [] X.env)).all (fun x => x.1.isSome)
      && decide ((e :: es).length + ([] : List Keyword).length + (if ([] : List Keyword).isEmpty then 0 else 1) < 30)) = true := by rfl)
    (hline : (apos.endLine == cpos.line) = true := by rfl) (hs : starEach (e :: es) X.env = (false, eval e X.env) :: starEach es X.env := by rfl) (hplain : (backTo cpos (starEach es X.env)).any (·.1) = false := by rfl) :
    PET X (.Call (.Attribute o name apos) (e :: es) [] cpos) (tE X.K C W (rMth T f ro rs)) := by
  intro pins s sg H Q h0 I h
  have h' : tBM X.K T (fun x xs H Q => ∃ io S a as d S', Den X.K C io S H ∧ Rep X.K C io (Fz io H) a x ∧ Reps X.K C io (Fz io H) as xs ∧ f S a as = some (d, S') ∧ ∀ v H' io', Ext io H io' H' → Den X.K C io' S' H' → Rep X.K C io' (Fz io' H') d v → Q v H') (tE X.K C W ro) (tA X.K C W rs) sg H Q :=
    (tR.seq1 (R := RepR X.K C) (fun e x S1 => if tyM S1 x = some T then (rs e S1).bind fun xs S2 => ofP (f S2 x xs) else .bad) h fun _ _ => rfl).mono fun v H1 ⟨e, S, io, x1, d, s, r1, p⟩ => by
      split at p
      · rename_i ty
        refine ⟨ty_rep ty d r1, e, S, io, d, s, p.bind.mono fun vs H2 ⟨io2, S2, as, x2, d2, r2, p2⟩ => ?_⟩
        obtain ⟨z, S3, ez, p2⟩ := p2.ofP
        exact ⟨io2, S2, x1, as, z, S3, d2, r1.ext x2, r2, ez, p2⟩
      · exact p.elim
  refine wpAny_Call_method_late hbase hfew hline rfl (thn (ho pins s sg H _ h0 I h') fun v s1 ⟨x, H1, I1, r1, ty, q1⟩ => ?_)
  obtain ⟨h1, h2⟩ := tyV_is I1 r1 ty
  refine ⟨T, id, pa, slot, hty, h1, h2, ?_⟩
  have hA := ha.run cpos pins s1 sg H1 _ I1 q1
  rw [hs] at hA ⊢
  refine Calls.callWith_builtin (by show (false || (backTo cpos (starEach es X.env)).any (·.1)) = false; rw [hplain] <;> rfl) (Calls.evalArgs_plain ?_)
  exact thn hA fun us s2 ⟨vs, H2, I2, r2, q2⟩ => hm pins s2 sg H2 x vs v us Q I2 r1 r2 q2
/-- a test, a token out -/
def PTT (X : Cx) (e : Expr) (t : TT) : Prop := ∀ (pins : List (Addr × Obj)) (s : Shared) (σ : L2.St) (H : Hp) (Q : Bool → Hp → Prop), 1 ≤ s.toks → L2.Inv X pins σ H s → t σ H Q → wpAny (model X.prog X.w) X.A (isTrue e X.env (eval e X.env)) (TP X pins σ Q) X.xe s
theorem etT_cmp {a b : Expr} {ra rb : RE} {pos : Pos} {op : CmpOp} {f : Store → D → D → Option D} (ho : OpD X C (compareOp op) f) (ha : PET X a (tE X.K C W ra)) (hb : PE X b (tE X.K C W rb)) (hm : behindInMarks op b = false) : PTT X (.Compare a [op] [b] pos) (tT X.K C W (rTest (rBin f ra rb))) := by
  intro pins s sg H Q h0 I h
  have h' := tTest_of (t := tOp (fun x y H Q => ∃ io S a b d, Den X.K C io S H ∧ Rep X.K C io (Fz io H) a x ∧ Rep X.K C io (Fz io H) b y ∧ f S a b = some d ∧ ∀ v H' io', Ext io H io' H' → Den X.K C io' S H' → Rep X.K C io' (Fz io' H') d v → Q v H') (tE X.K C W ra) (tE X.K C W rb)) (r := rBin f ra rb)
    (fun sg H Q h => (tR.seq2 repM (fun _ x y S => ofO (f S x y) S) h fun _ _ => rfl).mono fun x H1 h1 => h1.mono fun y H2 ⟨e, S, io, x1, y1, d, s, r1, r2, p⟩ => by
      obtain ⟨z, ez, p⟩ := p.ofO
      exact ⟨io, S, x1, y1, z, d, r1, r2, ez, p⟩) sg H Q h
  refine wpAny_isTrue_Compare1 (thn (ha pins s sg H _ h0 I h') fun v s1 ⟨x, H1, I1, r1, q1⟩ => thn (hb.run pins s1 sg H1 _ I1 q1) fun u s2 ⟨y, H2, I2, r2, q2⟩ =>
    thn (ho pins s2 sg H2 x y v u _ I2 r1 r2 q2) fun c s3 ⟨z, H3, I3, r3, k, e, q3⟩ => ?_) hm
  subst e
  cases r3
  exact wpAny_truthy_bool ⟨H3, I3, q3⟩
theorem sT_if {c : Expr} {sa sb : List Stmt} {tc : RT} {ma mb : RS} {pos : Pos} (hc : PTT X c (tT X.K C W tc)) (ha : PSs X sa (tS X.K C W ma)) (hb : PSs X sb (tS X.K C W mb)) : PST X (.If c sa sb pos) (tS X.K C W (sIf tc ma mb)) := by
  intro pins s sg H Dn h0 I h
  have h' := (tS.seq (R := EqR) (r := tc) (fun e k S1 => if k = true then ma e S1 else mb e S1) h fun _ _ => rfl)
  refine wpAny_If (thn (hc pins s sg H _ h0 I h') fun d s1 ⟨H1, I1, e, S, io, k1, dn, sl, q, p⟩ => ?_)
  cases q
  cases d with
  | true => exact ha.run pins s1 sg H1 Dn I1 ⟨e, S, io, dn, sl, p⟩
  | false => exact hb.run pins s1 sg H1 Dn I1 ⟨e, S, io, dn, sl, p⟩
theorem seq_read {ma mb : RS} {Dn : Ends} {sg : L2.St} {H : Hp} (h : tS X.K C W (sSeq ma mb) Dn sg H) : tS X.K C W ma { Dn with nx := tS X.K C W mb Dn } sg H := by
  obtain ⟨e, S, io, d, s, p⟩ := h
  refine ⟨e, S, io, d, s, ?_⟩
  unfold sSeq at p
  cases q : ma e S with
  | nx e1 S1 =>
    rw [q] at p
    exact fun sg' H' io' x d' s' => ⟨e1, S1, io', d', s', PostS.ext x p⟩
  | rt d1 S1 => rw [q] at p; exact p
  | er x e1 S1 => rw [q] at p; exact p
  | bad => rw [q] at p; exact p
theorem esT_cons {st : Stmt} {rest : List Stmt} {ma mb : RS} (h1 : PST X st (tS X.K C W ma)) (h2 : PSs X rest (tS X.K C W mb)) : PSsT X (st :: rest) (tS X.K C W (sSeq ma mb)) := fun pins s sg H Dn h0 I h =>
  psst_cons h1 (PSsT.of h2) pins s sg H Dn h0 I (seq_read h)
/-- targets = o.name('c'): a token is out behind it -/
theorem es_tok {tg o : Expr} {rest : List Stmt} {t : Tg} {ro : RE} {mb : RS} {f : MF} {name c : Str} {j : Nat} {id : String} {cp apos cpos pos : Pos} (slot : Slot "str" name id) (hty : typeOf (.builtin id) = pure (.type "method_descriptor")) (hm : MthD X C id f)
    (ho : PE X o (tE X.K C W ro)) (hg : GD X C tg t) (h2 : PSsT X rest (tS X.K C W mb))
    (hst : starEach [.Constant (.str c) j cp] X.env = [(false, eval (.Constant (.str c) j cp) X.env)] := by rfl) (hbase : attributeBase o name X.env (eval o X.env) = eval o X.env := by rfl) (hline : (apos.endLine == cpos.line) = true := by rfl)
    (hs : swapsWithSole [tg] (.Call (.Attribute o name apos) [.Constant (.str c) j cp] [] cpos) pos.line X.env = pure false := by rfl) (hw : swappedStores [tg] (.Call (.Attribute o name apos) [.Constant (.str c) j cp] [] cpos) X.env = pure none := by rfl)
    (h1 : (assignEach [tg] X.env).map (·.2) = [assign tg X.env] := by rfl) :
    PSs X (.Assign [tg] (.Call (.Attribute o name apos) [.Constant (.str c) j cp] [] cpos) pos :: rest) (tS X.K C W (sSeq (sAsg t (rMth "str" f ro (rCons (rCon (.str c)) rNil))) mb)) := by
  refine ⟨fun pins s sg H Dn I h => ?_⟩
  have h' := (tS.seq (R := RepR X.K C) (r := rMth "str" f ro (rCons (rCon (.str c)) rNil)) (fun e d S1 => match bindT S1 d e t with | some e' => .nx e' S1 | none => .bad) (seq_read h) fun _ _ => rfl)
  refine wpAny_execs_cons (wpAny_Assign_stores (PySem.Call_method1 hbase hst hline (thn (ho.run pins s sg H _ I ((tR.seq1 (R := RepR X.K C) (fun e x S1 => if tyM S1 x = some "str" then ofP (f S1 x [.str c]) else .bad) h' fun e S => by
      show ((ro e S).bind fun x S1 => if tyM S1 x = some "str" then ((rCons (rCon (.str c)) rNil) e S1).bind fun xs S2 => ofP (f S2 x xs) else .bad) = _
      rfl))) fun v s1 ⟨x, H1, I1, r1, e, S, io, x1, dn, sl, rx, p⟩ => ?_)) hs hw)
  split at p
  · rename_i ty
    obtain ⟨z, S2, ez, p⟩ := p.ofP
    obtain ⟨th1, th2⟩ := tyV_is I1 r1 (ty_rep ty dn rx)
    refine ⟨"str", id, PySem.F.plainAttrs_str, slot, hty, th1, th2, Calls.callWith_builtin rfl (Calls.evalArgs_plain (Calls.spliced_cons (Calls.Constant_str (Calls.spliced_nil ?_))))⟩
    have I2 : L2.Inv X pins sg H1 { s1 with toks := s1.toks + 1 } := I1.tok _
    refine wpAny_mono (PySem.wpAny_toks (hm pins { s1 with toks := s1.toks + 1 } sg H1 x [.str c] v [.str c s1.toks] _ I2 r1 (.cons ⟨_, rfl⟩ .nil) ⟨io, S, x1, [.str c], z, S2, dn, rx, .cons (.str c) .nil, ez, p⟩)) (fun u s3 ⟨hk, y, H3, I3, r3, q3⟩ => ?_) fun _ _ z => z.2
    rw [h1]
    obtain ⟨e3, S3, io3, d3, dn3, sl3, rd3, p3⟩ := q3
    cases hb : bindT S3 d3 e3 t with
    | none => rw [hb] at p3; exact p3.elim
    | some e4 =>
      rw [hb] at p3
      have hG : wpAny (model X.prog X.w) X.A (assign tg X.env u) (fun _ s4 => ∃ sg4 H4, L2.Inv X pins sg4 H4 s4 ∧ tS X.K C W mb Dn sg4 H4) X.xe s3 := by
        refine thn (hg.run pins s3 sg H3 y u _ I3 r3 ⟨e3, S3, io3, d3, e4, dn3, sl3, rd3, hb, fun sg' s' ag => ?_⟩) fun _ s4 q => q
        exact p3 sg' H3 io3 (Ext.refl _ _) dn3 s'
      refine wpAny_mono (PySem.wpAny_toks hG) (fun _ s4 ⟨hk4, sg4, H4, I4, q4⟩ => ?_) fun _ _ z => z.2
      have hk' : s1.toks + 1 ≤ s3.toks := hk
      exact h2 pins s4 sg4 H4 Dn (by omega) I4 q4
  · exact p.elim
end
end Ev
namespace Ev
open PySem PySem.Spec L2 PyProof.Rows

/-! ### dicts, their keys ints and texts -/
def keyOf : D → Option Key
  | .int i => some (.inl i)
  | .str x => some (.inr x)
  | _ => none
theorem keyOf_rep {K : PySem.W.Frag} {C : Nat → Addr} {io : Io} {F : Hp} {d : D} {v : V} {k : Key} (h : keyOf d = some k) (r : Rep K C io F d v) : v = kV k := by
  cases d <;> cases h <;> cases r <;> rfl
def dictAt (S : Store) : D → Option (List Key × List D)
  | .loc n => match S[n]? with
    | some (.dK ks xs) => some (ks, xs)
    | _ => none
  | .dct ks xs => some (ks, xs)
  | _ => none
theorem dictAt_rep {K : PySem.W.Frag} {C : Nat → Addr} {io : Io} {S : Store} {H : Hp} {d : D} {v : V} {ks : List Key} {xs : List D} (h : dictAt S d = some (ks, xs)) (dn : Den K C io S H) (r : Rep K C io (Fz io H) d v) :
    ∃ a kvs, v = .ref a ∧ H a = some (.dK kvs) ∧ kvs.map (·.1) = ks ∧ Reps K C io (Fz io H) xs (kvs.map (·.2)) := by
  cases r with
  | dct q e1 e2 rs =>
    cases h
    subst e2
    exact ⟨_, _, rfl, Fz_same _ _ _ _ q, e1, rs⟩
  | @loc n a q =>
    simp only [dictAt] at h
    split at h
    · rename_i ks' xs' e
      cases h
      obtain ⟨kvs, h1, h2, h3⟩ := dn.obj n _ a e q
      exact ⟨a, kvs, rfl, h1, h2, h3⟩
    · cases h
  | _ => cases h
def lkK : List Key → List D → Key → Option D
  | k' :: ks, x :: xs, k => if k' = k then some x else lkK ks xs k
  | _, _, _ => none
theorem lk_rep {K : PySem.W.Frag} {C : Nat → Addr} {io : Io} {F : Hp} {k : Key} : ∀ {kvs : List (Key × V)} {xs : List D}, Reps K C io F xs (kvs.map (·.2)) → (∀ d, lkK (kvs.map (·.1)) xs k = some d → ∃ v, valV kvs k = some v ∧ Rep K C io F d v) ∧ (lkK (kvs.map (·.1)) xs k = none → valV kvs k = none)
  | [], _, .nil => ⟨fun d h => by simp [lkK] at h, fun _ => rfl⟩
  | (k', v) :: kvs, _, .cons (d := x) (ds := xs) rx r => by
    obtain ⟨h1, h2⟩ := lk_rep (k := k) r
    simp only [List.map_cons, lkK]
    by_cases e : k' = k
    · rw [if_pos e]
      exact ⟨fun d h => by cases h; exact ⟨v, valV_pos e, rx⟩, fun h => by cases h⟩
    · rw [if_neg e]
      exact ⟨fun d h => let ⟨w, a, b⟩ := h1 d h; ⟨w, by rw [valV_neg (p := (k', v)) e]; exact a, b⟩, fun h => by rw [valV_neg (p := (k', v)) e]; exact h2 h⟩
/-- d[k] -/
def dixD (S : Store) (a b : D) : Option D := (dictAt S a).bind fun p => (keyOf b).bind fun k => lkK p.1 p.2 k
/-- k in d -/
def dinD (S : Store) (a b : D) : Option D := (dictAt S b).bind fun p => (keyOf a).bind fun k => some (.bl (lkK p.1 p.2 k).isSome)
def dninD (S : Store) (a b : D) : Option D := (dictAt S b).bind fun p => (keyOf a).bind fun k => some (.bl (!(lkK p.1 p.2 k).isSome))
theorem DGet.of {H : Hp} {a : Addr} {kvs : List (Key × V)} {k : Key} (e : H a = some (.dK kvs)) : DGet H a (kV k) (valV kvs k) := DGet.k e
section
variable {X : Cx} {C : Nat → Addr} {W : WX}
theorem ee_dix {a b : Expr} {ra rb : RE} {pos : Pos} (hu : X.A.units + 64 < cLine) (ha : PE X a (tE X.K C W ra)) (hb : PE X b (tE X.K C W rb)) (hs : NoSl b := by exact fun _ _ => rfl) : PE X (.Subscript a b pos) (tE X.K C W (rBin dixD ra rb)) :=
  (pe_dget (by omega) ha hb hs).imp fun sg H Q h => (tR.seq2 repM (fun _ x y S => ofO (dixD S x y) S) h fun _ _ => rfl).mono fun x H1 h1 => h1.mono fun y H2 ⟨e, S, io, x1, y1, d, s, r1, r2, p⟩ => by
    obtain ⟨z, ez, p⟩ := p.ofO
    obtain ⟨⟨ks, xs⟩, e1, ez⟩ := bind_some' ez
    obtain ⟨k, e2, ez⟩ := bind_some' ez
    obtain ⟨a, kvs, rfl, ea, rfl, rs⟩ := dictAt_rep e1 d r1
    obtain rfl := keyOf_rep e2 r2
    obtain ⟨v, hv, rv⟩ := (lk_rep rs).1 z ez
    exact ⟨a, v, rfl, by rw [← hv]; exact DGet.k ea, p v H2 io (Ext.refl _ _) d rv⟩
theorem dinD_ok (hu : X.A.units + 64 < cLine) : OpD X C (compareOp .In) dinD := fun pins s sg H x y v u Q I rx ry ⟨io, S, a, b, d, dn, ra, rb, e, q⟩ => by
  obtain ⟨⟨ks, xs⟩, e1, e⟩ := bind_some' e
  obtain ⟨k, e2, e⟩ := bind_some' e
  cases e
  obtain ⟨p, kvs, rfl, ea, rfl, rs⟩ := dictAt_rep e1 dn rb
  obtain rfl := keyOf_rep e2 ra
  obtain rfl : u = Value.ref p := ry
  have iso : (valV kvs k).isSome = (lkK (kvs.map (·.1)) xs k).isSome := by
    cases z : lkK (kvs.map (·.1)) xs k with
    | none => rw [(lk_rep rs).2 z]; rfl
    | some dv => obtain ⟨w, hw, _⟩ := (lk_rep rs).1 dv z; rw [hw]; rfl
  refine d_in (by omega) I (DGet.k ea) rx fun s' I' => ?_
  rw [iso]
  exact ⟨.bl _, H, I', rfl, q _ H io (Ext.refl _ _) dn (.bl _)⟩
theorem dninD_ok (hu : X.A.units + 64 < cLine) : OpD X C (compareOp .NotIn) dninD := fun pins s sg H x y v u Q I rx ry ⟨io, S, a, b, d, dn, ra, rb, e, q⟩ => by
  obtain ⟨⟨ks, xs⟩, e1, e⟩ := bind_some' e
  obtain ⟨k, e2, e⟩ := bind_some' e
  cases e
  obtain ⟨p, kvs, rfl, ea, rfl, rs⟩ := dictAt_rep e1 dn rb
  obtain rfl := keyOf_rep e2 ra
  obtain rfl : u = Value.ref p := ry
  have iso : (valV kvs k).isSome = (lkK (kvs.map (·.1)) xs k).isSome := by
    cases z : lkK (kvs.map (·.1)) xs k with
    | none => rw [(lk_rep rs).2 z]; rfl
    | some dv => obtain ⟨w, hw, _⟩ := (lk_rep rs).1 dv z; rw [hw]; rfl
  refine d_notIn (by omega) I (DGet.k ea) rx fun s' I' => ?_
  rw [iso]
  exact ⟨.bl _, H, I', rfl, q _ H io (Ext.refl _ _) dn (.bl _)⟩
end
/-- {} of the store -/
def rDct0M : RE := fun _ S => .ok (.loc S.length) (S ++ [.dK [] []])
theorem new_dKM {K : PySem.W.Frag} {C : Nat → Addr} {io : Io} {S : Store} {H : Hp} {p : Addr} (d : Den K C io S H) (hp : H p = none) :
    Ext io H (io.add p) (upd H p (.dK [])) ∧ Den K C (io.add p) (S ++ [.dK [] []]) (upd H p (.dK [])) ∧ Rep K C (io.add p) (Fz (io.add p) (upd H p (.dK []))) (.loc S.length) (.ref p) := by
  refine ⟨Ext.loc hp, d.loc hp ⟨[], upd_same, rfl, .nil⟩, .loc ?_⟩
  rw [← d.len]
  show (io.l ++ [p])[io.l.length]? = some p
  rw [List.getElem?_append_right (Nat.le_refl _)]; simp
theorem ee_dct0M {X : Cx} {C : Nat → Addr} {W : WX} {pos : Pos} : PE X (.Dict [] [] pos) (tE X.K C W rDct0M) :=
  pe_dnewK.imp fun sg H Q ⟨e, S, io, d, s, p⟩ q hq => by
    obtain ⟨x1, d1, r1⟩ := new_dKM d hq
    exact p _ _ _ x1 d1 r1
/-! ### d[k] = v -/
def hasK (ks : List Key) (k : Key) : Bool := ks.any fun k' => decide (k' = k)
def repK : List Key → List D → Key → D → List D
  | k' :: ks, x :: xs, k, v => (if k' = k then v else x) :: repK ks xs k v
  | _, xs, _, _ => xs
def putKs (ks : List Key) (xs : List D) (k : Key) (v : D) : List Key × List D := if hasK ks k = true then (ks, repK ks xs k v) else (ks ++ [k], xs ++ [v])
theorem rep_rep {K : PySem.W.Frag} {C : Nat → Addr} {io : Io} {F : Hp} {k : Key} {d : D} {w : V} (rw' : Rep K C io F d w) : ∀ {kvs : List (Key × V)} {xs : List D}, Reps K C io F xs (kvs.map (·.2)) → Reps K C io F (repK (kvs.map (·.1)) xs k d) ((kvs.map fun kv => if kv.1 = k then (kv.1, w) else kv).map (·.2))
  | [], _, .nil => .nil
  | (k', v) :: kvs, _, .cons rx r => by
    simp only [List.map_cons, repK]
    refine .cons ?_ (rep_rep rw' r)
    by_cases e : k' = k
    · simp only [e, if_true]; exact rw'
    · simp only [e, if_false]; exact rx
theorem put_rep {K : PySem.W.Frag} {C : Nat → Addr} {io : Io} {F : Hp} {k : Key} {d : D} {w : V} {kvs : List (Key × V)} {xs : List D} (rw' : Rep K C io F d w) (r : Reps K C io F xs (kvs.map (·.2))) :
    (putK kvs k w).map (·.1) = (putKs (kvs.map (·.1)) xs k d).1 ∧ Reps K C io F (putKs (kvs.map (·.1)) xs k d).2 ((putK kvs k w).map (·.2)) := by
  have e : hasK (kvs.map (·.1)) k = kvs.any fun kv => decide (kv.1 = k) := by unfold hasK; rw [List.any_map]; rfl
  unfold putKs putK
  rw [e]
  split
  · refine ⟨?_, rep_rep rw' r⟩
    rw [List.map_map]
    apply List.map_congr_left
    intro kv _
    simp only [Function.comp]
    split <;> rfl
  · refine ⟨by simp, ?_⟩
    rw [List.map_append]
    exact r.append (.cons rw' .nil)
def putD (S : Store) (x y v : D) : Option Store := match x with
  | .loc n => match S[n]? with
    | some (.dK ks xs) => (keyOf y).bind fun k => if ks.length < sizeLine then some (S.set n (.dK (putKs ks xs k v).1 (putKs ks xs k v).2)) else none
    | _ => none
  | _ => none
def sPutD (a o i : RE) : RS := fun e S => (a e S).fl e fun v S1 => (o e S1).fl e fun x S2 => (i e S2).fl e fun y S3 => match putD S3 x y v with
  | some S4 => .nx e S4
  | none => .bad
theorem put_dK {K : PySem.W.Frag} {C : Nat → Addr} {io : Io} {S : Store} {H : Hp} {n : Nat} {p : Addr} {ks : List Key} {xs : List D} {kvs : List (Key × V)} (dn : Den K C io S H) (h : io.l[n]? = some p) (hk : kvs.map (·.1) = ks) (r : Reps K C io (Fz io H) xs (kvs.map (·.2))) :
    Ext io H io (upd H p (.dK kvs)) ∧ Den K C io (S.set n (.dK ks xs)) (upd H p (.dK kvs)) :=
  ⟨Ext.put (mem_all h), dn.put h ⟨kvs, upd_same, hk, r.ext (Ext.put (mem_all h))⟩⟩
section
variable {X : Cx} {C : Nat → Addr} {W : WX}
theorem s_putD {a o i : Expr} {ra ro ri : RE} {pos pos' : Pos} (hu : X.A.units + 64 < cLine) (ha : PE X a (tE X.K C W ra)) (ho : PE X o (tE X.K C W ro)) (hi : PE X i (tE X.K C W ri)) (hs : swapsWith a (some (.Subscript o i pos')) pos.line X.env = pure false := by rfl) :
    PS X (.Assign [.Subscript o i pos'] a pos) (tS X.K C W (sPutD ra ro ri)) :=
  (ps_dput (by omega) ho hi ha hs).imp fun Dn sg H h => by
    refine (tS.seq (R := RepR X.K C) (fun e v S1 => (ro e S1).fl e fun x S2 => (ri e S2).fl e fun y S3 => match putD S3 x y v with
      | some S4 => .nx e S4
      | none => .bad) h fun _ _ => rfl).mono fun v H1 ⟨e, S, io, dv, dn, sl, rv, p⟩ => ?_
    refine ⟨e, S, io, dn, sl, (p.of_res sl).mono fun x H2 ⟨io2, S2, dx, x2, dn2, rx, p2⟩ => ?_⟩
    refine ⟨e, S2, io2, dn2, sl.ext x2, (p2.of_res (sl.ext x2)).mono fun y H3 ⟨io3, S3, dy, x3, dn3, ry, p3⟩ => ?_⟩
    have rv3 := (rv.ext x2).ext x3
    have rx3 := rx.ext x3
    cases q : putD S3 dx dy dv with
    | none => rw [q] at p3; exact p3.elim
    | some S4 =>
      rw [q] at p3
      unfold putD at q
      split at q
      · split at q
        · rename_i ks xs e1
          obtain ⟨k, e2, q⟩ := bind_some' q
          split at q
          · rename_i hz
            cases q
            cases rx3 with
            | @loc n a hl =>
            obtain ⟨kvs, ea, rfl, rs⟩ := dn3.obj _ _ a e1 hl
            obtain rfl := keyOf_rep e2 ry
            obtain ⟨k1, k2⟩ := put_rep (k := k) rv3 rs
            obtain ⟨x4, d4⟩ := put_dK dn3 hl k1 k2
            rw [List.length_map] at hz
            exact ⟨a, _, rfl, DPut.k ea hz, p3 sg _ io3 x4 d4 (((sl.ext x2).ext x3).ext x4)⟩
          · cases q
        · cases q
      · cases q
/-! ### d.get(k, x), d.pop(k, x) -/
def getDM : MF
  | S, d, [k, z] => (dictAt S d).bind fun p => (keyOf k).bind fun kk => some ((lkK p.1 p.2 kk).getD z, S)
  | S, d, [k] => (dictAt S d).bind fun p => (keyOf k).bind fun kk => some ((lkK p.1 p.2 kk).getD .non, S)
  | _, _, _ => none
theorem reps_two {K : PySem.W.Frag} {io : Io} {F : Hp} {a b : D} {vs : List V} (h : Reps K C io F [a, b] vs) : ∃ v w, vs = [v, w] ∧ Rep K C io F a v ∧ Rep K C io F b w := by
  cases h with
  | cons h1 h => cases h with
    | cons h2 h => cases h; exact ⟨_, _, rfl, h1, h2⟩
theorem getDM_ok (hu : X.A.units + 64 < cLine) : MthD X C "dict.get" getDM := fun pins s sg H x xs v us Q I rx rxs ⟨io, S, a, as, d, S', dn, ra, ras, e, q⟩ => by
  unfold getDM at e
  split at e
  · rename_i k z
    obtain ⟨⟨ks, ds⟩, e1, e⟩ := bind_some' e
    obtain ⟨kk, e2, e⟩ := bind_some' e
    cases e
    obtain ⟨p, kvs, rfl, ea, rfl, rs⟩ := dictAt_rep e1 dn ra
    obtain ⟨v1, v2, rfl, r1, r2⟩ := reps_two ras
    obtain rfl := keyOf_rep e2 r1
    obtain rfl : v = Value.ref p := rx
    cases rxs with
    | @cons _ u1 _ ur ru1 rxs => cases rxs with
      | @cons _ u2 _ _ ru2 rxs =>
        cases rxs
        refine d_get2 (by omega) I (DGet.k ea) ru1 ru2 fun w' s' I' rw' => ⟨_, H, I', rw', ?_⟩
        cases z1 : lkK (kvs.map (·.1)) ds kk with
        | none => rw [(lk_rep rs).2 z1]; rw [z1] at q; exact q _ H io (Ext.refl _ _) dn r2
        | some dv => obtain ⟨w, hw, rw2⟩ := (lk_rep rs).1 dv z1; rw [hw]; rw [z1] at q; exact q _ H io (Ext.refl _ _) dn rw2
  · rename_i k
    obtain ⟨⟨ks, ds⟩, e1, e⟩ := bind_some' e
    obtain ⟨kk, e2, e⟩ := bind_some' e
    cases e
    obtain ⟨p, kvs, rfl, ea, rfl, rs⟩ := dictAt_rep e1 dn ra
    obtain ⟨v1, rfl, r1⟩ := reps1 ras
    obtain rfl := keyOf_rep e2 r1
    obtain rfl : v = Value.ref p := rx
    cases rxs with
    | @cons _ u1 _ ur ru1 rxs =>
      cases rxs
      refine d_get1 (by omega) I (DGet.k ea) ru1 fun w' s' I' rw' => ⟨_, H, I', rw', ?_⟩
      cases z1 : lkK (kvs.map (·.1)) ds kk with
      | none => rw [(lk_rep rs).2 z1]; rw [z1] at q; exact q _ H io (Ext.refl _ _) dn .non
      | some dv => obtain ⟨w, hw, rw2⟩ := (lk_rep rs).1 dv z1; rw [hw]; rw [z1] at q; exact q _ H io (Ext.refl _ _) dn rw2
  · cases e
def delK : List Key → List D → Key → List Key × List D
  | k' :: ks, x :: xs, k => if k' = k then delK ks xs k else (k' :: (delK ks xs k).1, x :: (delK ks xs k).2)
  | _, _, _ => ([], [])
theorem del_rep {K : PySem.W.Frag} {io : Io} {F : Hp} {k : Key} : ∀ {kvs : List (Key × V)} {xs : List D}, Reps K C io F xs (kvs.map (·.2)) → (dropK kvs k).map (·.1) = (delK (kvs.map (·.1)) xs k).1 ∧ Reps K C io F (delK (kvs.map (·.1)) xs k).2 ((dropK kvs k).map (·.2))
  | [], _, .nil => ⟨rfl, .nil⟩
  | (k', v) :: kvs, _, .cons rx r => by
    obtain ⟨h1, h2⟩ := del_rep (k := k) r
    simp only [List.map_cons, delK]
    unfold dropK at h1 h2 ⊢
    by_cases e : k' = k
    · rw [if_pos e, List.filter_cons, if_neg (by simp [e])]
      exact ⟨h1, h2⟩
    · rw [if_neg e, List.filter_cons, if_pos (by simp [e])]
      exact ⟨by rw [List.map_cons, h1], .cons rx h2⟩
def popDM : MF
  | S, .loc n, [k, z] => match S[n]? with
    | some (.dK ks xs) => (keyOf k).bind fun kk => match lkK ks xs kk with
      | some v => some (v, S.set n (.dK (delK ks xs kk).1 (delK ks xs kk).2))
      | none => some (z, S)
    | _ => none
  | _, _, _ => none
theorem popDM_ok : MthD X C "dict.pop" popDM := fun pins s sg H x xs v us Q I rx rxs ⟨io, S, a, as, d, S', dn, ra, ras, e, q⟩ => by
  unfold popDM at e
  split at e
  · rename_i n k z
    split at e
    · rename_i ks ds e1
      obtain ⟨kk, e2, e⟩ := bind_some' e
      cases ra with
      | @loc _ p hl =>
      obtain ⟨kvs, ea, rfl, rs⟩ := dn.obj n _ p e1 hl
      obtain ⟨v1, v2, rfl, r1, r2⟩ := reps_two ras
      obtain rfl := keyOf_rep e2 r1
      obtain rfl : v = Value.ref p := rx
      cases rxs with
      | @cons _ u1 _ ur ru1 rxs => cases rxs with
        | @cons _ u2 _ _ ru2 rxs =>
          cases rxs
          cases z1 : lkK (kvs.map (·.1)) ds kk with
          | some dv =>
            obtain ⟨w, hw, rw2⟩ := (lk_rep rs).1 dv z1
            rw [z1] at e
            cases e
            obtain ⟨k1, k2⟩ := del_rep (k := kk) rs
            obtain ⟨x4, d4⟩ := put_dK dn hl k1 k2
            exact d_pop I ea ru1 hw (.inr ⟨_, rfl⟩) fun w' s' I' rw' => ⟨w, _, I', rw', q _ _ io x4 d4 (rw2.ext x4)⟩
          | none =>
            rw [z1] at e
            cases e
            exact d_popD I ea ru1 ((lk_rep rs).2 z1) fun s' I' => ⟨v2, H, I', ru2, q _ H io (Ext.refl _ _) dn r2⟩
    · cases e
  · cases e
end
end Ev
namespace Ev
open PySem PySem.Spec L2 PyProof.Rows

/-! ### zip of texts, lists, tuples that stand still -/
inductive ZK where
  | str (x : Str) (t : Tok)
  | lst (a : Addr)
  | tup (a : Addr)
def ZK.u : ZK → Value
  | .str x t => .str x t
  | .lst a => .ref a
  | .tup a => .ref a
def ZK.o : ZK → Obj
  | .str x t => { cls := .type (strIterType x), data := .fields #[.str x t, .int 0 0] }
  | .lst a => { cls := .type "list_iterator", data := .fields #[.ref a, .int 0 0] }
  | .tup a => { cls := .type "tuple_iterator", data := .fields #[.ref a, .int 0 0] }
def ZK.ats : ZK → List Addr
  | .str _ _ => []
  | .lst a => [a]
  | .tup a => [a]
def ZK.it : ZK → Addr → Nat → Heap → Prop
  | .str x t, it, i, h => h.IsStrIter it (strIterType x) x t i
  | .lst a, it, i, h => h.IsListIter it a i
  | .tup a, it, i, h => h.IsTupleIter it a i
def ZK.has (K : PySem.W.Frag) (H : Hp) : ZK → List V → Prop
  | .str x _, xs => xs = x.cps.toList.map fun c => V.str ⟨#[c]⟩
  | .lst a, xs => SqL K H a xs
  | .tup a, xs => SqT K H a xs
theorem ZK.it_at {k : ZK} {it : Addr} {i : Nat} {h : Heap} (st : k.it it i h) : ∃ o, h.get? it = some o ∧ ∀ v, o.data ≠ .cell v := by
  cases k with
  | str x t => obtain ⟨o, ho, hc, hd⟩ := st; exact ⟨o, ho, fun v q => by rw [hd] at q; cases q⟩
  | lst a => obtain ⟨o, ho, hc, hd⟩ := st; exact ⟨o, ho, fun v q => by rw [hd] at q; cases q⟩
  | tup a => obtain ⟨o, ho, hc, hd⟩ := st; exact ⟨o, ho, fun v q => by rw [hd] at q; cases q⟩
theorem ZK.it_keep {k : ZK} {it : Addr} {i : Nat} {h h' : Heap} (st : k.it it i h) (e : ∀ o, h.get? it = some o → h'.get? it = some o) : k.it it i h' := by
  cases k with
  | str x t => obtain ⟨o, ho, r⟩ := st; exact ⟨o, e o ho, r⟩
  | lst a => exact st.at fun o q => e o q
  | tup a => exact st.at fun o q => e o q
theorem ZK.it0 (k : ZK) {it : Addr} {h : Heap} (e : h.get? it = some k.o) : k.it it 0 h := by
  cases k with
  | str x t => exact ⟨_, e, rfl, rfl⟩
  | lst a => exact ⟨_, e, rfl, rfl⟩
  | tup a => exact ⟨_, e, rfl, rfl⟩
/-- what an iterator of it draws -/
theorem ZK.draws {X : Cx} {k : ZK} {it : Addr} {i : Nat} {pins : List (Addr × Obj)} {s : Shared} {σ : L2.St} {H : Hp} {xs : List V} (I : L2.Inv X pins σ H s) (hh : X.A.in1.handled = none) (h : k.has X.K H xs) (hn : it ∉ k.ats) (st : k.it it i s.heap) :
    ∃ fp P St, Draws X.prog X.w X.A.in1 it fp xs.length P St ∧ St i s.heap ∧ (∀ j v, P j v → ∃ x, xs[j]? = some x ∧ RelV x v) ∧ (∀ j h', St j h' → k.it it j h') ∧ it ∈ fp ∧ ∀ b ∈ fp, b = it ∨ b ∈ k.ats := by
  cases k with
  | str x t =>
    have hx : xs = x.cps.toList.map fun c => V.str ⟨#[c]⟩ := h
    subst hx
    have D := Draws.text (prog := X.prog) (w := X.w) hh it x t
    rw [show x.cps.size = (x.cps.toList.map fun c => V.str ⟨#[c]⟩).length by simp] at D
    refine ⟨[it], _, _, D, st, fun j v ⟨c, u, hc, hv⟩ => ⟨.str ⟨#[c]⟩, ?_, ?_⟩, fun j h' q => q, by simp, fun b hb => .inl (by simpa using hb)⟩
    · simp [hc]
    · rw [hv]; exact ⟨u, rfl⟩
  | lst a =>
    obtain ⟨its, rv, p, _⟩ := I.list h
    have hne : a ≠ it := fun e => hn (by simp [ZK.ats, e])
    have D := Draws.list (prog := X.prog) (w := X.w) hh it a hne its.toArray
    rw [List.size_toArray, ← rv.length] at D
    refine ⟨[it, a], _, _, D, ⟨st, p.isList⟩, fun j v hv => ?_, fun j h' q => q.1, by simp, fun b hb => ?_⟩
    · have hv' : its[j]? = some v := by simpa using hv
      obtain ⟨hj, e⟩ := List.getElem?_eq_some_iff.mp hv'
      have hj2 : j < xs.length := by rw [rv.length]; exact hj
      obtain ⟨u, hu, ru⟩ := rv.get (i := j) (x := xs[j]) (by simp [hj2])
      rw [hv'] at hu; cases hu
      exact ⟨xs[j], by simp [hj2], ru⟩
    · have e' : b = it ∨ b = a := by simpa using hb
      rcases e' with e' | e'
      · exact .inl e'
      · exact .inr (by simp [ZK.ats, e'])
  | tup a =>
    obtain ⟨its, rv, p, _⟩ := I.tuple h
    have hne : a ≠ it := fun e => hn (by simp [ZK.ats, e])
    have D := Draws.tuple (prog := X.prog) (w := X.w) hh it a hne its.toArray
    rw [List.size_toArray, ← rv.length] at D
    refine ⟨[it, a], _, _, D, ⟨st, p⟩, fun j v hv => ?_, fun j h' q => q.1, by simp, fun b hb => ?_⟩
    · have hv' : its[j]? = some v := by simpa using hv
      obtain ⟨hj, e⟩ := List.getElem?_eq_some_iff.mp hv'
      have hj2 : j < xs.length := by rw [rv.length]; exact hj
      obtain ⟨u, hu, ru⟩ := rv.get (i := j) (x := xs[j]) (by simp [hj2])
      rw [hv'] at hu; cases hu
      exact ⟨xs[j], by simp [hj2], ru⟩
    · have e' : b = it ∨ b = a := by simpa using hb
      rcases e' with e' | e'
      · exact .inl e'
      · exact .inr (by simp [ZK.ats, e'])
/-- the cells of a zip lie apart, and apart from what is zipped -/
structure ZAp (z TI TO i1 i2 : Addr) (k1 k2 : ZK) : Prop where
  TIz : TI ≠ z
  TOz : TO ≠ z
  TITO : TI ≠ TO
  TIi1 : TI ≠ i1
  TIi2 : TI ≠ i2
  zi1 : z ≠ i1
  zi2 : z ≠ i2
  Ti1 : TO ≠ i1
  Ti2 : TO ≠ i2
  i12 : i1 ≠ i2
  out : ∀ b, b = z ∨ b = TI ∨ b = TO ∨ b = i1 ∨ b = i2 → b ∉ k1.ats ∧ b ∉ k2.ats
theorem zap (n : Nat) {k1 k2 : ZK} (a1 : ∀ b ∈ k1.ats, b < n) (a2 : ∀ b ∈ k2.ats, b < n) : ZAp (n + 4) (n + 2) (n + 3) n (n + 1) k1 k2 := by
  refine ⟨?_, ?_, ?_, ?_, ?_, ?_, ?_, ?_, ?_, ?_, fun b hb => ?_⟩
  · show (n + 2 : Nat) ≠ n + 4; omega
  · show (n + 3 : Nat) ≠ n + 4; omega
  · show (n + 2 : Nat) ≠ n + 3; omega
  · show (n + 2 : Nat) ≠ n; omega
  · show (n + 2 : Nat) ≠ n + 1; omega
  · show (n + 4 : Nat) ≠ n; omega
  · show (n + 4 : Nat) ≠ n + 1; omega
  · show (n + 3 : Nat) ≠ n; omega
  · show (n + 3 : Nat) ≠ n + 1; omega
  · show (n : Nat) ≠ n + 1; omega
  · have hle : n ≤ b := by
      rcases hb with z | z | z | z | z
      · rw [z]; exact Nat.le_add_right _ _
      · rw [z]; exact Nat.le_add_right _ _
      · rw [z]; exact Nat.le_add_right _ _
      · rw [z]; exact Nat.le_refl _
      · rw [z]; exact Nat.le_add_right _ _
    exact ⟨fun z => Nat.lt_irrefl _ (Nat.lt_of_lt_of_le (a1 b z) hle), fun z => Nat.lt_irrefl _ (Nat.lt_of_lt_of_le (a2 b z) hle)⟩
theorem ZAp.sep {z TI TO i1 i2 : Addr} {k1 k2 : ZK} (D : ZAp z TI TO i1 i2 k1 k2) {fp1 fp2 : List Addr} (m1 : i1 ∈ fp1) (m2 : i2 ∈ fp2) (f1 : ∀ b ∈ fp1, b = i1 ∨ b ∈ k1.ats) (f2 : ∀ b ∈ fp2, b = i2 ∨ b ∈ k2.ats) : ZipSep2 z TI TO i1 i2 fp1 fp2 where
  TIz := D.TIz
  TOz := D.TOz
  TITO := D.TITO
  TIi1 := D.TIi1
  mem1 := m1
  zf1 := fun h => (f1 _ h).elim D.zi1 (D.out z (by simp)).1
  Tf1 := fun h => (f1 _ h).elim D.Ti1 (D.out TO (by simp)).1
  TIi2 := D.TIi2
  mem2 := m2
  zf2 := fun h => (f2 _ h).elim D.zi2 (D.out z (by simp)).2
  Tf2 := fun h => (f2 _ h).elim D.Ti2 (D.out TO (by simp)).2
  sep1_2 := fun h => (f2 _ h).elim D.i12 (D.out i1 (by simp)).2
  sep2_1 := fun h => (f1 _ h).elim D.i12.symm (D.out i2 (by simp)).1
def ItZ (K : PySem.W.Frag) (k1 k2 : ZK) (xs ys : List V) : It :=
  ⟨fun i H => k1.has K H xs ∧ k2.has K H ys ∧ i < xs.length ∧ i < ys.length,
    fun i H v H' => ∃ T x y, v = .ref T ∧ H T = none ∧ H' = upd H T (.tup [x, y]) ∧ xs[i]? = some x ∧ ys[i]? = some y,
    fun i H => k1.has K H xs ∧ k2.has K H ys ∧ (xs.length ≤ i ∨ ys.length ≤ i)⟩
theorem turn_zipZ {P : Program} {w : World} {K : PySem.W.Frag} {elts : List Expr} {kk : Nat} {tpos : Pos} {z TI TO i1 i2 : Addr} {k1 k2 : ZK} {xs ys : List V} (D : ZAp z TI TO i1 i2 k1 k2) :
    Turn P w K (.Tuple elts kk tpos) (ItZ K k1 k2 xs ys) [z, TI, TO, i1, i2] z (fun i h => IsZip h z TI TO .none ∧ IsTupOf2 h TI (.ref i1) (.ref i2) ∧ (∃ x y, IsTupOf2 h TO x y) ∧ k1.it i1 i h ∧ k2.it i2 i h ∧ i ≤ xs.length ∧ i ≤ ys.length) where
  mem := by simp
  obj := fun i h st c hc => by
    obtain ⟨hz, hTI, ⟨x, y, hTO⟩, h1, h2, _⟩ := st
    have e' : c = z ∨ c = TI ∨ c = TO ∨ c = i1 ∨ c = i2 := by simpa using hc
    rcases e' with q | q | q | q | q
    · rw [q]; exact ⟨_, hz, fun v q => nomatch q⟩
    · rw [q]; exact ⟨_, hTI, fun v q => nomatch q⟩
    · rw [q]; exact ⟨_, hTO, fun v q => nomatch q⟩
    · rw [q]; exact (ZK.it_at h1)
    · rw [q]; exact (ZK.it_at h2)
  keep := fun i h h' st k => by
    obtain ⟨hz, hTI, ⟨x, y, hTO⟩, h1, h2, l⟩ := st
    exact ⟨k z (by simp) _ hz, k TI (by simp) _ hTI, ⟨x, y, k TO (by simp) _ hTO⟩, ZK.it_keep h1 fun o q => k i1 (by simp) o q, ZK.it_keep h2 fun o q => k i2 (by simp) o q, l⟩
  item := by
    intro X hP hw hK hc i pins s σ H E I hf st hg
    subst hP hw hK
    obtain ⟨hz, hTI, ⟨x0, y0, hTO⟩, h1, h2, l1, l2⟩ := st
    obtain ⟨q1, q2, g1, g2⟩ := hg
    have hh : X.A.in1.handled = none := I.ok.hd hc
    obtain ⟨fp1, P1, St1, D1, s1, r1, b1, m1, f1⟩ := ZK.draws I hh q1 (D.out i1 (by simp)).1 h1
    obtain ⟨fp2, P2, St2, D2, s2, r2, b2, m2, f2⟩ := ZK.draws I hh q2 (D.out i2 (by simp)).2 h2
    have S := D.sep m1 m2 f1 f2
    have hzl : z < s.heap.objs.size := Heap.lt_size hz
    refine wpAny_pyNext_zipD2_item S D1 D2 hz hTI hTO s1 s2 g1 g2 fun u1 u2 h' tk p1 p2 z' TO' h1' h2' hT hsz hk => ?_
    obtain ⟨x, hx, rx⟩ := r1 i u1 p1
    obtain ⟨y, hy, ry⟩ := r2 i u2 p2
    refine ⟨_, rfl, wpAny_letOwnedTupleGo_zip (s := { s with heap := h', toks := tk }) z' fun h'' z'' sb => ?_⟩
    have hT2 : h''.get? s.heap.objs.size = some { cls := .type "tuple", data := .seq #[u1, u2] } := (sb.2 _ (Nat.ne_of_gt hzl)).trans hT
    have new : ObjOk X.prog X.w (upd H s.heap.objs.size (.tup [x, y])) h'' s.heap.objs.size (.tup [x, y]) :=
      ⟨by show 2 ≤ sizeLine; decide, [u1, u2], .cons rx (.cons ry .nil), ⟨_, hT2, rfl, _, rfl⟩⟩
    have I1 : L2.Inv X pins σ (upd H s.heap.objs.size (.tup [x, y])) { s with heap := h'', toks := tk } :=
      I.turnedNew (t' := tk) (ch := [z, TI, TO, i1, i2]) (fun c o hb q => (sb.2 c (fun q' => hb (by simp [q']))).trans (hk c o (fun q' => hb (by simp [q'])) (fun q' => hb (by simp [q'])) (fun q' => hb (by simp [q'])) (fun q' => hb (by simp [q'])) q)) hf (Nat.le_refl _) new
    refine ⟨.ref s.heap.objs.size, _, I1, rfl, ⟨_, x, y, rfl, I.hok.fresh (Nat.le_refl _), rfl, hx, hy⟩, ⟨z'', ?_, ⟨u1, u2, ?_⟩, ?_, ?_, g1, g2⟩, fun c hcm => ?_⟩
    · exact (sb.2 _ D.TIz).trans (hk _ _ D.TIz D.TITO D.TIi1 D.TIi2 hTI)
    · exact (sb.2 _ D.TOz).trans TO'
    · exact ZK.it_keep (b1 _ _ h1') fun o q => (sb.2 _ D.zi1.symm).trans q
    · exact ZK.it_keep (b2 _ _ h2') fun o q => (sb.2 _ D.zi2.symm).trans q
    · have hlt : c < s.heap.objs.size := by
        have e' : c = z ∨ c = TI ∨ c = TO ∨ c = i1 ∨ c = i2 := by simpa using hcm
        rcases e' with q | q | q | q | q
        · rw [q]; exact hzl
        · rw [q]; exact Heap.lt_size hTI
        · rw [q]; exact Heap.lt_size hTO
        · rw [q]; obtain ⟨_, e1, _⟩ := (ZK.it_at h1); exact Heap.lt_size e1
        · rw [q]; obtain ⟨_, e2, _⟩ := (ZK.it_at h2); exact Heap.lt_size e2
      rw [upd_ne (Nat.ne_of_lt hlt)]
      exact (hf c hcm).1
  done := by
    intro X hP hw hK hc i pins s σ H E I hf st hg
    subst hP hw hK
    obtain ⟨hz, hTI, ⟨x0, y0, hTO⟩, h1, h2, l1, l2⟩ := st
    obtain ⟨q1, q2, hend⟩ := hg
    have hh : X.A.in1.handled = none := I.ok.hd hc
    obtain ⟨fp1, P1, St1, D1, s1, r1, b1, m1, f1⟩ := ZK.draws I hh q1 (D.out i1 (by simp)).1 h1
    obtain ⟨fp2, P2, St2, D2, s2, r2, b2, m2, f2⟩ := ZK.draws I hh q2 (D.out i2 (by simp)).2 h2
    exact wpAny_pyNext_zipD2_end (D.sep m1 m2 f1 f2) D1 D2 hz hTI hTO s1 s2 l1 l2 (by omega) fun h' tk hk => ⟨rfl, I.turnedL (t' := tk) (ch := [z, TI, TO, i1, i2]) (fun c o hb q =>
      hk c o (fun q' => hb (by simp [q'])) (fun q' => hb (by simp [q'])) (fun q' => hb (by simp [q'])) (fun q' => hb (by simp [q'])) q) hf⟩
  self := fun A i s Q E st h => wpAny_pyIter_zip st.1 h
/-- what stands still, as it is zipped -/
inductive ZSrc (K : PySem.W.Frag) (C : Nat → Addr) (io : Io) (F : Hp) : D → List D → V → List V → Prop
  | str (x : Str) : ZSrc K C io F (.str x) (signsD x) (.str x) (x.cps.toList.map fun c => V.str ⟨#[c]⟩)
  | lst {a : Addr} {vs : List V} {ds : List D} : SqL K F a vs → Reps K C io F ds vs → ZSrc K C io F (.lst ds) ds (.ref a) vs
  | tup {a : Addr} {vs : List V} {ds : List D} : SqT K F a vs → Reps K C io F ds vs → ZSrc K C io F (.tup ds) ds (.ref a) vs
theorem ZSrc.reps {K : PySem.W.Frag} {C : Nat → Addr} {io : Io} {F : Hp} {d : D} {ds : List D} {v : V} {vs : List V} (h : ZSrc K C io F d ds v vs) : Reps K C io F ds vs := by
  cases h with
  | str x => exact reps_signs _
  | lst _ r => exact r
  | tup _ r => exact r
theorem ZSrc.of {K : PySem.W.Frag} {C : Nat → Addr} {io : Io} {F : Hp} {d : D} {ds : List D} {v : V} (h : itemsD d = some ds) (r : Rep K C io F d v) : ∃ vs, ZSrc K C io F d ds v vs := by
  cases r <;> cases h
  · exact ⟨_, .str _⟩
  · rename_i q r; exact ⟨_, .tup q r⟩
  · rename_i q r; exact ⟨_, .lst q r⟩
/-- its iterator -/
theorem ZSrc.zk {X : Cx} {C : Nat → Addr} {io : Io} {H : Hp} {F : Hp} {d : D} {ds : List D} {v : V} {vs : List V} {u : Value} {pins : List (Addr × Obj)} {s : Shared} {σ : L2.St} (h : ZSrc X.K C io F d ds v vs) (hs : Same F H) (I : L2.Inv X pins σ H s) (r : RelV v u) :
    ∃ (k : ZK) (G : Heap → Prop), k.u = u ∧ Begins k.u k.o G ∧ G s.heap ∧ (∀ b ∈ k.ats, b < s.heap.objs.size) ∧ ∀ H', Same F H' → k.has X.K H' vs := by
  cases h with
  | str x =>
    obtain ⟨t, rfl⟩ := r
    exact ⟨.str x t, fun _ => True, rfl, begins_text x t, trivial, fun b hb => by simp [ZK.ats] at hb, fun _ _ => rfl⟩
  | lst q r' =>
    rename_i a
    cases r
    obtain ⟨its, rv, p, _⟩ := I.list (hs.seq q)
    exact ⟨.lst a, _, rfl, begins_list a its.toArray, p.isList, fun b hb => by
      have e : b = a := by simpa [ZK.ats] using hb
      rw [e]; exact p.lt, fun H' h' => h'.seq q⟩
  | tup q r' =>
    rename_i a
    cases r
    obtain ⟨its, rv, p, _⟩ := I.tuple (sqT_same hs q)
    obtain ⟨o1, ho1, _⟩ := id p
    exact ⟨.tup a, _, rfl, begins_tuple a its.toArray, p, fun b hb => by
      have e : b = a := by simpa [ZK.ats] using hb
      rw [e]; exact Heap.lt_size ho1, fun H' h' => sqT_same h' q⟩
def zipD : List D → Option (List D)
  | [a, b] => (itemsD a).bind fun xs => (itemsD b).bind fun ys => some (List.zipWith (fun x y => D.tup [x, y]) xs ys)
  | _ => none
theorem wk_zip {K : PySem.W.Frag} {C : Nat → Addr} {io : Io} {F : Hp} {k1 k2 : ZK} {xs ys : List V} {ds es : List D} (h1 : ∀ H', Same F H' → k1.has K H' xs) (h2 : ∀ H', Same F H' → k2.has K H' ys) (r1 : Reps K C io F ds xs) (r2 : Reps K C io F es ys) :
    Wk K C io F (List.zipWith (fun x y => D.tup [x, y]) ds es) (ItZ K k1 k2 xs ys) := fun io' H' S' hp hs dn => by
  have hs' : Same F H' := hs.trans (Fz_same _ _)
  have l1 := r1.length
  have l2 := r2.length
  have hl : (List.zipWith (fun x y => D.tup [x, y]) ds es).length = min ds.length es.length := by simp
  refine ⟨fun i hi => ?_, ⟨h1 _ hs', h2 _ hs', by rw [hl]; omega⟩, fun i v H'' hi y => ?_⟩
  · rw [hl] at hi
    exact ⟨h1 _ hs', h2 _ hs', by omega, by omega⟩
  · obtain ⟨T, x, y, rfl, hT, rfl, hx, hy⟩ := y
    obtain ⟨d, e1, e2⟩ := r1.getV hx
    obtain ⟨e, e3, e4⟩ := r2.getV hy
    obtain ⟨x1, d1, r1⟩ := new_tup (xs := [d, e]) dn (.cons (e2.mono hp hs) (.cons (e4.mono hp hs) .nil)) hT
    exact ⟨.tup [d, e], by simp [List.getElem?_zipWith, e1, e3], x1, d1, r1⟩
section
variable {X : Cx} {C : Nat → Addr} {W : WX} {e e2 : Expr} {rs : RA} {pos p tpos : Pos} {elts : List Expr} {kk : Nat}
theorem ei_zip (hg : Gl X "zip") (hm : X.mg "zip" = none) (ha : PA X [e, e2] (tA X.K C W rs)) (hs : starEach [e, e2] X.env = (false, eval e X.env) :: starEach [e2] X.env := by rfl) (hpl : (backTo pos (starEach [e2] X.env)).any (·.1) = false := by rfl) :
    PI X (.Tuple elts kk tpos) (.Call (.Name "zip" p) [e, e2] [] pos) (tI X.K C W (rRan zipD rs)) := by
  have hi : PI X (.Tuple elts kk tpos) (.Call (.Name "zip" p) [e, e2] [] pos) (fun sg H R => tA X.K C W rs sg H fun vs H1 => ∃ (v1 v2 : V) (io : Io) (F : Hp) (d1 d2 : D) (ds es : List D) (xs ys : List V), vs = [v1, v2] ∧ Same F H1 ∧ ZSrc X.K C io F d1 ds v1 xs ∧ ZSrc X.K C io F d2 es v2 ys ∧
      ∀ k1 k2 : ZK, (∀ H', Same F H' → k1.has X.K H' xs) → (∀ H', Same F H' → k2.has X.K H' ys) → R (ItZ X.K k1 k2 xs ys) H1) := by
    refine ⟨fun pins s σ H R I h => ?_⟩
    refine Call_ (ld_blt I hg hm PyProof.Rows.boot_zip (PyProof.Rows.callWith_type1 (thn (ha.run pos pins s σ H _ I h) fun us s1 ⟨vs, H1, I1, r1, q1⟩ => ?_) hs hpl))
    obtain ⟨v1, v2, io, F, d1, d2, ds, es, xs, ys, rfl, hF, z1, z2, q⟩ := q1
    cases r1 with
    | cons r rr =>
      cases rr with
      | cons r' rr =>
        cases rr
        obtain ⟨k1, G1, rfl, B1, g1, a1, w1⟩ := z1.zk hF I1 r
        obtain ⟨k2, G2, rfl, B2, g2, a2, w2⟩ := z2.zk hF I1 r'
        refine zip_begins2 B1 B2 g1 g2 fun h' hz hTI hTO hi1 hi2 hsz hk => wpAny_pyIter_zip hz ?_
        have I2 : L2.Inv X pins σ H1 { s1 with heap := h' } := I1.kept (t' := s1.toks) hk
        have ap := zap s1.heap.objs.size a1 a2
        refine ⟨s1.heap.objs.size + 4, [s1.heap.objs.size + 4, s1.heap.objs.size + 2, s1.heap.objs.size + 3, s1.heap.objs.size, s1.heap.objs.size + 1], _, _, H1, rfl, I2, turn_zipZ (xs := xs) (ys := ys) ap, ⟨hz, hTI, ⟨_, _, hTO⟩, k1.it0 hi1, k2.it0 hi2, Nat.zero_le _, Nat.zero_le _⟩, fun c hcm => ?_, q k1 k2 w1 w2⟩
        have e' : c = s1.heap.objs.size + 4 ∨ c = s1.heap.objs.size + 2 ∨ c = s1.heap.objs.size + 3 ∨ c = s1.heap.objs.size ∨ c = s1.heap.objs.size + 1 := by simpa using hcm
        have hle : s1.heap.objs.size ≤ c := by
          rcases e' with z | z | z | z | z
          · rw [z]; exact Nat.le_add_right _ _
          · rw [z]; exact Nat.le_add_right _ _
          · rw [z]; exact Nat.le_add_right _ _
          · rw [z]; exact Nat.le_refl _
          · rw [z]; exact Nat.le_add_right _ _
        exact I1.fpOk hle (I1.hok.fresh hle)
  refine hi.imp fun sg H R h => (tR.seq1 (R := RepsR X.K C) (fun _ ds S => ofO (zipD ds) S) h fun _ _ => rfl).mono fun vs H1 ⟨e, S, io, ds, dn, s, r, p1⟩ => ?_
  obtain ⟨zs, ed, p1⟩ := p1.ofO
  unfold zipD at ed
  split at ed
  · obtain ⟨xs, e1, ed⟩ := bind_some' ed
    obtain ⟨ys, e2, ed⟩ := bind_some' ed
    cases ed
    obtain ⟨v, w, rfl, h1, h2⟩ := reps2 r
    obtain ⟨us, z1⟩ := ZSrc.of e1 h1
    obtain ⟨ws, z2⟩ := ZSrc.of e2 h2
    exact ⟨v, w, io, Fz io H1, _, _, xs, ys, us, ws, rfl, Fz_same _ _, z1, z2, fun k1 k2 w1 w2 => p1 _ H1 io (Ext.refl _ _) dn (wk_zip w1 w2 z1.reps z2.reps)⟩
  · cases ed
end
end Ev
namespace Ev
open PySem PySem.Spec L2 PyProof.Rows

/-! ### what a def has made of its own stands still behind it -/
mutual
def D.low (n : Nat) : D → Bool
  | .loc m => decide (m < n)
  | .tup xs => lows n xs
  | .lst xs => lows n xs
  | .dct _ xs => lows n xs
  | .exn _ _ xs => lows n xs
  | .non => true
  | .bl _ => true
  | .int _ => true
  | .str _ => true
def lows (n : Nat) : List D → Bool
  | [] => true
  | d :: ds => D.low n d && lows n ds
end
def MO.low (n : Nat) : MO → Bool
  | .lst xs => lows n xs
  | .dK _ xs => lows n xs
  | .ins _ _ xs => lows n xs
def lowS (n : Nat) : List MO → Bool
  | [] => true
  | o :: S => MO.low n o && lowS n S
theorem lowS_get {n : Nat} : ∀ {S : List MO} {k : Nat} {o : MO}, lowS n S = true → S[k]? = some o → MO.low n o = true
  | [], _, _, _, h => by simp at h
  | o :: S, 0, _, h, e => by
    simp only [lowS, Bool.and_eq_true] at h
    simp at e; subst e; exact h.1
  | o :: S, k + 1, o', h, e => by
    simp only [lowS, Bool.and_eq_true] at h
    exact lowS_get (k := k) h.2 (by simpa using e)
def frzD (n : Nat) (S : Store) : D → Option D
  | .loc m => if m < n then some (.loc m) else match S[m]? with
    | some (.lst xs) => if lows n xs = true then some (.lst xs) else none
    | some (.dK ks xs) => if lows n xs = true then some (.dct ks xs) else none
    | _ => none
  | d => if D.low n d = true then some d else none
def frz (n : Nat) : Res D → Res D
  | .ok d S => match frzD n S d with
    | some d' => if lowS n (S.take n) = true then .ok d' (S.take n) else .bad
    | none => .bad
  | .err x S => if (lows n x.xs && lowS n (S.take n)) = true then .err x (S.take n) else .bad
  | .bad => .bad
def cutIo (n : Nat) (io : Io) : Io := ⟨io.l.take n, io.h⟩
theorem cut_sub {n : Nat} {io : Io} {b : Addr} (h : b ∈ (cutIo n io).all) : b ∈ io.all := by
  unfold cutIo Io.all at *
  simp only [List.mem_append] at *
  exact h.imp (fun z => List.mem_of_mem_take z) id
theorem cut_same {n : Nat} {io : Io} {H : Hp} : Same (Fz io H) (Fz (cutIo n io) H) := fun b o e => by
  by_cases hb : b ∈ io.all
  · rw [Fz_in hb] at e; cases e
  · rw [Fz_out hb] at e
    rw [Fz_out fun z => hb (cut_sub z)]; exact e
mutual
theorem low_rep {K : PySem.W.Frag} {C : Nat → Addr} {n : Nat} {io : Io} {F F' : Hp} (hs : Same F F') : ∀ {d : D} {v : V}, D.low n d = true → Rep K C io F d v → Rep K C (cutIo n io) F' d v
  | _, _, _, .non => .non
  | _, _, _, .bl b => .bl b
  | _, _, _, .int i => .int i
  | _, _, _, .str x => .str x
  | _, _, l, .tup h r => .tup (sqT_same hs h) (lows_reps hs (by simpa [D.low] using l) r)
  | _, _, l, .lst h r => .lst (hs.seq h) (lows_reps hs (by simpa [D.low] using l) r)
  | _, _, l, .dct h e1 e2 r => .dct (hs _ _ h) e1 e2 (lows_reps hs (by simpa [D.low] using l) r)
  | .loc m, _, l, .loc h => .loc (by
    have hm : m < n := by simpa [D.low] using l
    show (io.l.take n)[m]? = some _
    rw [List.getElem?_take, if_pos hm]; exact h)
  | _, _, _, .exn0 h => .exn0 (hs _ _ h)
  | _, _, l, .exnF h h2 e1 e2 r => .exnF (hs _ _ h) (hs _ _ h2) e1 e2 (lows_reps hs (by simpa [D.low] using l) r)
theorem lows_reps {K : PySem.W.Frag} {C : Nat → Addr} {n : Nat} {io : Io} {F F' : Hp} (hs : Same F F') : ∀ {ds : List D} {vs : List V}, lows n ds = true → Reps K C io F ds vs → Reps K C (cutIo n io) F' ds vs
  | _, _, _, .nil => .nil
  | _, _, l, .cons h r => .cons (low_rep hs (by simp only [lows, Bool.and_eq_true] at l; exact l.1) h) (lows_reps hs (by simp only [lows, Bool.and_eq_true] at l; exact l.2) r)
end
theorem cut_den {K : PySem.W.Frag} {C : Nat → Addr} {n : Nat} {io : Io} {S : Store} {H : Hp} (d : Den K C io S H) (h : lowS n (S.take n) = true) : Den K C (cutIo n io) (S.take n) H := by
  have nd := List.nodup_append.mp d.nd
  refine ⟨by simp [cutIo, d.len], ?_, fun k o a e1 e2 => ?_, d.hid⟩
  · unfold cutIo Io.all
    rw [List.nodup_append]
    exact ⟨nd.1.sublist (List.take_sublist _ _), nd.2.1, fun a ha b hb => nd.2.2 a (List.mem_of_mem_take ha) b hb⟩
  · have lo := lowS_get h e1
    rw [List.getElem?_take] at e1
    have e2' : (io.l.take n)[k]? = some a := e2
    rw [List.getElem?_take] at e2'
    split at e1
    · rename_i hk
      rw [if_pos hk] at e2'
      have q := d.obj k o a e1 e2'
      cases o with
      | lst zs => obtain ⟨us, h1, h2⟩ := q; exact ⟨us, h1, lows_reps cut_same lo h2⟩
      | dK ks zs => obtain ⟨us, h1, h2, h3⟩ := q; exact ⟨us, h1, h2, lows_reps cut_same lo h3⟩
      | ins c ns zs => obtain ⟨dx, fs, h1, h2, h3, h4⟩ := q; exact ⟨dx, fs, h1, h2, h3, lows_reps cut_same lo h4⟩
    · cases e1
theorem cut_ext {K : PySem.W.Frag} {C : Nat → Addr} {io io' : Io} {S : Store} {H H' : Hp} (d : Den K C io S H) (x : Ext io H io' H') : Ext io H (cutIo S.length io') H' := by
  refine ⟨fun k a e => ?_, x.hid, x.same.trans cut_same⟩
  have hk : k < S.length := by rw [← d.len]; exact (List.getElem?_eq_some_iff.mp e).1
  show (io'.l.take S.length)[k]? = some a
  rw [List.getElem?_take, if_pos hk]
  exact x.pre k a e
/-- behind the cut a place stands still -/
theorem cut_out {K : PySem.W.Frag} {C : Nat → Addr} {n m : Nat} {io : Io} {S : Store} {H : Hp} {a : Addr} (d : Den K C io S H) (h : io.l[m]? = some a) (hm : ¬ m < n) : a ∉ (cutIo n io).all := fun z => by
  have nd := List.nodup_append.mp d.nd
  have z' : a ∈ io.l.take n ++ io.h.map (·.1) := z
  rcases List.mem_append.mp z' with z | z
  · obtain ⟨k, hk, e⟩ := List.getElem_of_mem z
    have hk' : k < n := by rw [List.length_take] at hk; omega
    have e' : io.l[k]? = some a := by
      have q : (io.l.take n)[k]? = some a := by rw [List.getElem?_eq_getElem hk, e]
      rw [List.getElem?_take, if_pos hk'] at q; exact q
    have := nodup_at nd.1 e' h
    omega
  · exact nd.2.2 a (List.mem_of_getElem? h) a z rfl
theorem frz_rep {K : PySem.W.Frag} {C : Nat → Addr} {n : Nat} {io : Io} {S : Store} {H : Hp} {d d' : D} {v : V} (dn : Den K C io S H) (h : frzD n S d = some d') (r : Rep K C io (Fz io H) d v) : Rep K C (cutIo n io) (Fz (cutIo n io) H) d' v := by
  unfold frzD at h
  split at h
  · rename_i m
    split at h
    · rename_i hm
      cases h
      exact low_rep cut_same (by simpa [D.low] using hm) r
    · rename_i hm
      cases r with
      | @loc _ a hl =>
      have out := cut_out dn hl hm
      split at h
      · rename_i xs e
        split at h
        · rename_i lo
          cases h
          obtain ⟨vs, h1, h2⟩ := dn.obj m _ a e hl
          exact .lst (.inl (.inl (by rw [Fz_out out]; exact h1))) (lows_reps cut_same lo h2)
        · cases h
      · rename_i ks xs e
        split at h
        · rename_i lo
          cases h
          obtain ⟨kvs, h1, h2, h3⟩ := dn.obj m _ a e hl
          exact .dct (by rw [Fz_out out]; exact h1) h2 rfl (lows_reps cut_same lo h3)
        · cases h
      · cases h
  · split at h
    · rename_i lo
      cases h
      exact low_rep cut_same lo r
    · cases h
theorem frz_post {K : PySem.W.Frag} {C : Nat → Addr} {W : WX} {sg : L2.St} {io : Io} {S : Store} {H : Hp} {r : Res D} {Q : VK} (dn : Den K C io S H) (p : Post K C (RepR K C) W sg io H (frz S.length r) Q) : Post K C (RepR K C) W sg io H r Q := by
  cases r with
  | bad => exact p
  | ok d S' =>
    dsimp only [frz] at p
    cases e : frzD S.length S' d with
    | none => rw [e] at p; exact p.elim
    | some d' =>
      rw [e] at p
      dsimp only at p
      split at p
      · rename_i lo
        exact fun b H' io' x d1 rp => p b H' _ (cut_ext dn x) (cut_den d1 lo) (frz_rep d1 e rp)
      · exact p.elim
  | err x S' =>
    dsimp only [frz] at p
    split at p
    · rename_i lo
      rw [Bool.and_eq_true] at lo
      refine fun cls dd H' io' y d1 rx => p cls dd H' _ (cut_ext dn y) (cut_den d1 lo.2) ?_
      obtain ⟨e1, h⟩ := rx
      refine ⟨e1, h.imp id ?_⟩
      rintro ⟨d, fs, h1, h2, h3, h4⟩
      exact ⟨d, fs, h1, h2, h3, lows_reps cut_same lo.1 h4⟩
    · exact p.elim
theorem fn_frz {P : Program} {w : World} {K : PySem.W.Frag} {mg : Str → Option Value} {base : Heap} {C : Nat → Addr} {f : Addr} {fd : FuncData} {ps : List Str} {k n : Nat} {g : List D → Store → Res D} (F : FnOk P w K mg base (L2.CX P w) k f fd ps (spOf K C n g)) :
    FnOk P w K mg base (L2.CX P w) k f fd ps (spOf K C n fun ds S => frz S.length (g ds S)) :=
  F.imp fun vs H Q E ⟨hl, ds, S, io, dn, rs, p⟩ => ⟨hl, ds, S, io, dn, rs, frz_post dn p⟩
theorem fg_frz {P : Program} {w : World} {K : PySem.W.Frag} {mg : Str → Option Value} {base : Heap} {C : Nat → Addr} {f : Addr} {fd : FuncData} {ps : List Str} {k n : Nat} {g : List D → Store → Res D} (F : FnG P w K mg base (L2.CX P w) k f fd ps (spOf K C n g)) :
    FnG P w K mg base (L2.CX P w) k f fd ps (spOf K C n fun ds S => frz S.length (g ds S)) :=
  have h : ∀ vs H Q E, spOf K C n (fun ds S => frz S.length (g ds S)) vs H Q E → spOf K C n g vs H Q E := fun vs H Q E ⟨hl, ds, S, io, dn, rs, p⟩ => ⟨hl, ds, S, io, dn, rs, frz_post dn p⟩
  ⟨fun vs H Q E q => F.len vs H Q E (h _ _ _ _ q), fun A outer s H args us vs Q E hr he hb hv hs => F.run A outer s H args us vs Q E hr he hb hv (h _ _ _ _ hs)⟩
/-- a def of which nothing is said -/
theorem fn_bad {P : Program} {w : World} {K : PySem.W.Frag} {mg : Str → Option Value} {base : Heap} {CX : CXT} {C : Nat → Addr} {f : Addr} {fd : FuncData} {ps : List Str} {k n : Nat} : FnOk P w K mg base CX k f fd ps (spOf K C n fun _ _ => .bad) :=
  ⟨fun _ _ _ _ ⟨_, _, _, _, _, _, p⟩ => p.elim, fun _ _ _ _ _ _ _ _ _ _ _ _ _ ⟨_, _, _, _, _, _, p⟩ => p.elim⟩
end Ev
namespace Ev
open PySem PySem.Spec L2 PyProof.Rows

/-! ### a dict of texts that the module has written -/
def kdEnt (P : Params) : List (Str × Str) → List (Tok × Tok) → List DictEntry
  | kv :: kvs, t :: ts => { hash := PyData.keyHash P kv.1, key := .str kv.1 t.1, val := .str kv.2 t.2 } :: kdEnt P kvs ts
  | _, _ => []
structure KDic (K : PySem.W.Frag) (P : Params) (a : Addr) (kvs : List (Str × Str)) : Prop where
  at' : ∃ (ts : List (Tok × Tok)) (n : Nat), ts.length = kvs.length ∧ K.lookup a = some ⟨.type "dict", none, .dict (kdEnt P kvs ts).toArray n, #[]⟩
  nd : (kvs.map (·.1)).Nodup
  lo : (a == sysModules) = false
  sz : kvs.length ≤ sizeLine
def kdV (kvs : List (Str × Str)) : List (Key × V) := kvs.map fun kv => (Sum.inr kv.1, V.str kv.2)
theorem kd_pairs {P : Program} {w : World} : ∀ {kvs : List (Str × Str)} {ts : List (Tok × Tok)}, ts.length = kvs.length → ∃ vs : List (Key × Value), KV (kdV kvs) vs ∧ Pairs (mixKind P w) (kdEnt w.params kvs ts) vs ∧ (∀ e ∈ kdEnt w.params kvs ts, ∃ k, (mixKind P w).is k e.key = true ∧ e.hash = (mixKind P w).hash k)
  | [], [], _ => ⟨[], .nil, Pairs.nil, fun e he => by simp [kdEnt] at he⟩
  | kv :: kvs, t :: ts, h => by
    obtain ⟨vs, h1, h2, h3⟩ := kd_pairs (P := P) (w := w) (kvs := kvs) (ts := ts) (by simpa using h)
    refine ⟨(Sum.inr kv.1, .str kv.2 t.2) :: vs, .cons ⟨rfl, ⟨_, rfl⟩⟩ h1, ?_, fun e he => ?_⟩
    · exact .cons (mixKind_str P w kv.1 t.1) rfl h2
    · rcases List.mem_cons.mp he with rfl | he
      · exact ⟨.inr kv.1, mixKind_str P w kv.1 t.1, rfl⟩
      · exact h3 e he
theorem kd_of {K : PySem.W.Frag} {P : Program} {w : World} {h : Heap} {a : Addr} {kvs : List (Str × Str)} (d : KDic K w.params a kvs) (X : K.In h) : ∃ vs, KV (kdV kvs) vs ∧ h.DictOf (mixKind P w) a vs := by
  obtain ⟨ts, n, hl, e⟩ := d.at'
  obtain ⟨vs, h1, h2, h3⟩ := kd_pairs (P := P) (w := w) hl
  refine ⟨vs, h1, _, _, n, X _ _ e, ⟨rfl, rfl, rfl⟩, rfl, fun e he => h3 e (by simpa using he), by simpa using h2, ?_⟩
  have ek : (kdV kvs).map (·.1) = (kvs.map (·.1)).map Sum.inr := by simp [kdV]
  rw [← KV.keys h1, ek]
  exact d.nd.map (f := Sum.inr) (fun x y hxy => by intro z; exact hxy (Sum.inr.inj z))
def kdAt (kvs : List (Str × Str)) (x : Str) : Option Str := (kvs.find? fun kv => decide (kv.1 = x)).map (·.2)
theorem kd_val {kvs : List (Str × Str)} {x : Str} : valV (kdV kvs) (Sum.inr x) = (kdAt kvs x).map V.str := by
  induction kvs with
  | nil => rfl
  | cons kv kvs ih =>
    by_cases e : kv.1 = x
    · have h1 : kdV (kv :: kvs) = (Sum.inr kv.1, V.str kv.2) :: kdV kvs := rfl
      rw [h1, valV_pos (p := (Sum.inr kv.1, V.str kv.2)) (by simp [e])]
      simp [kdAt, e]
    · have h1 : kdV (kv :: kvs) = (Sum.inr kv.1, V.str kv.2) :: kdV kvs := rfl
      rw [h1, valV_neg (p := (Sum.inr kv.1, V.str kv.2)) (by simp [e]), ih]
      simp [kdAt, e]
def kixD (kvs : List (Str × Str)) (_ : Store) : D → Option D
  | .str x => (kdAt kvs x).map D.str
  | _ => none
def kgetD (kvs : List (Str × Str)) (_ : Store) : D → Option D
  | .str x => some (((kdAt kvs x).map D.str).getD .non)
  | _ => none
section
variable {X : Cx} {C : Nat → Addr} {W : WX} {x : Str} {p pos apos : Pos} {b : Expr} {rb : RE} {kvs : List (Str × Str)}
/-- the module's dict by its name -/
theorem pe_kd (h : ∃ a, X.mg x = some (.ref a) ∧ KDic X.K X.w.params a kvs) (hg : Gl X x) (hd : (x == ("__debug__" : Str)) = false) : PE X (.Name x p) (fun sg H Q => ∀ a, KDic X.K X.w.params a kvs → Q (.ref a) H) :=
  let ⟨a, hm, hk⟩ := h
  ⟨fun pins s sg H Q I q => (pe_glob (v := .ref a) hg hm rfl hd).run pins s sg H Q I (by exact q a hk)⟩
theorem ee_kix (h : ∃ a, X.mg x = some (.ref a) ∧ KDic X.K X.w.params a kvs) (hb : PE X b (tE X.K C W rb)) (hs : NoSl b := by exact fun _ _ => rfl) (hg : Gl X x := by rfl) (hd : (x == ("__debug__" : Str)) = false := by decide) : PE X (.Subscript (.Name x p) b pos) (tE X.K C W (rUn (kixD kvs) rb)) := by
  refine ⟨fun pins s sg H Q I hw => ?_⟩
  refine subD_of PySem.F.slot_dict_getitem.lookup hs (thn ((pe_kd h hg hd).run pins s sg H (fun v H1 => ∃ a, v = .ref a ∧ KDic X.K X.w.params a kvs ∧ tE X.K C W (rUn (kixD kvs) rb) sg H1 Q) I (fun a ha => ⟨a, rfl, ha, hw⟩)) fun u s1 ⟨v, H1, I1, rv, a, ev, hk, hw1⟩ => ?_)
  subst ev
  obtain rfl : u = Value.ref a := rv
  refine thn (hb.run pins s1 sg H1 _ I1 (tR.seq1 (R := RepR X.K C) (fun _ y S => ofO (kixD kvs S y) S) hw1 fun _ _ => rfl)) fun iv s2 ⟨y, H2, I2, ry, e, S, io, d, dn, sl, rd, p1⟩ => ?_
  obtain ⟨z, ez, p1⟩ := p1.ofO
  obtain ⟨vs, rel, dd⟩ := kd_of (P := X.prog) hk I2.kIn
  unfold kixD at ez
  split at ez
  · rename_i k
    cases rd
    obtain ⟨v, hv, rfl⟩ := Option.map_eq_some_iff.mp ez
    obtain ⟨w', hw, rw'⟩ := RelO.some_of (v := V.str v) (o := valueAt vs (Sum.inr k)) (by rw [show some (V.str v) = valV (kdV kvs) (Sum.inr k) by rw [kd_val, hv]; rfl]; exact rel.val _)
    exact ⟨dd.typeIs, wpAny_getItem_of (kV_is (k := Sum.inr k) ry) dd.mapOf hw ⟨.str v, H2, I2.tok _, rw', p1 _ H2 io (Ext.refl _ _) dn (.str _)⟩⟩
  · cases ez
theorem ee_kget (h : ∃ a, X.mg x = some (.ref a) ∧ KDic X.K X.w.params a kvs) (hb : PE X b (tE X.K C W rb)) (hg : Gl X x := by rfl) (hd : (x == ("__debug__" : Str)) = false := by decide)
    (hbase : attributeBase (.Name x p) "get" X.env (eval (.Name x p) X.env) = eval (.Name x p) X.env := by rfl)
    (hfew : ((backTo pos (starEach [b] X.env)).all (fun x => !x.1) && (backToKw pos (keywordEach [] X.env)).all (fun x => x.1.isSome)
      && decide (([b] : List Expr).length + ([] : List Keyword).length + (if ([] : List Keyword).isEmpty then 0 else 1) < 30)) = true := by rfl)
    (hline : (apos.endLine == pos.line) = true := by rfl) (hs : starEach [b] X.env = [(false, eval b X.env)] := by rfl) :
    PE X (.Call (.Attribute (.Name x p) "get" apos) [b] [] pos) (tE X.K C W (rUn (kgetD kvs) rb)) := by
  refine ⟨fun pins s sg H Q I hw => ?_⟩
  refine wpAny_Call_method_late hbase hfew hline rfl (thn ((pe_kd h hg hd).run pins s sg H (fun v H1 => ∃ a, v = .ref a ∧ KDic X.K X.w.params a kvs ∧ tE X.K C W (rUn (kgetD kvs) rb) sg H1 Q) I (fun a ha => ⟨a, rfl, ha, hw⟩)) fun u s1 ⟨v, H1, I1, rv, a, ev, hk, hw1⟩ => ?_)
  subst ev
  obtain rfl : u = Value.ref a := rv
  obtain ⟨vs, rel, dd⟩ := kd_of (P := X.prog) hk I1.kIn
  refine ⟨"dict", "dict.get", F.plainAttrs_dict, PySem.F.slot_dict_get, F.type_dict_get, dd.typeIs, dd.mapOf.noDict, ?_⟩
  rw [hs]
  refine Calls.callWith_builtin rfl (Calls.evalArgs_plain (Calls.spliced_cons (thn (hb.run pins s1 sg H1 _ I1 (tR.seq1 (R := RepR X.K C) (fun _ y S => ofO (kgetD kvs S y) S) hw1 fun _ _ => rfl)) fun iv s2 ⟨y, H2, I2, ry, e, S, io, d, dn, sl, rd, p1⟩ => Calls.spliced_nil ?_)))
  obtain ⟨z, ez, p1⟩ := p1.ofO
  obtain ⟨vs, rel, dd⟩ := kd_of (P := X.prog) hk I2.kIn
  unfold kgetD at ez
  split at ez
  · rename_i k
    cases rd
    cases ez
    refine call_meetsIn PySem.F.slot_dict_get dd.typeIs PySem.F.entry_dict_get (PySem.F.args_dict_get_2 _ _) (meets_dict_get (mixKind X.prog X.w) a (kV_is (k := Sum.inr k) ry) hk.lo) ⟨_, dd.mapOf, ?_⟩
    have hr := (rel.val (Sum.inr k)).getD (d := V.non) (d' := Value.none) rfl
    rw [kd_val] at hr
    refine ⟨((kdAt kvs k).map V.str).getD .non, H2, I2.tok _, hr, p1 _ H2 io (Ext.refl _ _) dn ?_⟩
    cases kdAt kvs k with
    | none => exact .non
    | some v => exact .str _
  · cases ez
theorem ee_klist (hc : X.calm = true) (h : ∃ a, X.mg x = some (.ref a) ∧ KDic X.K X.w.params a kvs) (hl : Gl X "list") (hml : X.mg "list" = none) {q : Pos} (hg : Gl X x := by rfl) (hd : (x == ("__debug__" : Str)) = false := by decide)
    (hs : starEach [.Name x p] X.env = [(false, eval (.Name x p) X.env)] := by rfl) :
    PE X (.Call (.Name "list" q) [.Name x p] [] pos) (tE X.K C W (rCon (.lst (kvs.map fun kv => .str kv.1)))) := by
  refine ⟨fun pins s sg H Q I hw => ?_⟩
  refine Call_ (ld_blt I hl hml boot_list ?_)
  refine PyProof.Rows.callWith_type1 (PyProof.Rows.args_cons (thn ((pe_kd h hg hd).run pins s sg H (fun v H1 => ∃ a, v = .ref a ∧ KDic X.K X.w.params a kvs ∧ tE X.K C W (rCon (.lst (kvs.map fun kv => .str kv.1))) sg H1 Q) I (fun a ha => ⟨a, rfl, ha, hw⟩)) fun u s1 ⟨v, H1, I1, rv, a, ev, hk, hw1⟩ => PyProof.Rows.args_nil ?_) (by rfl)) hs rfl
  subst ev
  obtain rfl : u = Value.ref a := rv
  obtain ⟨vs, rel, dd⟩ := kd_of (P := X.prog) hk I1.kIn
  obtain ⟨ep, hat⟩ := dd.dictAt
  obtain ⟨e, S, io, dn, sl, p1⟩ := hw1
  have ek : (kvs.map fun kv => V.str kv.1) = vs.map fun p => kV p.1 := by
    have e := congrArg (List.map kV) rel.keys
    rw [List.map_map, List.map_map] at e
    rw [show (vs.map fun p => kV p.1) = List.map (kV ∘ fun x => x.1) vs from rfl, ← e]
    simp [kdV, Function.comp_def, kV]
  have hz : vs.length ≤ sizeLine := by rw [← rel.length]; simp only [kdV, List.length_map]; exact hk.sz
  refine PySem.W.kdl_call (PySem.W.kdl_dict (knd := mixKind X.prog X.w) (kvs := vs) (ep := ep) hk.lo) (I1.ok.hd hc) hat hz fun h' tk acc c' hk' hD hacc => ?_
  have hv : Vals (vs.map fun p => kV p.1) acc.toList := keys_at (by rw [Array.length_toList]; exact hacc.1) fun j v e => hacc.2 j v (by rw [← Array.getElem?_toList]; exact e)
  have rr : Reps X.K C io (Fz io H1) (kvs.map fun kv => D.str kv.1) (kvs.map fun kv => V.str kv.1) := by
    have := reps_strs (K := X.K) (C := C) (io := io) (F := Fz io H1) (kvs.map (·.1))
    simpa [List.map_map, Function.comp_def] using this
  obtain ⟨x1, d1, r1⟩ := new_lst dn rr (I1.hok.fresh (Nat.le_refl s1.heap.objs.size))
  exact ⟨.ref s1.heap.objs.size, upd H1 s1.heap.objs.size (.lst (kvs.map fun kv => V.str kv.1)), I1.laid (t' := tk) hk' (Nat.le_refl _)
    (show ObjOk X.prog X.w _ _ _ (.lst (kvs.map fun kv => V.str kv.1)) from ⟨by rw [List.length_map]; exact hk.sz, acc.toList, c', by rw [ek]; exact hv, by rw [Array.toArray_toList]; exact hD⟩), rfl, p1 _ _ io x1 d1 r1⟩
end

/-! ### sorted(dict), len(dict), str(text), list * int -/
def keysS : List Key → Option (List Str)
  | [] => some []
  | .inr x :: ks => (keysS ks).map (x :: ·)
  | .inl _ :: _ => none
theorem keysS_map : ∀ {ks : List Key} {xs : List Str}, keysS ks = some xs → ks = xs.map Sum.inr
  | [], _, h => by cases h; rfl
  | .inr x :: ks, _, h => by
    obtain ⟨ys, h1, rfl⟩ := Option.map_eq_some_iff.mp h
    rw [keysS_map h1]; rfl
  | .inl _ :: _, _, h => by cases h
def leS (a b : Str) : Bool := !ltCps b.cps.toList a.cps.toList
def insS (x : Str) : List Str → List Str
  | [] => [x]
  | y :: ys => if leS x y = true then x :: y :: ys else y :: insS x ys
def isortS : List Str → List Str
  | [] => []
  | x :: xs => insS x (isortS xs)
theorem lt_trans' : ∀ {a b c : List Nat}, ltCps b a = false → ltCps c b = false → ltCps c a = false
  | [], b, c, h1, h2 => by
    cases c with
    | nil => rfl
    | cons x c => cases b with
      | nil => rfl
      | cons y b => rfl
  | x :: a, [], c, h1, h2 => by simp [ltCps] at h1
  | x :: a, y :: b, [], h1, h2 => by simp [ltCps] at h2
  | x :: a, y :: b, z :: c, h1, h2 => by
    simp only [ltCps, Bool.or_eq_false_iff, Bool.and_eq_false_imp, decide_eq_false_iff_not, beq_iff_eq, Nat.not_lt] at h1 h2 ⊢
    refine ⟨by omega, fun e => ?_⟩
    have e1 : y = x := by omega
    have e2 : z = y := by omega
    exact lt_trans' (h1.2 e1) (h2.2 e2)
theorem lt_anti : ∀ {a b : List Nat}, ltCps b a = false → ltCps a b = false → a = b
  | [], [], _, _ => rfl
  | [], y :: b, h1, h2 => by simp [ltCps] at h2
  | x :: a, [], h1, h2 => by simp [ltCps] at h1
  | x :: a, y :: b, h1, h2 => by
    simp only [ltCps, Bool.or_eq_false_iff, Bool.and_eq_false_imp, decide_eq_false_iff_not, beq_iff_eq, Nat.not_lt] at h1 h2
    have e : x = y := by omega
    rw [e, lt_anti (h1.2 e.symm) (h2.2 e)]
theorem lt_tot : ∀ {a b : List Nat}, ltCps b a = true → ltCps a b = false
  | [], b, h => by cases b <;> simp [ltCps] at h
  | x :: a, [], _ => rfl
  | x :: a, y :: b, h => by
    simp only [ltCps, Bool.or_eq_true, Bool.and_eq_true, decide_eq_true_eq, beq_iff_eq] at h
    simp only [ltCps, Bool.or_eq_false_iff, Bool.and_eq_false_imp, decide_eq_false_iff_not, beq_iff_eq, Nat.not_lt]
    rcases h with h | ⟨h, h2⟩
    · exact ⟨by omega, fun e => by omega⟩
    · exact ⟨by omega, fun _ => lt_tot h2⟩
theorem leS_trans {a b c : Str} (h1 : leS a b = true) (h2 : leS b c = true) : leS a c = true := by
  simp only [leS, Bool.not_eq_true'] at *
  exact lt_trans' h1 h2
theorem leS_anti {a b : Str} (h1 : leS a b = true) (h2 : leS b a = true) : a = b := by
  simp only [leS, Bool.not_eq_true'] at *
  have := lt_anti h1 h2
  cases a; cases b
  simp only [Str.mk.injEq]
  exact Array.ext' this
theorem leS_tot {a b : Str} (h : leS a b ≠ true) : leS b a = true := by
  unfold leS at *
  rw [Bool.not_eq_true']
  exact lt_tot (by simpa using h)
theorem insS_perm (x : Str) : ∀ ys : List Str, (insS x ys).Perm (x :: ys)
  | [] => .refl _
  | y :: ys => by
    unfold insS
    split
    · exact .refl _
    · exact ((insS_perm x ys).cons y).trans (.swap x y ys)
theorem isortS_perm : ∀ xs : List Str, (isortS xs).Perm xs
  | [] => .refl _
  | x :: xs => (insS_perm x _).trans ((isortS_perm xs).cons x)
theorem insS_pw (x : Str) : ∀ {ys : List Str}, ys.Pairwise (fun a b => leS a b = true) → (insS x ys).Pairwise (fun a b => leS a b = true)
  | [], _ => by simp [insS]
  | y :: ys, h => by
    have h' := List.pairwise_cons.mp h
    unfold insS
    split
    · rename_i e
      refine List.pairwise_cons.mpr ⟨fun z hz => ?_, h⟩
      rcases List.mem_cons.mp hz with rfl | hz
      · exact e
      · exact leS_trans e (h'.1 z hz)
    · rename_i e
      refine List.pairwise_cons.mpr ⟨fun z hz => ?_, insS_pw x h'.2⟩
      rcases List.mem_cons.mp ((insS_perm x ys).mem_iff.mp hz) with rfl | hz
      · exact leS_tot e
      · exact h'.1 z hz
theorem isortS_pw : ∀ xs : List Str, (isortS xs).Pairwise (fun a b => leS a b = true)
  | [] => .nil
  | x :: xs => insS_pw x (isortS_pw xs)
theorem rising_pw : ∀ {p : Str} {l : List Str}, risingS p l = true → (p :: l).Pairwise (fun a b => leS a b = true)
  | p, [], _ => by simp
  | p, x :: r, h => by
    simp only [risingS, Bool.and_eq_true] at h
    have ih := rising_pw h.2
    have ih' := List.pairwise_cons.mp ih
    have hpx : leS p x = true := h.1
    refine List.pairwise_cons.mpr ⟨fun z hz => ?_, ih⟩
    rcases List.mem_cons.mp hz with rfl | hz
    · exact hpx
    · exact leS_trans hpx (ih'.1 z hz)
theorem sorted_pw : ∀ {l : List Str}, sortedS l = true → l.Pairwise (fun a b => leS a b = true)
  | [], _ => .nil
  | _ :: _, h => rising_pw h
theorem pw_eq : ∀ {xs ys : List Str}, xs.Perm ys → xs.Pairwise (fun a b => leS a b = true) → ys.Pairwise (fun a b => leS a b = true) → xs = ys
  | [], ys, h, _, _ => h.nil_eq
  | x :: xs, [], h, _, _ => by simpa using h.length_eq
  | x :: xs, y :: ys, h, h1, h2 => by
    have h1' := List.pairwise_cons.mp h1
    have h2' := List.pairwise_cons.mp h2
    have e : x = y := by
      have m1 : x ∈ y :: ys := h.mem_iff.mp List.mem_cons_self
      have m2 : y ∈ x :: xs := h.mem_iff.mpr List.mem_cons_self
      rcases List.mem_cons.mp m1 with e | m1
      · exact e
      · rcases List.mem_cons.mp m2 with e | m2
        · exact e.symm
        · exact leS_anti (h1'.1 y m2) (h2'.1 x m1)
    subst e
    rw [pw_eq (h.cons_inv) h1'.2 h2'.2]
theorem isortS_eq {xs ys : List Str} (h : ys.Perm xs) (hs : sortedS ys = true) : ys = isortS xs := pw_eq (h.trans (isortS_perm xs).symm) (sorted_pw hs) (isortS_pw xs)
def sortD (S : Store) : List D → Option D
  | [d] => (dictAt S d).bind fun p => (keysS p.1).bind fun ks => if ks.length < 64 then some (.lst ((isortS ks).map D.str)) else none
  | _ => none
section
variable {X : Cx} {C : Nat → Addr} {W : WX}
theorem sortD_ok (hc : X.calm = true) : CallD X C (.builtin "sorted") sortD := fun pins s sg H xs us Q I rx ⟨io, S, as, d, dn, ra, e, q⟩ => by
  unfold sortD at e
  split at e
  · obtain ⟨⟨ks, ds⟩, e1, e⟩ := bind_some' e
    obtain ⟨zs, e2, e⟩ := bind_some' e
    split at e
    · rename_i hz
      cases e
      obtain ⟨v, rfl, rv⟩ := reps1 ra
      obtain ⟨a, kvs, rfl, ea, rfl, rs⟩ := dictAt_rep e1 dn rv
      refine call_sortedD hc pins s sg H _ us Q I rx ⟨a, kvs, zs, rfl, .inl ea, keysS_map e2, hz, fun ys p hp hs hn => ?_⟩
      rw [isortS_eq hp hs]
      obtain ⟨x1, d1, r1⟩ := new_lst dn (reps_strs (isortS zs)) hn
      exact q _ _ io x1 d1 r1
    · cases e
  · cases e
def lenK (S : Store) : List D → Option D
  | [d] => match dictAt S d with
    | some p => some (.int p.1.length)
    | none => lenD S [d]
  | as => lenD S as
theorem lenK_ok : CallD X C (.builtin "len") lenK := fun pins s sg H xs us Q I rx ⟨io, S, as, d, dn, ra, e, q⟩ => by
  unfold lenK at e
  split at e
  · split at e
    · rename_i p e1
      cases e
      obtain ⟨v, rfl, rv⟩ := reps1 ra
      obtain ⟨a, kvs, rfl, ea, e2, rs⟩ := dictAt_rep (ks := p.1) (xs := p.2) e1 dn rv
      obtain ⟨u, rfl, ru⟩ := vals1 rx
      obtain rfl : u = Value.ref a := ru
      refine d_len I (.inl ea) fun t s' I' => ⟨.int _, H, I', ⟨t, rfl⟩, ?_⟩
      have el : p.1.length = kvs.length := by rw [← e2, List.length_map]
      rw [el] at q
      exact q _ H io (Ext.refl _ _) dn (.int _)
    · exact lenD_ok pins s sg H xs us Q I rx ⟨io, S, _, d, dn, ra, e, q⟩
  · exact lenD_ok pins s sg H xs us Q I rx ⟨io, S, as, d, dn, ra, e, q⟩
def strT (S : Store) : List D → Option D
  | [.str x] => some (.str x)
  | as => strD S as
theorem strT_ok : CallD X C (.type "str") strT := fun pins s sg H xs us Q I rx ⟨io, S, as, d, dn, ra, e, q⟩ => by
  unfold strT at e
  split at e
  · cases e
    obtain ⟨v, rfl, rv⟩ := reps1 ra
    cases rv
    exact SkE.call_str_str pins s sg H _ us Q I rx ⟨_, rfl, q _ H io (Ext.refl _ _) dn (.str _)⟩
  · exact strD_ok pins s sg H xs us Q I rx ⟨io, S, as, d, dn, ra, e, q⟩
/-! a list of the store is left out: lists that stand still, times an int -/
def repL : Nat → List D → List D
  | 0, _ => []
  | n + 1, xs => xs ++ repL n xs
theorem mul_any (l : Addr) (items : Array Value) (n : Nat) (sl : Array (Option Value)) (x : Int) (u : Tok) (hc0 : ¬(!Builtin.List.listFitsIndex x) = true) (hc1 : ¬items.size * x.toNat > (2 ^ 63 - 1) / 8) (hc2 : ¬Builtin.List.listTooLong (items.size * x.toNat) = true) :
    Meets (Builtin.«list.__mul__» ⟨[.ref l, .int x u], []⟩) (fun _ R s => s.heap.get? l = some { cls := .type "list", dict := none, data := .seq items n, slots := sl } ∧ R (.ok (.ret (Value.ref s.heap.objs.size))) { s with heap := s.heap.push { cls := Value.type "list", data := Data.seq (List.foldl (fun x1 x2 => x1 ++ x2) #[] (List.replicate (if items.isEmpty = true then 0 else x.toNat) items)) }, toks := s.toks }) :=
  .of_wp fun prog w A R s h => by
    obtain ⟨hp, g, d, tk, os⟩ := s; obtain ⟨hl, h⟩ := h
    have hsz := PySem.AutoListH.joined_fits hc2
    wp_walk; refine wpAny_ite_false (decide_eq_false (Nat.not_lt.mpr hsz)) ?_; wp_walk; exact ⟨_, rfl, h⟩
theorem rmul_any (a : Int) (t : Tok) (l : Addr) (items : Array Value) (n : Nat) (sl : Array (Option Value)) :
    Meets (Builtin.«int.__rmul__» ⟨[.int a t, .ref l], []⟩) (fun _ R s => s.heap.get? l = some { cls := .type "list", dict := none, data := .seq items n, slots := sl } ∧ R (.ok (.ret Value.notImplemented)) s) :=
  .of_wp fun prog w A R s h => by obtain ⟨hp, g, d, tk, os⟩ := s; obtain ⟨hl, h⟩ := h; wp_walk; exact ⟨_, rfl, h⟩
theorem op_repL : OpR X (binaryOp .Mult) (fun x y H Q => ∃ l k xs, x = .ref l ∧ y = .int k ∧ SqL X.K H l xs ∧ -(2 ^ 63) ≤ k ∧ k < 2 ^ 63 ∧ xs.length * k.toNat ≤ sizeLine ∧ ∀ p, H p = none → Q (.ref p) (upd H p (.lst (List.replicate k.toNat xs).flatten))) := by
  intro pins s σ H x y v u Q I rx ry h
  obtain ⟨l, k, xs, rfl, rfl, hH, h1, h2, hz, q⟩ := h
  cases rx
  obtain ⟨t, rfl⟩ := ry
  obtain ⟨its, r, ⟨⟨c1, d1, t1, sl⟩, n, e, hc, hd, hs⟩, z⟩ := I.list hH
  simp only at hc hd hs
  subst hc hd hs
  have hl := r.length
  have hlen : its.toArray.size * k.toNat ≤ sizeLine := by rw [List.size_toArray, ← hl]; exact hz
  have hcap : ¬ its.toArray.size * k.toNat > (2 ^ 63 - 1) / 8 := by
    have : (sizeLine : Nat) ≤ (2 ^ 63 - 1) / 8 := by decide
    omega
  have hfit : ¬ (!Builtin.List.listFitsIndex k) = true := by
    rw [fitsIndex_both h1 h2]
    exact Bool.false_ne_true
  have hlong : ¬ Builtin.List.listTooLong (its.toArray.size * k.toNat) = true := by
    rw [notLongL hlen]
    exact Bool.false_ne_true
  have hnew : List.foldl (fun x1 x2 => x1 ++ x2) #[] (List.replicate (if its.toArray.isEmpty = true then 0 else k.toNat) its.toArray) = (List.replicate k.toNat its).flatten.toArray := by
    have f0 : ∀ m : Nat, List.foldl (fun x1 x2 => x1 ++ x2) #[] (List.replicate m its.toArray) = (List.replicate m its).flatten.toArray := fun m => by
      have := foldl_rep its m []
      rw [List.nil_append] at this
      exact this
    rw [f0]
    cases its with
    | nil => simp
    | cons a r' => rw [if_neg (by simp)]
  refine wpAny_binaryOp_repeat_ref (T := "list") (U := "int") (by decide) ⟨_, e, rfl⟩ (fun s' => typeIs_int s' k t) noFill_list_mul F.fills_int_mul F.slot_int_rmul repeat_list F.slot_int_index.lookup
    (call_meets F.slot_int_rmul (typeIs_int s k t) F.entry_int_rmul (F.args_int_rmul_2 _ _) (rmul_any k t l its.toArray n sl)
      ⟨e, rfl, ⟨_, e, rfl⟩, call_meets F.slot_list_mul ⟨_, e, rfl⟩ F.entry_list_mul (F.args_list_mul_2 _ _) (mul_any l its.toArray n sl k t hfit hcap hlong) ⟨e, ?_⟩⟩)
  rw [hnew]
  exact ⟨.ref _, _, I.lnew (t' := s.toks) (r.rep k.toNat) (by rw [PyProof.Rows.lm_len_rep_flat, Nat.mul_comm]; exact hz), rfl, q _ I.fresh⟩
def mulL (S : Store) (a b : D) : Option D := match a, b with
  | .lst xs, .int k => if 0 ≤ k ∧ k < 2 ^ 62 ∧ xs.length * k.toNat ≤ sizeLine then some (.lst (repL k.toNat xs)) else none
  | a, b => mulT S a b
theorem reps_rep {K : PySem.W.Frag} {io : Io} {F : Hp} {xs : List D} {vs : List V} (r : Reps K C io F xs vs) : ∀ n : Nat, Reps K C io F (repL n xs) (List.replicate n vs).flatten
  | 0 => .nil
  | n + 1 => by
    rw [List.replicate_succ, List.flatten_cons]
    exact r.append (reps_rep r n)
theorem mulL_ok : OpD X C (binaryOp .Mult) mulL := fun pins s sg H x y v u Q I rx ry ⟨io, S, a, b, d, dn, ra, rb, e, q⟩ => by
  unfold mulL at e
  split at e
  · rename_i xs k
    split at e
    · rename_i hz
      cases e
      cases ra with
      | @lst p vs _ h r =>
      cases rb
      have h' : SqL X.K H p vs := (Fz_same _ _).seq h
      have hlen : vs.length * k.toNat ≤ sizeLine := by rw [← r.length]; exact hz.2.2
      refine op_repL pins s sg H _ _ v u Q I rx ry ⟨p, k, vs, rfl, rfl, h', by omega, by omega, hlen, fun a ha => ?_⟩
      obtain ⟨x1, d1, r1⟩ := new_lst dn (reps_rep r k.toNat) ha
      exact q _ _ io x1 d1 r1
    · cases e
  · exact mulT_ok pins s sg H x y v u Q I rx ry ⟨io, S, _, _, d, dn, ra, rb, e, q⟩
end
end Ev
namespace Ev
open PySem PySem.Spec L2 PyProof.Rows

/-! ### {'a': x, ..} -/
def rPrs : List (Str × RE) → Env → Store → Res (List D)
  | [], _, S => .ok [] S
  | p :: l, e, S => (p.2 e S).bind fun d S1 => (rPrs l e S1).bind fun ds S2 => .ok (d :: ds) S2
def dispF : List Str → List D → List Key × List D → List Key × List D
  | k :: ks, d :: ds, p => dispF ks ds (putKs p.1 p.2 (.inr k) d)
  | _, _, p => p
def rDispF (l : List (Str × RE)) : RE := fun e S => (rPrs l e S).calm.bind fun ds S1 => .ok (.dct (dispF (l.map (·.1)) ds ([], [])).1 (dispF (l.map (·.1)) ds ([], [])).2) S1
def rDispM (l : List (Str × RE)) : RE := fun e S => (rPrs l e S).calm.bind fun ds S1 => .ok (.loc S1.length) (S1 ++ [.dK (dispF (l.map (·.1)) ds ([], [])).1 (dispF (l.map (·.1)) ds ([], [])).2])
def trsOf (K : PySem.W.Frag) (C : Nat → Addr) (W : WX) (l : List (Str × RE)) : List (TE × TE) := l.map fun p => (tE K C W (rCon (.str p.1)), tE K C W p.2)
theorem prs_read {K : PySem.W.Frag} {C : Nat → Addr} {W : WX} {sg : L2.St} {e : Env} : ∀ (l : List (Str × RE)) (S : Store) (io : Io) (H : Hp) (ds : List D) (S2 : Store) (Q : List (V × V) → Hp → Prop), Den K C io S H → Slots K C io (Fz io H) e sg → rPrs l e S = .ok ds S2 →
    (∀ vs H' io', Ext io H io' H' → Den K C io' S2 H' → Reps K C io' (Fz io' H') ds vs → Q (List.zipWith (fun (p : Str × RE) v => (V.str p.1, v)) l vs) H') → tPairs (trsOf K C W l) sg H Q
  | [], S, io, H, ds, S2, Q, dn, sl, h, q => by
    cases h
    exact q [] H io (Ext.refl _ _) dn .nil
  | p :: l, S, io, H, ds, S2, Q, dn, sl, h, q => by
    unfold rPrs at h
    cases h1 : p.2 e S with
    | bad => rw [h1] at h; cases h
    | err x Sx => rw [h1] at h; cases h
    | ok d S1 =>
      rw [h1] at h
      replace h : ((rPrs l e S1).bind fun ds S2 => Res.ok (d :: ds) S2) = .ok ds S2 := h
      cases h2 : rPrs l e S1 with
      | bad => rw [h2] at h; cases h
      | err x Sx => rw [h2] at h; cases h
      | ok ds' S3 =>
        rw [h2] at h
        cases h
        refine ⟨e, S, io, dn, sl, fun b H1 io1 x1 d1 r1 => ?_⟩
        cases r1
        refine ⟨e, S, io1, d1, sl.ext x1, ?_⟩
        rw [h1]
        intro v H2 io2 x2 d2 r2
        refine prs_read l S1 io2 H2 ds' S2 _ d2 ((sl.ext x1).ext x2) h2 fun vs H3 io3 x3 d3 r3 => ?_
        exact q (v :: vs) H3 io3 ((x1.trans x2).trans x3) d3 (.cons (r2.ext x3) r3)
theorem disp_rep {K : PySem.W.Frag} {C : Nat → Addr} {io : Io} {F : Hp} : ∀ {ks : List Str} {ds : List D} {vs : List V} {acc : List (Key × V)} {p : List Key × List D}, Reps K C io F ds vs → acc.map (·.1) = p.1 → Reps K C io F p.2 (acc.map (·.2)) →
    (mergeK acc (List.zipWith (fun k v => ((Sum.inr k : Key), v)) ks vs)).map (·.1) = (dispF ks ds p).1 ∧ Reps K C io F (dispF ks ds p).2 ((mergeK acc (List.zipWith (fun k v => ((Sum.inr k : Key), v)) ks vs)).map (·.2))
  | [], ds, vs, acc, p, r, h1, h2 => by
    cases ds <;> exact ⟨h1, h2⟩
  | k :: ks, _, _, acc, p, .nil, h1, h2 => ⟨h1, h2⟩
  | k :: ks, _, _, acc, p, .cons (d := d) (v := v) rx r, h1, h2 => by
    obtain ⟨a1, a2⟩ := put_rep (k := (Sum.inr k : Key)) rx h2
    rw [h1] at a1 a2
    exact disp_rep (acc := putK acc (.inr k) v) r a1 a2
theorem adopt_den {K : PySem.W.Frag} {C : Nat → Addr} {io : Io} {S : Store} {H : Hp} {p : Addr} {o : HO} {m : MO} (dn : Den K C (io.hide p o) S H) (hm : ORep K C (io.add p) H p m) : Den K C (io.add p) (S ++ [m]) H := by
  obtain ⟨d1, np, e⟩ := dn.unhide
  have hpre : ∀ (n : Nat) (a : Addr), io.l[n]? = some a → (io.add p).l[n]? = some a := fun n a h => by
    show (io.l ++ [p])[n]? = some a
    rw [List.getElem?_append_left (List.getElem?_eq_some_iff.mp h).1]; exact h
  have hs2 : Same (Fz (io.hide p o) H) (Fz (io.add p) H) := by rw [Fz_adopt (o := o)]; exact fun _ _ h => h
  refine ⟨by simp [Io.add, d1.len], nodup_add d1.nd np, fun n x a e1 e2 => ?_, fun q hq => d1.hid q hq⟩
  have e2' : (io.l ++ [p])[n]? = some a := e2
  by_cases hn : n < io.l.length
  · rw [List.getElem?_append_left hn] at e2'
    rw [List.getElem?_append_left (by rw [← d1.len]; exact hn)] at e1
    have q := dn.obj n x a e1 e2'
    cases x with
    | lst zs => obtain ⟨us, h1, h2⟩ := q; exact ⟨us, h1, h2.mono (io := io.hide p o) hpre hs2⟩
    | dK ks zs => obtain ⟨us, h1, h2, h3⟩ := q; exact ⟨us, h1, h2, h3.mono (io := io.hide p o) hpre hs2⟩
    | ins c ns zs => obtain ⟨dx, fs, h1, h2, h3, h4⟩ := q; exact ⟨dx, fs, h1, h2, h3, h4.mono (io := io.hide p o) hpre hs2⟩
  · have h1 : n = io.l.length := by
      have := (List.getElem?_eq_some_iff.mp e2').1
      simp at this; omega
    subst h1
    rw [List.getElem?_append_right (Nat.le_refl _)] at e2'
    rw [d1.len, List.getElem?_append_right (Nat.le_refl _)] at e1
    simp at e1 e2'
    subst e1; subst e2'
    exact hm
theorem zip_keys : ∀ (l : List (Str × RE)) (vs : List V), List.zipWith (fun (p : Str × RE) v => (V.str p.1, v)) l vs = (List.zipWith (fun k v => ((Sum.inr k : Key), v)) (l.map (·.1)) vs).map fun kv => (kV kv.1, kv.2)
  | [], _ => rfl
  | _ :: _, [] => rfl
  | p :: l, v :: vs => by
    simp only [List.zipWith_cons_cons, List.map_cons]
    rw [zip_keys l vs]
    rfl
section
variable {X : Cx} {C : Nat → Addr} {W : WX} {pos : Pos} {keys : List (Option Expr)} {values : List Expr} {l : List (Str × RE)}
/-- the new dict, and what is told of it -/
theorem disp_core {sg : L2.St} {e : Env} {S : Store} {io : Io} {H : Hp} {ds : List D} {S1 : Store} {Q : VK} (dn : Den X.K C io S H) (sl : Slots X.K C io (Fz io H) e sg) (h : rPrs l e S = .ok ds S1) (h15 : l.length ≤ 15)
    (q : ∀ (p : Addr) (io' : Io) (H' : Hp) (kvs : List (Key × V)), (∀ (n : Nat) (a : Addr), io.l[n]? = some a → io'.l[n]? = some a) → io'.h = io.h → Same (Fz io H) (Fz (io'.hide p (.dK kvs)) H') → Den X.K C (io'.hide p (.dK kvs)) S1 H' →
      kvs.map (·.1) = (dispF (l.map (·.1)) ds ([], [])).1 → Reps X.K C io' (Fz (io'.hide p (.dK kvs)) H') (dispF (l.map (·.1)) ds ([], [])).2 (kvs.map (·.2)) → Q (.ref p) H') : tDisp (trsOf X.K C W l) sg H Q := by
  intro p hp
  have sl1 : Slots X.K C (io.hide p (.dK [])) (Fz (io.hide p (.dK [])) (upd H p (.dK []))) e sg := by
    rw [Fz_hide hp]
    exact ⟨sl.len, fun i d hd => let ⟨v, h1, h2⟩ := sl.get i d hd; ⟨v, h1, h2.mono (io := io) (io' := io.hide p (.dK [])) (fun _ _ z => z) fun _ _ z => z⟩⟩
  refine prs_read l S _ _ ds S1 _ (dn.hide hp rfl) sl1 h fun vs H2 io2 x2 d2 r2 => ?_
  have hh : io2.h = (p, HO.dK []) :: io.h := x2.hid
  have e2 : io2 = (⟨io2.l, io.h⟩ : Io).hide p (.dK []) := by unfold Io.hide; rw [← hh]
  have hD : H2 p = some (.dK []) := (d2.hid (p, .dK []) (by rw [hh]; exact List.mem_cons_self)).1
  refine ⟨hD, List.zipWith (fun k v => ((Sum.inr k : Key), v)) (l.map (·.1)) vs, zip_keys l vs, by rw [List.length_zipWith, List.length_map]; omega, ?_⟩
  have fz : ∀ kvs, Fz ((⟨io2.l, io.h⟩ : Io).hide p (.dK kvs)) (upd H2 p (.dK kvs)) = Fz io2 H2 := fun kvs => by
    rw [Fz_hide_put (o := .dK []), ← e2]
  rw [e2] at d2
  obtain ⟨m1, m2⟩ := disp_rep (ks := l.map (·.1)) (acc := []) (p := ([], [])) (r2.mono (io := io2) (io' := (⟨io2.l, io.h⟩ : Io)) (F' := Fz io2 H2) (fun _ _ z => z) fun _ _ z => z) rfl .nil
  refine q p ⟨io2.l, io.h⟩ _ _ (fun n a hn => x2.pre n a hn) rfl ?_ (d2.rehide rfl) m1 ?_
  · rw [fz]
    have := x2.same
    rw [Fz_hide hp] at this
    exact this
  · rw [fz]; exact m2
theorem ee_dispF (hd : PPs X pos keys values (trsOf X.K C W l)) (hall : keys.all (·.isSome) = true := by rfl) (hl : keys.length = values.length := by rfl) (h0 : keys ≠ [] := by simp) (h15 : keys.length ≤ 15 := by decide) (h15' : l.length ≤ 15 := by decide) : PE X (.Dict keys values pos) (tE X.K C W (rDispF l)) :=
  (pe_disp hd hall hl h0 h15).imp fun sg H Q ⟨e, S, io, dn, sl, p⟩ => by
    unfold rDispF at p
    cases h : rPrs l e S with
    | bad => rw [h] at p; exact p.elim
    | err x Sx => rw [h] at p; exact p.elim
    | ok ds S1 =>
      rw [h] at p
      refine disp_core dn sl h h15' fun a io' H' kvs h1 h2 h3 h4 h5 h6 => ?_
      obtain ⟨d1, np, ea⟩ := h4.unhide
      obtain ⟨s1, e1⟩ := Fz_unhide np ea
      exact p _ H' io' ⟨h1, h2, h3.trans s1⟩ d1 (.dct e1 h5 rfl (h6.mono (fun _ _ z => z) s1))
theorem ee_dispM (hd : PPs X pos keys values (trsOf X.K C W l)) (hall : keys.all (·.isSome) = true := by rfl) (hl : keys.length = values.length := by rfl) (h0 : keys ≠ [] := by simp) (h15 : keys.length ≤ 15 := by decide) (h15' : l.length ≤ 15 := by decide) : PE X (.Dict keys values pos) (tE X.K C W (rDispM l)) :=
  (pe_disp hd hall hl h0 h15).imp fun sg H Q ⟨e, S, io, dn, sl, p⟩ => by
    unfold rDispM at p
    cases h : rPrs l e S with
    | bad => rw [h] at p; exact p.elim
    | err x Sx => rw [h] at p; exact p.elim
    | ok ds S1 =>
      rw [h] at p
      refine disp_core dn sl h h15' fun a io' H' kvs h1 h2 h3 h4 h5 h6 => ?_
      obtain ⟨d1, np, ea⟩ := h4.unhide
      have hpre : ∀ (n : Nat) (b : Addr), io'.l[n]? = some b → (io'.add a).l[n]? = some b := fun n b hb => by
        show (io'.l ++ [a])[n]? = some b
        rw [List.getElem?_append_left (List.getElem?_eq_some_iff.mp hb).1]; exact hb
      have hs2 : Same (Fz (io'.hide a (.dK kvs)) H') (Fz (io'.add a) H') := by rw [Fz_adopt (o := .dK kvs)]; exact fun _ _ h => h
      refine p _ H' (io'.add a) ⟨fun n b hb => hpre n b (h1 n b hb), h2, h3.trans hs2⟩ (adopt_den h4 ⟨kvs, ea, h5, h6.mono hpre hs2⟩) (.loc ?_)
      rw [← d1.len]
      show (io'.l ++ [a])[io'.l.length]? = some a
      rw [List.getElem?_append_right (Nat.le_refl _)]; simp
theorem pp_nil : PPs X pos [] [] (trsOf X.K C W []) := pps_nil
theorem pp_cons {k v : Expr} {ks : List (Option Expr)} {vs : List Expr} {x : Str} {rv : RE} {l : List (Str × RE)} (hk : PE X k (tE X.K C W (rCon (.str x)))) (hv : PE X v (tE X.K C W rv)) (hr : PPs X pos ks vs (trsOf X.K C W l)) : PPs X pos (some k :: ks) (v :: vs) (trsOf X.K C W ((x, rv) :: l)) := pps_cons hk hv hr
/-! d.update({..}) -/
def updKs : List Key → List D → List Key × List D → List Key × List D
  | k :: ks, d :: ds, p => updKs ks ds (putKs p.1 p.2 k d)
  | _, _, p => p
theorem upd_rep {K : PySem.W.Frag} {io : Io} {F : Hp} : ∀ {more : List (Key × V)} {ds : List D} {acc : List (Key × V)} {p : List Key × List D}, Reps K C io F ds (more.map (·.2)) → acc.map (·.1) = p.1 → Reps K C io F p.2 (acc.map (·.2)) →
    (mergeK acc more).map (·.1) = (updKs (more.map (·.1)) ds p).1 ∧ Reps K C io F (updKs (more.map (·.1)) ds p).2 ((mergeK acc more).map (·.2))
  | [], ds, acc, p, r, h1, h2 => by
    cases ds <;> exact ⟨h1, h2⟩
  | kv :: more, _, acc, p, .cons (d := d) rx r, h1, h2 => by
    obtain ⟨a1, a2⟩ := put_rep (k := kv.1) rx h2
    rw [h1] at a1 a2
    exact upd_rep (acc := putK acc kv.1 kv.2) r a1 a2
def updDM : MF
  | S, .loc n, [.dct ks' xs'] => match S[n]? with
    | some (.dK ks xs) => if ks.length + ks'.length ≤ sizeLine then some (.non, S.set n (.dK (updKs ks' xs' (ks, xs)).1 (updKs ks' xs' (ks, xs)).2)) else none
    | _ => none
  | _, _, _ => none
theorem updDM_ok : MthD X C "dict.update" updDM := fun pins s sg H x xs v us Q I rx rxs ⟨io, S, a, as, d, S', dn, ra, ras, e, q⟩ => by
  unfold updDM at e
  split at e
  · rename_i n ks' xs'
    split at e
    · rename_i ks ds e1
      split at e
      · rename_i hz
        cases e
        cases ra with
        | @loc _ p hl =>
        obtain ⟨kvs, ea, rfl, rs⟩ := dn.obj n _ p e1 hl
        obtain ⟨v1, rfl, r1⟩ := reps1 ras
        cases r1 with
        | @dct b more _ _ _ eb h5 h6 r2 =>
        subst h5 h6
        obtain ⟨u1, rfl, ru1⟩ := vals1 rxs
        obtain rfl : v = Value.ref p := rx
        obtain rfl : u1 = Value.ref b := ru1
        have hne : p ≠ b := fun z => by
          subst z
          rw [Fz_in (mem_all hl)] at eb; cases eb
        have eb' := Fz_same _ _ _ _ eb
        obtain ⟨z1, hd1, vs1, rel1, dd1⟩ := dk_of I.hok ea
        obtain ⟨z2, hd2, vs2, rel2, dd2⟩ := dk_of I.hok eb'
        have hsz : vs1.length + vs2.length ≤ sizeLine := by
          rw [← rel1.length, ← rel2.length]
          simpa using hz
        refine call_meetsIn PySem.F.slot_dict_update dd1.typeIs PySem.F.entry_dict_update (PySem.F.args_dict_update_2 _ _) (meets_dict_update (mixKind X.prog X.w) p b hne hd2) ⟨vs1, vs2, dd1, dd2, hsz, fun h' hdd' ho' hs' => ?_⟩
        have hz' : (mergeK kvs more).length ≤ sizeLine := by
          have h1 := length_mergeK more kvs
          rw [rel1.length, rel2.length] at h1
          omega
        have he : ∃ q, h'.get? p = some q := let ⟨q, _, _, hq, _⟩ := hdd'; ⟨q, hq⟩
        obtain ⟨k1, k2⟩ := upd_rep (p := (kvs.map (·.1), ds)) r2 rfl rs
        obtain ⟨x4, d4⟩ := put_dK dn hl k1 k2
        exact ⟨.non, _, d_write I (by rw [ea]; exact True.intro) hs' he (dk_new hz' hd1 (rel2.merge rel1) hdd'), rfl, q _ _ io x4 d4 .non⟩
      · cases e
    · cases e
  · cases e
end

/-! ### w, *r = tuple -/
theorem star_tup {X : Cx} {pins : List (Addr × Obj)} {σ : L2.St} {H : Hp} {s : Shared} {a : Addr} {x : V} {xs : List V} {Q : List Value → Shared → Prop} {E : Value → Shared → Prop} (hh : X.A.handled = none) (I : L2.Inv X pins σ H s) (h : SqT X.K H a (x :: xs)) (hz : xs.length ≤ 16000)
    (hQ : ∀ us s' p, H p = none → L2.Inv X pins σ (upd H p (.lst xs)) s' → Vals [x, .ref p] us → Q us s') : wpAny (model X.prog X.w) X.A (unpackItems (.ref a) 2 (some 1)) Q E s := by
  obtain ⟨its, rv, hl, _⟩ := I.tuple h
  cases rv with
  | @cons _ u _ us ru rv =>
  have hlen := rv.length
  have hlt : a ≠ s.heap.objs.size := by obtain ⟨o, ho, _⟩ := hl; exact Nat.ne_of_lt (Heap.lt_size ho)
  have hsz : (u :: us).toArray.size = us.length + 1 := by simp
  unfold unpackItems
  refine wpAny_bind ?_
  unfold notIterableAtAll
  refine wpAny_bind (wpAny_specialOf hl.typeIs slot_tuple_iter.lookup ?_)
  refine wpAny_pure ?_
  simp only [Bool.false_eq_true, if_false]
  refine wpAny_bind (wpAny_holding (PyProof.Rows.iter_tuple hl ?_))
  refine wpAny_bind (wpAny_holding (PyProof.Rows.draw_tuple hlt 1 0 _ _ ⟨_, Heap.get?_push_size _ rfl, rfl, rfl⟩ (hl.push _) (by omega) fun h₁ hit₁ hs₁ => ?_))
  have hl₁ : IsTup h₁ a (u :: us).toArray := (hl.push _).extBut hs₁.extBut hlt
  rw [Nat.zero_add] at hit₁
  have hit₁' := hit₁
  obtain ⟨oi, hoi, _⟩ := hit₁'
  have hl₁' := hl₁
  obtain ⟨ol, hol, _⟩ := hl₁'
  rw [List.drop_zero]
  have hfl : ((u :: us).toArray.toList.take 1).length = 1 := by simp
  rw [if_neg (show ¬ (((u :: us).toArray.toList.take 1).length < 1) by rw [hfl]; omega)]
  refine wpAny_bind (wpAny_holding (PySem.W.kun_collect (s := { s with heap := h₁ }) (T := "tuple_iterator") (.inr (.inr (.inr rfl))) (Walks.tuple (A := X.A.in1) hh s.heap.objs.size a hlt (u :: us).toArray) (fun j u st => st.1.typeIs) (k := 1) (by omega) ⟨hit₁, hl₁⟩ (Heap.lt_size hoi) (Heap.lt_size hol) (fun h₂ tk hk => ?_) (by rw [sizeLine_eq]; omega)))
  have hrl : ((u :: us).toArray.toList.drop 1).length = us.length := by simp
  show wpAny _ _ (if ((u :: us).toArray.toList.drop 1).length < 2 - 1 - 1 then _ else _) _ _ _
  rw [if_neg (by omega)]
  show wpAny _ _ (newList (((u :: us).toArray.toList.drop 1).take (((u :: us).toArray.toList.drop 1).length - (2 - 1 - 1))) >>= fun d => pure ((u :: us).toArray.toList.take 1 ++ [d] ++ ((u :: us).toArray.toList.drop 1).drop (((u :: us).toArray.toList.drop 1).length - (2 - 1 - 1)))) _ _ _
  have e1 : ((u :: us).toArray.toList.drop 1).take (((u :: us).toArray.toList.drop 1).length - (2 - 1 - 1)) = us := by simp
  have e2 : ((u :: us).toArray.toList.drop 1).drop (((u :: us).toArray.toList.drop 1).length - (2 - 1 - 1)) = [] := by simp
  have e3 : (u :: us).toArray.toList.take 1 = [u] := by simp
  rw [e1, e2, e3]
  have he : ∀ b o, s.heap.get? b = some o → h₂.get? b = some o := fun b o e => hk b o (Nat.ne_of_lt (Heap.lt_size e)) (hs₁.extBut b o (Nat.ne_of_lt (Heap.lt_size e)) (Heap.get?_push_of_some _ e))
  have I2 : L2.Inv X pins σ H { s with heap := h₂, toks := tk } := I.kept he
  refine wpAny_bind (wpAny_newList (wpAny_pure ?_) (by rw [sizeLine_eq]; omega))
  exact hQ _ _ h₂.objs.size (I2.hok.fresh (Nat.le_refl _)) (I2.lnew (t' := tk) rv (by rw [sizeLine_eq]; omega)) (.cons ru (.cons rfl .nil))
def gStar (K : PySem.W.Frag) (i j : Nat) : TG := fun v σ H Q => ∃ a x xs, v = .ref a ∧ SqT K H a (x :: xs) ∧ xs.length ≤ 16000 ∧ ∀ p, H p = none → Q (setAll [i, j] [x, .ref p] σ) (upd H p (.lst xs))
def sStar (i j : Nat) (a : RE) : RS := fun e S => (a e S).fl e fun d S1 => match d with
  | .tup (x :: xs) => if xs.length ≤ 16000 then .nx (setAll [i, j] [x, .lst xs] e) S1 else .bad
  | _ => .bad
section
variable {X : Cx} {C : Nat → Addr} {W : WX} {pos : Pos}
theorem pg_star (i j : Nat) {x y : Str} {px py ps pt : Pos} {k : Nat} (hc : X.calm = true) (hN : X.N.Nodup) (h : PGs X [.Name x px, .Name y py] (gAll [i, j])) : PG X (.Tuple [.Name x px, .Starred (.Name y py) ps] k pt) (gStar X.K i j) := by
  refine ⟨fun pins s σ H v u Q I r hw => ?_⟩
  obtain ⟨a, x0, xs, rfl, hq, hz, hw⟩ := hw
  cases r
  show wpAny _ _ (assign (.Tuple [.Name x px, .Starred (.Name y py) ps] k pt) X.env (.ref a)) _ _ _
  rw [assign_Tuple]
  refine wpAny_bind (wpAny_standAt ?_)
  show wpAny _ _ (unpack (.ref a) [(false, assign (.Name x px) X.env), (true, assign (.Name y py) X.env)]) _ _ _
  unfold unpack
  refine wpAny_bind (wpAny_holding (star_tup (I.ok.hd hc) I hq hz fun us s' p hp I' rv => ?_))
  exact h.run pins s' σ (upd H p (.lst xs)) _ us Q I' rv ⟨rfl, hw p hp⟩
theorem s_star (i j : Nat) {x y : Str} {px py ps pt : Pos} {k : Nat} {a : Expr} {ra : RE} (hc : X.calm = true) (hN : X.N.Nodup) (ha : PE X a (tE X.K C W ra)) (h : PGs X [.Name x px, .Name y py] (gAll [i, j])) (hs : swapsWithSole [.Tuple [.Name x px, .Starred (.Name y py) ps] k pt] a pos.line X.env = pure false := by rfl) (hw : swappedStores [.Tuple [.Name x px, .Starred (.Name y py) ps] k pt] a X.env = pure none := by rfl)
    (h1 : (assignEach [.Tuple [.Name x px, .Starred (.Name y py) ps] k pt] X.env).map (·.2) = [assign (.Tuple [.Name x px, .Starred (.Name y py) ps] k pt) X.env] := by rfl) : PS X (.Assign [.Tuple [.Name x px, .Starred (.Name y py) ps] k pt] a pos) (tS X.K C W (sStar i j ra)) :=
  (ps_asg ha (pg_star i j hc hN h) hs hw h1).imp fun Dn sg H h => (tS.seq (R := RepR X.K C) (fun e d S1 => match d with
    | .tup (x :: xs) => if xs.length ≤ 16000 then .nx (setAll [i, j] [x, .lst xs] e) S1 else .bad
    | _ => .bad) h fun _ _ => rfl).mono fun v H1 ⟨e, S, io, k1, d, s, q, p⟩ => by
    split at p
    · rename_i x xs
      split at p
      · rename_i hz
        cases q with
        | @tup a vs _ hq r =>
        cases r with
        | @cons _ _ v0 vr r0 rr =>
        refine ⟨a, v0, vr, rfl, sqT_same (Fz_same _ _) hq, by rw [← rr.length]; exact hz, fun pn hp => ?_⟩
        obtain ⟨x1, d1, r1⟩ := new_lst d rr hp
        exact p _ _ io x1 d1 (setAll_slots [i, j] (s.ext x1) (.cons (r0.ext x1) (.cons r1 .nil)))
      · exact p.elim
    · exact p.elim
/-! f() -/
theorem ee_call0 {f : Addr} {fd : FuncData} {ps : List Str} {g : List D → Store → Res D} {x : Str} {p : Pos} (F : Cal X f fd ps (spOf X.K C 0 g)) (hg : Gl X x) (hm : X.mg x = some (.ref f)) (hk : PySem.W.keepIn X.K (.ref f) = true) (hb : Binds X.K fd ps []) (tk : Takes X W) (hdb : (x == ("__debug__" : Str)) = false := by decide) :
    PE X (.Call (.Name x p) [] [] pos) (tE X.K C W (rCall g rNil)) := by
  refine ⟨fun pins s sg H Q I h => ?_⟩
  obtain ⟨e, S, io, dn, sl, q⟩ := h
  replace q : Post X.K C (RepR X.K C) W sg io H (g [] S) Q := q
  have sp : spOf X.K C 0 g [] H Q (WE W sg) := ⟨rfl, [], S, io, dn, .nil, by
    cases e : g [] S with
    | ok a S1 => rw [e] at q; exact q
    | err y S1 => rw [e] at q; exact q
    | bad => rw [e] at q; exact q⟩
  have hl2 : ([] : List Value).length = ps.length := F.len [] H Q _ sp
  have b := hb s [] I.kIn (by rw [List.append_nil]; exact hl2)
  rw [List.append_nil] at b
  refine wpAny_Call_Name_kw (ld_glob I hg hm ?_ hdb)
  exact PySem.W.callWith_K0 I.kIn hk (run_cal F tk b I .nil sp)
/-! a tuple of texts that the module has written -/
def ktVal : List Str → List Tok → List Value
  | x :: xs, t :: ts => .str x t :: ktVal xs ts
  | _, _ => []
def KTup (K : PySem.W.Frag) (a : Addr) (xs : List Str) : Prop := ∃ (ts : List Tok) (n : Nat) (sl : Array (Option Value)), ts.length = xs.length ∧ K.lookup a = some ⟨.type "tuple", none, .seq (ktVal xs ts).toArray n, sl⟩ ∧ xs.length ≤ 1000
theorem kt_vals : ∀ {xs : List Str} {ts : List Tok}, ts.length = xs.length → Vals (xs.map V.str) (ktVal xs ts) ∧ (ktVal xs ts).length = xs.length
  | [], [], _ => ⟨.nil, rfl⟩
  | x :: xs, t :: ts, h => by
    obtain ⟨h1, h2⟩ := kt_vals (xs := xs) (ts := ts) (by simpa using h)
    exact ⟨.cons ⟨t, rfl⟩ h1, by simp [ktVal, h2]⟩
theorem ee_gT {x : Str} {xs : List Str} (h : ∃ a, X.mg x = some (.ref a) ∧ KTup X.K a xs) (hg : Gl X x := by rfl) (hd : (x == ("__debug__" : Str)) = false := by decide) : PE X (.Name x pos) (tE X.K C W (rCon (.tup (xs.map D.str)))) :=
  let ⟨a, hm, ts, n, sl, hl, e, hz⟩ := h
  ee_glob (v := .ref a) hg hm rfl (fun io F => .tup (.inr ⟨_, _, n, e, rfl, rfl, by
    have := (kt_vals hl).2
    rw [List.size_toArray, this, sizeLine_eq]; omega, by simpa using (kt_vals hl).1⟩) (reps_strs xs)) hd
end
end Ev
namespace Ev
open PySem PySem.Spec L2
section
variable {e : Env} {S : Store} {A B : Type}
@[simp] theorem bind_ok (a : A) (S : Store) (f : A → Store → Res B) : (Res.ok a S).bind f = f a S := (rfl)
@[simp] theorem bind_err (x : Exn) (S : Store) (f : A → Store → Res B) : (Res.err x S).bind f = .err x S := (rfl)
@[simp] theorem fl_ok (a : A) (S : Store) (f : A → Store → Fl) : (Res.ok a S).fl e f = f a S := (rfl)
@[simp] theorem fl_err (x : Exn) (S : Store) (f : A → Store → Fl) : (Res.err x S).fl e f = .er x e S := (rfl)
@[simp] theorem then_nx (k : RS) : (Fl.nx e S).andThen k = k e S := (rfl)
@[simp] theorem then_rt (d : D) (k : RS) : (Fl.rt d S).andThen k = .rt d S := (rfl)
@[simp] theorem then_er (x : Exn) (k : RS) : (Fl.er x e S).andThen k = .er x e S := (rfl)
@[simp] theorem bind_bad (f : A → Store → Res B) : (Res.bad : Res A).bind f = .bad := (rfl)
@[simp] theorem fl_bad (f : A → Store → Fl) : (Res.bad : Res A).fl e f = .bad := (rfl)
@[simp] theorem then_bad (k : RS) : (Fl.bad).andThen k = .bad := (rfl)
@[simp] theorem ofO_none : (ofO none S : Res A) = .bad := (rfl)
@[simp] theorem res_nx : (Fl.nx e S).res = .ok .non S := (rfl)
@[simp] theorem res_rt (d : D) : (Fl.rt d S).res = .ok d S := (rfl)
@[simp] theorem res_er (x : Exn) : (Fl.er x e S).res = .err x S := (rfl)
@[simp] theorem res_ite {c : Prop} [Decidable c] (a b : Fl) : (if c then a else b).res = if c then a.res else b.res := by split <;> rfl
@[simp] theorem then_ite {c : Prop} [Decidable c] (a b : Fl) (k : RS) : (if c then a else b).andThen k = if c then a.andThen k else b.andThen k := by split <;> rfl
@[simp] theorem bind_ite {c : Prop} [Decidable c] (a b : Res A) (k : A → Store → Res B) : (if c then a else b).bind k = if c then a.bind k else b.bind k := by split <;> rfl
@[simp] theorem fl_ite {c : Prop} [Decidable c] (a b : Res A) (k : A → Store → Fl) : (if c then a else b).fl e k = if c then a.fl e k else b.fl e k := by split <;> rfl
@[simp] theorem ofO_some (a : A) : ofO (some a) S = .ok a S := (rfl)
@[simp] theorem rCon_eq (d : D) : rCon d e S = .ok d S := (rfl)
@[simp] theorem rVar_eq (i : Nat) : rVar i e S = match e[i]? with | some (some d) => .ok d S | _ => .bad := (rfl)
@[simp] theorem rBin_eq (f : Store → D → D → Option D) (a b : RE) : rBin f a b e S = (a e S).bind fun x S1 => (b e S1).bind fun y S2 => ofO (f S2 x y) S2 := (rfl)
@[simp] theorem rUn_eq (f : Store → D → Option D) (a : RE) : rUn f a e S = (a e S).bind fun x S1 => ofO (f S1 x) S1 := (rfl)
@[simp] theorem rCal_eq (f : Store → List D → Option D) (a : RA) : rCal f a e S = (a e S).bind fun xs S1 => ofO (f S1 xs) S1 := (rfl)
@[simp] theorem rCall_eq (g : List D → Store → Res D) (a : RA) : rCall g a e S = (a e S).bind fun xs S1 => g xs S1 := (rfl)
@[simp] theorem rCallK_eq (g : List D → Store → Res D) (src : List Src) (as ks : RA) : rCallK g src as ks e S = (as e S).bind fun ds S1 => (ks e S1).bind fun es S2 => match pick ds es src with | some zs => g zs S2 | none => .bad := (rfl)
@[simp] theorem pick_nil (us ws : List D) : pick us ws [] = some [] := (rfl)
@[simp] theorem pick_cons (us ws : List D) (q : Src) (r : List Src) : pick us ws (q :: r) = (pick1 us ws q).bind fun x => (pick us ws r).bind fun xs => some (x :: xs) := (rfl)
@[simp] theorem pick1_p (us ws : List D) (i : Nat) : pick1 us ws (.p i) = us[i]? := (rfl)
@[simp] theorem pick1_k (us ws : List D) (i : Nat) : pick1 us ws (.k i) = ws[i]? := (rfl)
@[simp] theorem pick1_c (us ws : List D) (d : D) : pick1 us ws (.c d) = some d := (rfl)
@[simp] theorem rNil_eq : rNil e S = .ok [] S := (rfl)
@[simp] theorem rCons_eq (a : RE) (r : RA) : rCons a r e S = (a e S).bind fun x S1 => (r e S1).bind fun xs S2 => .ok (x :: xs) S2 := (rfl)
@[simp] theorem rTup_eq (r : RA) : rTup r e S = (r e S).bind fun xs S1 => .ok (.tup xs) S1 := (rfl)
@[simp] theorem rLst_eq (r : RA) : rLst r e S = (r e S).bind fun xs S1 => .ok (.lst xs) S1 := (rfl)
@[simp] theorem rLstM_eq (r : RA) : rLstM r e S = (r e S).bind fun xs S1 => .ok (.loc S1.length) (S1 ++ [.lst xs]) := (rfl)
@[simp] theorem rAddM_eq (a b : RE) : rAddM a b e S = (a e S).bind fun x S1 => (b e S1).bind fun y S2 => match asL S2 x, asL S2 y with
  | some xs, some ys => if xs.length + ys.length ≤ sizeLine then .ok (.loc S2.length) (S2 ++ [.lst (xs ++ ys)]) else .bad
  | _, _ => .bad := (rfl)
@[simp] theorem rDct0_eq : rDct0 e S = .ok (.dct [] []) S := (rfl)
@[simp] theorem rAnd_eq (a b : RE) : rAnd a b e S = (a e S).bind fun x S1 => (ofO (truthD S1 x) S1).bind fun k S2 => if k = true then b e S2 else .ok x S2 := (rfl)
@[simp] theorem rOr_eq (a b : RE) : rOr a b e S = (a e S).bind fun x S1 => (ofO (truthD S1 x) S1).bind fun k S2 => if k = true then .ok x S2 else b e S2 := (rfl)
@[simp] theorem rNot_eq (a : RE) : rNot a e S = (a e S).bind fun x S1 => (ofO (truthD S1 x) S1).bind fun k S2 => .ok (.bl (!k)) S2 := (rfl)
@[simp] theorem rIf_eq (t : RT) (a b : RE) : rIf t a b e S = (t e S).bind fun k S1 => if k = true then a e S1 else b e S1 := (rfl)
@[simp] theorem rTest_eq (a : RE) : rTest a e S = (a e S).bind fun x S1 => ofO (asB x) S1 := (rfl)
@[simp] theorem rTruth_eq (a : RE) : rTruth a e S = (a e S).bind fun x S1 => ofO (truthD S1 x) S1 := (rfl)
@[simp] theorem rAndT_eq (a b : RT) : rAndT a b e S = (a e S).bind fun k S1 => if k = true then b e S1 else .ok false S1 := (rfl)
@[simp] theorem rOrT_eq (a b : RT) : rOrT a b e S = (a e S).bind fun k S1 => if k = true then .ok true S1 else b e S1 := (rfl)
@[simp] theorem rNotT_eq (a : RT) : rNotT a e S = (a e S).bind fun k S1 => .ok (!k) S1 := (rfl)
@[simp] theorem rChain_eq (a : RE) (k : RC) : rChain a k e S = (a e S).bind fun x S1 => k x e S1 := (rfl)
@[simp] theorem rLast_eq (f : Store → D → D → Option D) (b : RE) (x : D) : rLast f b x e S = (b e S).bind fun y S1 => ofO (f S1 x y) S1 := (rfl)
@[simp] theorem rLink_eq (f : Store → D → D → Option D) (b : RE) (k : RC) (x : D) : rLink f b k x e S = (b e S).bind fun y S1 => (ofO ((f S1 x y).bind asB) S1).bind fun t S2 => if t = true then k y e S2 else .ok (.bl false) S2 := (rfl)
@[simp] theorem rSl_eq (a : RE) (lo hi : RO) : rSl a lo hi e S = (a e S).bind fun x S1 => (lo e S1).bind fun l S2 => (hi e S2).bind fun h S3 => ofO (slD S3 x l h) S3 := (rfl)
@[simp] theorem rNoP_eq : rNoP e S = .ok none S := (rfl)
@[simp] theorem rPart_eq (a : RE) : rPart a e S = (a e S).bind fun x S1 => (ofO (asI x) S1).bind fun i S2 => .ok (some i) S2 := (rfl)
@[simp] theorem sNil_eq : sNil e S = .nx e S := (rfl)
@[simp] theorem sSeq_eq (a b : RS) : sSeq a b e S = (a e S).andThen b := (rfl)
@[simp] theorem sIf_eq (t : RT) (a b : RS) : sIf t a b e S = (t e S).fl e fun k S1 => if k = true then a e S1 else b e S1 := (rfl)
@[simp] theorem sRet_eq (a : RE) : sRet a e S = (a e S).fl e fun d S1 => .rt d S1 := (rfl)
@[simp] theorem sRetN_eq : sRetN e S = .rt .non S := (rfl)
@[simp] theorem sExp_eq (a : RE) : sExp a e S = (a e S).fl e fun _ S1 => .nx e S1 := (rfl)
@[simp] theorem sSet_eq (i : Nat) (a : RE) : sSet i a e S = (a e S).fl e fun d S1 => .nx (e.set i (some d)) S1 := (rfl)
@[simp] theorem sAsg_eq (t : Tg) (a : RE) : sAsg t a e S = (a e S).fl e fun d S1 => match bindT S1 d e t with | some e' => .nx e' S1 | none => .bad := (rfl)
@[simp] theorem sPar_eq (is : List Nat) (as : RA) : sPar is as e S = (as e S).fl e fun ds S1 => if ds.length = is.length then .nx (setAll is ds e) S1 else .bad := (rfl)
@[simp] theorem sPutIx_eq (a o i : RE) : sPutIx a o i e S = (a e S).fl e fun v S1 => (o e S1).fl e fun x S2 => (i e S2).fl e fun y S3 => match putIx S3 x y v with | some S4 => .nx e S4 | none => .bad := (rfl)
@[simp] theorem sAug_eq (i : Nat) (f : Store → D → D → Option D) (a : RE) : sAug i f a e S = match e[i]? with
  | some (some x) => (a e S).fl e fun y S1 => match f S1 x y with
    | some z => .nx (e.set i (some z)) S1
    | none => .bad
  | _ => .bad := (rfl)
@[simp] theorem sFor_eq (it : RA) (t : Tg) (body : RS) : sFor it t body e S = (it e S).fl e fun ds S1 => forL t body ds e S1 := (rfl)
@[simp] theorem rLive_eq (a : RE) : rLive a e S = (a e S).bind fun d S1 => if okIt S1 d = true then .ok d S1 else .bad := (rfl)
@[simp] theorem sForV_eq (a : RE) (t : Tg) (body : RS) (k : Nat) : sForV a t body k e S = (rLive a e S).fl e fun x S1 => forV t body x k 0 e S1 := (rfl)
@[simp] theorem rIt_eq (a : RE) : rIt a e S = (a e S).bind fun d S1 => ofO (itemsD d) S1 := (rfl)
@[simp] theorem rRan_eq (f : List D → Option (List D)) (as : RA) : rRan f as e S = (as e S).bind fun ds S1 => ofO (f ds) S1 := (rfl)
@[simp] theorem sRaiseF_eq (c : Nat) (ns : List Str) (as : RA) : sRaiseF c ns as e S = (as e S).fl e fun ds S1 => if ds.length = ns.length then .er ⟨c, ns.reverse, ds.reverse⟩ e S1 else .bad := (rfl)
@[simp] theorem sRaise0_eq (c : Nat) : sRaise0 c e S = .er ⟨c, [], []⟩ e S := (rfl)
@[simp] theorem sTryAs_eq (sub : Nat → Option Bool) (i : Nat) (body suite : RS) : sTryAs sub i body suite e S = match body e S with
  | .er x e1 S1 => catchAs sub i suite x e1 S1
  | f => f := (rfl)
@[simp] theorem sTryOnly_eq (sub : Nat → Option Bool) (body suite : RS) : sTryOnly sub body suite e S = match body e S with
  | .er x e1 S1 => catchOnly sub suite x e1 S1
  | f => f := (rfl)
@[simp] theorem setAll_cons {A : Type} (i : Nat) (is : List Nat) (d : A) (ds : List A) (e : List (Option A)) : setAll (i :: is) (d :: ds) e = setAll is ds (e.set i (some d)) := (rfl)
@[simp] theorem setAll_nil {A : Type} (ds : List A) (e : List (Option A)) : setAll [] ds e = e := by cases ds <;> rfl
@[simp] theorem bindT_nm (d : D) (i : Nat) : bindT S d e (.nm i) = some (e.set i (some d)) := (rfl)
@[simp] theorem bindT_tp (d : D) (is : List Nat) : bindT S d e (.tp is) = (parts S d).bind fun ds => if ds.length = is.length then some (setAll is ds e) else none := (rfl)
@[simp] theorem bindT_tn (d : D) (qs : List (Nat ⊕ List Nat)) : bindT S d e (.tn qs) = (parts S d).bind fun ds => bindN S qs ds e := (rfl)
@[simp] theorem bindN_nil : bindN S [] [] e = some e := (rfl)
@[simp] theorem bindN_inl (i : Nat) (qs : List (Nat ⊕ List Nat)) (d : D) (ds : List D) : bindN S (.inl i :: qs) (d :: ds) e = bindN S qs ds (e.set i (some d)) := (rfl)
@[simp] theorem bindN_inr (is : List Nat) (qs : List (Nat ⊕ List Nat)) (d : D) (ds : List D) : bindN S (.inr is :: qs) (d :: ds) e = (parts S d).bind fun xs => if xs.length = is.length then bindN S qs ds (setAll is xs e) else none := (rfl)
@[simp] theorem parts_tup (xs : List D) : parts S (.tup xs) = some xs := (rfl)
@[simp] theorem parts_lst (xs : List D) : parts S (.lst xs) = some xs := (rfl)
@[simp] theorem itemsD_tup (xs : List D) : itemsD (.tup xs) = some xs := (rfl)
@[simp] theorem itemsD_lst (xs : List D) : itemsD (.lst xs) = some xs := (rfl)
@[simp] theorem asB_bl (b : Bool) : asB (.bl b) = some b := (rfl)
@[simp] theorem asI_int (i : Int) : asI (.int i) = some i := (rfl)
@[simp] theorem truthD_bl (b : Bool) : truthD S (.bl b) = some b := (rfl)
@[simp] theorem truthD_int (i : Int) : truthD S (.int i) = some (i != 0) := (rfl)
@[simp] theorem truthD_non : truthD S .non = some false := (rfl)
@[simp] theorem asL_lst (xs : List D) : asL S (.lst xs) = some xs := (rfl)
@[simp] theorem asL_loc (n : Nat) : asL S (.loc n) = match S[n]? with | some (.lst xs) => some xs | _ => none := (rfl)
@[simp] theorem addD_int (i j : Int) : addD S (.int i) (.int j) = some (.int (i + j)) := (rfl)
@[simp] theorem i2_int (c : Int → Int → Bool) (g : Int → Int → D) (i j : Int) : i2 c g S (.int i) (.int j) = if c i j = true then some (g i j) else none := (rfl)
@[simp] theorem subD_int (i j : Int) : subD S (.int i) (.int j) = some (.int (i - j)) := (rfl)
@[simp] theorem mulD_int (i j : Int) : mulD S (.int i) (.int j) = if mulOk i j = true then some (.int (i * j)) else none := (rfl)
@[simp] theorem mulT_int (i j : Int) : mulT S (.int i) (.int j) = if mulOk i j = true then some (.int (i * j)) else none := (rfl)
@[simp] theorem mulT_str (x : Str) (n : Int) : mulT S (.str x) (.int n) = if 1 < n ∧ n < 1000 ∧ x.length ≠ 0 ∧ x.length * n.toNat ≤ sizeLine then some (.str (repS x n.toNat)) else none := (rfl)
@[simp] theorem divD_int (i j : Int) : divD S (.int i) (.int j) = if (decide (0 < j) && decide (j < 18446744073709551616)) = true then some (.int (i / j)) else none := (rfl)
@[simp] theorem modD_int (i j : Int) : modD S (.int i) (.int j) = if decide (0 < j) = true then some (.int (i % j)) else none := (rfl)
@[simp] theorem powD_int (i j : Int) : powD S (.int i) (.int j) = if powOk i j = true then some (.int (i ^ j.toNat)) else none := (rfl)
@[simp] theorem shlD_int (i j : Int) : shlD S (.int i) (.int j) = if powOk i j = true then some (.int (i * 2 ^ j.toNat)) else none := (rfl)
@[simp] theorem shrD_int (i j : Int) : shrD S (.int i) (.int j) = if decide (0 ≤ j) = true then some (.int (i / 2 ^ j.toNat)) else none := (rfl)
@[simp] theorem andD_int (i j : Int) : andD S (.int i) (.int j) = some (.int (Builtin.bitAnd i j)) := (rfl)
@[simp] theorem orD_int (i j : Int) : orD S (.int i) (.int j) = some (.int (Builtin.bitOr i j)) := (rfl)
@[simp] theorem xorD_int (i j : Int) : xorD S (.int i) (.int j) = some (.int (Builtin.bitXor i j)) := (rfl)
@[simp] theorem ltD_int (i j : Int) : ltD S (.int i) (.int j) = some (.bl (decide (i < j))) := (rfl)
@[simp] theorem leD_int (i j : Int) : leD S (.int i) (.int j) = some (.bl (decide (i ≤ j))) := (rfl)
@[simp] theorem gtD_int (i j : Int) : gtD S (.int i) (.int j) = some (.bl (decide (j < i))) := (rfl)
@[simp] theorem geD_int (i j : Int) : geD S (.int i) (.int j) = some (.bl (decide (j ≤ i))) := (rfl)
@[simp] theorem negD_int (i : Int) : negD S (.int i) = some (.int (-i)) := (rfl)
@[simp] theorem absD_int (i : Int) : absD S [.int i] = some (.int (if i < 0 then -i else i)) := (rfl)
@[simp] theorem intT_int (i : Int) : intT S [.int i] = some (.int i) := (rfl)
@[simp] theorem intT_bl (b : Bool) : intT S [.bl b] = some (.int (if b = true then 1 else 0)) := by cases b <;> rfl
@[simp] theorem intT_str (a : Str) : intT S [.str a] = if a.length ≤ 640 then (intText? a).bind fun n => some (.int n) else none := (rfl)
@[simp] theorem strD_int (i : Int) : strD S [.int i] = if i.natAbs.log2 < 1920 then some (.str (toString i)) else none := (rfl)
@[simp] theorem fmtD_int (i : Int) : fmtD S (.int i) = if i.natAbs.log2 < 1920 then some (.str (toString i)) else none := (rfl)
@[simp] theorem fmtD_str (y : Str) : fmtD S (.str y) = if y.length ≤ sizeLine then some (.str y) else none := (rfl)
@[simp] theorem fldD_exn (ok : Nat → Bool) (f : Str) (c : Nat) (ns : List Str) (xs : List D) : fldD ok f S (.exn c ns xs) = if ok c = true then (ns.zip xs).lookup f else none := (rfl)
@[simp] theorem replD_str (y z x : Str) : replD y z S (.str x) = if x.length + (x.length + 1) * z.length ≤ 16777216 then some (.str (Txt.replace x y z)) else none := (rfl)
@[simp] theorem parts_loc (n : Nat) : parts S (.loc n) = asL S (.loc n) := (rfl)
@[simp] theorem rJs_nil (acc : Str) : rJs [] acc e S = .ok (.str acc) S := (rfl)
@[simp] theorem rJs_cons (r : RE) (rs : List RE) (acc : Str) : rJs (r :: rs) acc e S = (r e S).bind fun x S1 => match x with
    | .str y => if (acc ++ y).length ≤ sizeLine then rJs rs (acc ++ y) e S1 else .bad
    | _ => .bad := (rfl)
@[simp] theorem intD_int (i : Int) : intD S [.int i] = some (.int i) := (rfl)
@[simp] theorem intD_bl (b : Bool) : intD S [.bl b] = some (.int (if b = true then 1 else 0)) := by cases b <;> rfl
@[simp] theorem maxD2_int (i j : Int) : maxD2 S [.int i, .int j] = some (.int (if j > i then j else i)) := (rfl)
@[simp] theorem minD2_int (i j : Int) : minD2 S [.int i, .int j] = some (.int (if j < i then j else i)) := (rfl)
@[simp] theorem listT_lst (xs : List D) : listT S [.lst xs] = some (.lst xs) := (rfl)
@[simp] theorem listT_tup (xs : List D) : listT S [.tup xs] = some (.lst xs) := (rfl)
@[simp] theorem listT_str (x : Str) : listT S [.str x] = if x.length ≤ sizeLine then some (.lst (signsD x)) else none := (rfl)
@[simp] theorem listT_loc (n : Nat) : listT S [.loc n] = (asL S (.loc n)).bind fun xs => some (.lst xs) := (rfl)
@[simp] theorem tupleT_str (x : Str) : tupleT S [.str x] = if x.length ≤ sizeLine then some (.tup (signsD x)) else none := (rfl)
@[simp] theorem tupleT_lst (xs : List D) : tupleT S [.lst xs] = some (.tup xs) := (rfl)
@[simp] theorem tupleT_tup (xs : List D) : tupleT S [.tup xs] = some (.tup xs) := (rfl)
@[simp] theorem tupleT_loc (n : Nat) : tupleT S [.loc n] = (asL S (.loc n)).bind fun xs => some (.tup xs) := (rfl)
@[simp] theorem revD_str (x : Str) : revD S (.str x) = if x.length ≤ sizeLine then some (.str (revS x)) else none := (rfl)
@[simp] theorem lenD_lst (xs : List D) : lenD S [.lst xs] = some (.int xs.length) := (rfl)
@[simp] theorem lenD_tup (xs : List D) : lenD S [.tup xs] = some (.int xs.length) := (rfl)
theorem isiD_of {T t : String} {d : D} {b : Bool} (h1 : tyD S d = some t) (h2 : kitB t T = some b) : isiD T S d = some (.bl b) := by
  unfold isiD; rw [h1, Option.bind_some, h2, Option.bind_some]
@[simp] theorem isi_int_non : isiD "int" S .non = some (.bl false) := isiD_of rfl (by decide +kernel)
@[simp] theorem isi_int_bl (b : Bool) : isiD "int" S (.bl b) = some (.bl true) := isiD_of rfl (by decide +kernel)
@[simp] theorem isi_int_int (i : Int) : isiD "int" S (.int i) = some (.bl true) := isiD_of rfl (by decide +kernel)
@[simp] theorem isi_int_str (x : Str) : isiD "int" S (.str x) = some (.bl false) := isiD_of rfl (by decide +kernel)
@[simp] theorem isi_int_tup (xs : List D) : isiD "int" S (.tup xs) = some (.bl false) := isiD_of rfl (by decide +kernel)
@[simp] theorem isi_int_lst (xs : List D) : isiD "int" S (.lst xs) = some (.bl false) := isiD_of rfl (by decide +kernel)
@[simp] theorem isi_int_dct (ks : List Key) (xs : List D) : isiD "int" S (.dct ks xs) = some (.bl false) := isiD_of rfl (by decide +kernel)
@[simp] theorem isi_bool_non : isiD "bool" S .non = some (.bl false) := isiD_of rfl (by decide +kernel)
@[simp] theorem isi_bool_bl (b : Bool) : isiD "bool" S (.bl b) = some (.bl true) := isiD_of rfl (by decide +kernel)
@[simp] theorem isi_bool_int (i : Int) : isiD "bool" S (.int i) = some (.bl false) := isiD_of rfl (by decide +kernel)
@[simp] theorem isi_bool_str (x : Str) : isiD "bool" S (.str x) = some (.bl false) := isiD_of rfl (by decide +kernel)
@[simp] theorem isi_bool_tup (xs : List D) : isiD "bool" S (.tup xs) = some (.bl false) := isiD_of rfl (by decide +kernel)
@[simp] theorem isi_bool_lst (xs : List D) : isiD "bool" S (.lst xs) = some (.bl false) := isiD_of rfl (by decide +kernel)
@[simp] theorem isi_bool_dct (ks : List Key) (xs : List D) : isiD "bool" S (.dct ks xs) = some (.bl false) := isiD_of rfl (by decide +kernel)
@[simp] theorem isi_str_non : isiD "str" S .non = some (.bl false) := isiD_of rfl (by decide +kernel)
@[simp] theorem isi_str_bl (b : Bool) : isiD "str" S (.bl b) = some (.bl false) := isiD_of rfl (by decide +kernel)
@[simp] theorem isi_str_int (i : Int) : isiD "str" S (.int i) = some (.bl false) := isiD_of rfl (by decide +kernel)
@[simp] theorem isi_str_str (x : Str) : isiD "str" S (.str x) = some (.bl true) := isiD_of rfl (by decide +kernel)
@[simp] theorem isi_str_tup (xs : List D) : isiD "str" S (.tup xs) = some (.bl false) := isiD_of rfl (by decide +kernel)
@[simp] theorem isi_str_lst (xs : List D) : isiD "str" S (.lst xs) = some (.bl false) := isiD_of rfl (by decide +kernel)
@[simp] theorem isi_str_dct (ks : List Key) (xs : List D) : isiD "str" S (.dct ks xs) = some (.bl false) := isiD_of rfl (by decide +kernel)
@[simp] theorem isi_tuple_non : isiD "tuple" S .non = some (.bl false) := isiD_of rfl (by decide +kernel)
@[simp] theorem isi_tuple_bl (b : Bool) : isiD "tuple" S (.bl b) = some (.bl false) := isiD_of rfl (by decide +kernel)
@[simp] theorem isi_tuple_int (i : Int) : isiD "tuple" S (.int i) = some (.bl false) := isiD_of rfl (by decide +kernel)
@[simp] theorem isi_tuple_str (x : Str) : isiD "tuple" S (.str x) = some (.bl false) := isiD_of rfl (by decide +kernel)
@[simp] theorem isi_tuple_tup (xs : List D) : isiD "tuple" S (.tup xs) = some (.bl true) := isiD_of rfl (by decide +kernel)
@[simp] theorem isi_tuple_lst (xs : List D) : isiD "tuple" S (.lst xs) = some (.bl false) := isiD_of rfl (by decide +kernel)
@[simp] theorem isi_tuple_dct (ks : List Key) (xs : List D) : isiD "tuple" S (.dct ks xs) = some (.bl false) := isiD_of rfl (by decide +kernel)
@[simp] theorem isi_list_non : isiD "list" S .non = some (.bl false) := isiD_of rfl (by decide +kernel)
@[simp] theorem isi_list_bl (b : Bool) : isiD "list" S (.bl b) = some (.bl false) := isiD_of rfl (by decide +kernel)
@[simp] theorem isi_list_int (i : Int) : isiD "list" S (.int i) = some (.bl false) := isiD_of rfl (by decide +kernel)
@[simp] theorem isi_list_str (x : Str) : isiD "list" S (.str x) = some (.bl false) := isiD_of rfl (by decide +kernel)
@[simp] theorem isi_list_tup (xs : List D) : isiD "list" S (.tup xs) = some (.bl false) := isiD_of rfl (by decide +kernel)
@[simp] theorem isi_list_lst (xs : List D) : isiD "list" S (.lst xs) = some (.bl true) := isiD_of rfl (by decide +kernel)
@[simp] theorem isi_list_dct (ks : List Key) (xs : List D) : isiD "list" S (.dct ks xs) = some (.bl false) := isiD_of rfl (by decide +kernel)
@[simp] theorem isi_dict_non : isiD "dict" S .non = some (.bl false) := isiD_of rfl (by decide +kernel)
@[simp] theorem isi_dict_bl (b : Bool) : isiD "dict" S (.bl b) = some (.bl false) := isiD_of rfl (by decide +kernel)
@[simp] theorem isi_dict_int (i : Int) : isiD "dict" S (.int i) = some (.bl false) := isiD_of rfl (by decide +kernel)
@[simp] theorem isi_dict_str (x : Str) : isiD "dict" S (.str x) = some (.bl false) := isiD_of rfl (by decide +kernel)
@[simp] theorem isi_dict_tup (xs : List D) : isiD "dict" S (.tup xs) = some (.bl false) := isiD_of rfl (by decide +kernel)
@[simp] theorem isi_dict_lst (xs : List D) : isiD "dict" S (.lst xs) = some (.bl false) := isiD_of rfl (by decide +kernel)
@[simp] theorem isi_dict_dct (ks : List Key) (xs : List D) : isiD "dict" S (.dct ks xs) = some (.bl true) := isiD_of rfl (by decide +kernel)
@[simp] theorem eqD_eq (a b : D) : eqD S a b = (eqB S a b).bind fun k => some (.bl k) := (rfl)
@[simp] theorem neD_eq (a b : D) : neD S a b = (eqB S a b).bind fun k => some (.bl (!k)) := (rfl)
@[simp] theorem eqB_ii (i j : Int) : eqB S (.int i) (.int j) = some (i == j) := by simp [eqB, deepN, pyD, PyData.eqv]
@[simp] theorem eqB_ss (i j : Str) : eqB S (.str i) (.str j) = some (i == j) := by simp [eqB, deepN, pyD, PyData.eqv]
@[simp] theorem eqB_tt (xs ys : List D) : eqB S (.tup xs) (.tup ys) = (pyAll (pyD S 59) xs).bind fun p => (pyAll (pyD S 59) ys).bind fun q => some (PyData.eqvAll p q) := by
  unfold eqB deepN
  simp only [pyD]
  cases pyAll (pyD S 59) xs <;> cases pyAll (pyD S 59) ys <;> simp [PyData.eqv]
@[simp] theorem eqB_ll (xs ys : List D) : eqB S (.lst xs) (.lst ys) = (pyAll (pyD S 59) xs).bind fun p => (pyAll (pyD S 59) ys).bind fun q => some (PyData.eqvAll p q) := by
  unfold eqB deepN
  simp only [pyD]
  cases pyAll (pyD S 59) xs <;> cases pyAll (pyD S 59) ys <;> simp [PyData.eqv]
@[simp] theorem pyAll_nil (f : D → Option PyData) : pyAll f [] = some [] := (rfl)
@[simp] theorem pyAll_cons' (f : D → Option PyData) (x : D) (xs : List D) : pyAll f (x :: xs) = (f x).bind fun y => (pyAll f xs).bind fun ys => some (y :: ys) := (rfl)
@[simp] theorem pyD_int (n : Nat) (i : Int) : pyD S n (.int i) = some (.int i) := by cases n <;> rfl
@[simp] theorem pyD_str (n : Nat) (i : Str) : pyD S n (.str i) = some (.str i) := by cases n <;> rfl
@[simp] theorem pyD_bl (n : Nat) (i : Bool) : pyD S n (.bl i) = some (.bool i) := by cases n <;> rfl
@[simp] theorem pyD_non (n : Nat) : pyD S n .non = some .none := by cases n <;> rfl
@[simp] theorem isN_non : isN S .non .non = some (.bl true) := (rfl)
@[simp] theorem isN_exn (c : Nat) (ns : List Str) (xs : List D) : isN S (.exn c ns xs) .non = some (.bl false) := (rfl)
end
theorem forL_inv {t : Tg} {body : RS} (P : Env → Store → Prop) : ∀ (ds : List D) {e : Env} {S : Store}, (∀ d ∈ ds, ∀ e S, P e S → ∃ e1, bindT S d e t = some e1 ∧ ∃ e2 S2, body e1 S = .nx e2 S2 ∧ P e2 S2) → P e S → ∃ e' S', forL t body ds e S = .nx e' S' ∧ P e' S'
  | [], e, S, _, h => ⟨e, S, rfl, h⟩
  | d :: ds, e, S, hs, h => by
    obtain ⟨e1, h1, e2, S2, h2, h3⟩ := hs d List.mem_cons_self e S h
    obtain ⟨e', S', h4, h5⟩ := forL_inv P ds (fun d hd => hs d (List.mem_cons_of_mem _ hd)) h3
    exact ⟨e', S', by simp [forL, h1, h2, h4], h5⟩
theorem forL_try {t : Tg} {body : RS} (P : Env → Store → Prop) (R : D → Store → Prop) : ∀ (ds : List D) {e : Env} {S : Store}, (∀ d ∈ ds, ∀ e S, P e S → ∃ e1, bindT S d e t = some e1 ∧ ((∃ e2 S2, body e1 S = .nx e2 S2 ∧ P e2 S2) ∨ ∃ x S2, body e1 S = .rt x S2 ∧ R x S2)) → P e S →
    (∃ e' S', forL t body ds e S = .nx e' S' ∧ P e' S') ∨ ∃ x S', forL t body ds e S = .rt x S' ∧ R x S'
  | [], e, S, _, h => .inl ⟨e, S, rfl, h⟩
  | d :: ds, e, S, hs, h => by
    obtain ⟨e1, h1, h2⟩ := hs d List.mem_cons_self e S h
    rcases h2 with ⟨e2, S2, h2, h3⟩ | ⟨x, S2, h2, h3⟩
    · rcases forL_try P R ds (fun d hd => hs d (List.mem_cons_of_mem _ hd)) h3 with ⟨e', S', h4, h5⟩ | ⟨x, S', h4, h5⟩
      · exact .inl ⟨e', S', by simp [forL, h1, h2, h4], h5⟩
      · exact .inr ⟨x, S', by simp [forL, h1, h2, h4], h5⟩
    · exact .inr ⟨x, S2, by simp [forL, h1, h2], h3⟩
/-- a loop, by what has been gone through -/
theorem forL_pre {t : Tg} {body : RS} (P : List D → Env → Store → Prop) : ∀ (ds pre : List D) {e : Env} {S : Store}, (∀ p d q, pre ++ ds = p ++ d :: q → ∀ e S, P p e S → ∃ e1, bindT S d e t = some e1 ∧ ∃ e2 S2, body e1 S = .nx e2 S2 ∧ P (p ++ [d]) e2 S2) → P pre e S → ∃ e' S', forL t body ds e S = .nx e' S' ∧ P (pre ++ ds) e' S'
  | [], pre, e, S, _, h => ⟨e, S, rfl, by rw [List.append_nil]; exact h⟩
  | d :: ds, pre, e, S, hs, h => by
    obtain ⟨e1, h1, e2, S2, h2, h3⟩ := hs pre d ds rfl e S h
    obtain ⟨e', S', h4, h5⟩ := forL_pre P ds (pre ++ [d]) (fun p x q eq => hs p x q (by rw [← eq, List.append_assoc]; rfl)) h3
    refine ⟨e', S', by simp [forL, h1, h2, h4], ?_⟩
    rw [List.append_assoc] at h5
    exact h5
/-- a loop that folds -/
theorem forL_fold {A B : Type} {t : Tg} {body : RS} (g : A → D) (f : B → A → B) (P : B → Env → Store → Prop) : ∀ (as : List A) {b : B} {e : Env} {S : Store}, (∀ a ∈ as, ∀ b e S, P b e S → ∃ e1, bindT S (g a) e t = some e1 ∧ ∃ e2 S2, body e1 S = .nx e2 S2 ∧ P (f b a) e2 S2) → P b e S → ∃ e' S', forL t body (as.map g) e S = .nx e' S' ∧ P (as.foldl f b) e' S'
  | [], b, e, S, _, h => ⟨e, S, rfl, h⟩
  | a :: as, b, e, S, hs, h => by
    obtain ⟨e1, h1, e2, S2, h2, h3⟩ := hs a List.mem_cons_self b e S h
    obtain ⟨e', S', h4, h5⟩ := forL_fold g f P as (fun x hx => hs x (List.mem_cons_of_mem _ hx)) h3
    exact ⟨e', S', by simp [forL, h1, h2, h4], h5⟩
/-- a comprehension over a list of the store, which stays -/
theorem lcV_map {A : Type} {t : Tg} {c : RT} {elt : RE} {e0 : Env} {x : D} {S : Store} (h : A → D) (E : A → Env) (p : A → Bool) (f : A → D) (as : List A) (hx : ∀ i, itemAt S x i = some ((as.map h)[i]?)) (hs : ∀ a ∈ as, bindT S (h a) e0 t = some (E a) ∧ c (E a) S = .ok (p a) S ∧ (p a = true → elt (E a) S = .ok (f a) S)) :
    ∀ (k i : Nat), as.length < i + k → i ≤ as.length → lcV t c elt e0 x k i S = .ok (((as.drop i).filter p).map f) S
  | 0, i, h1, h2 => by omega
  | k + 1, i, h1, h2 => by
    unfold lcV
    rw [hx i, List.getElem?_map]
    by_cases hi : i < as.length
    · obtain ⟨b1, b2, b3⟩ := hs as[i] (List.getElem_mem hi)
      have ih := lcV_map h E p f as hx hs k (i + 1) (by omega) (by omega)
      rw [List.getElem?_eq_getElem hi, List.drop_eq_getElem_cons hi, List.filter_cons]
      dsimp only [Option.map_some]
      rw [b1]
      dsimp only
      rw [b2, bind_ok]
      cases hp : p as[i] with
      | true => rw [if_pos rfl, if_pos rfl, b3 hp, bind_ok, ih, bind_ok, List.map_cons]
      | false => rw [if_neg Bool.false_ne_true, if_neg Bool.false_ne_true, ih]
    · rw [List.getElem?_eq_none (by omega), List.drop_of_length_le (by omega)]
      rfl
/-- a loop that comes back at the first item for which c holds -/
theorem forL_search {t : Tg} {body : RS} (P : Env → Prop) (c : D → Bool) (r : D) {S : Store} : ∀ (ds : List D) {e : Env}, (∀ d ∈ ds, ∀ e, P e → ∃ e1, bindT S d e t = some e1 ∧ (c d = true → body e1 S = .rt r S) ∧ (c d = false → ∃ e2, body e1 S = .nx e2 S ∧ P e2)) → P e →
    (ds.any c = true ∧ forL t body ds e S = .rt r S) ∨ (ds.any c = false ∧ ∃ e', forL t body ds e S = .nx e' S ∧ P e')
  | [], e, _, h => .inr ⟨rfl, e, rfl, h⟩
  | d :: ds, e, hs, h => by
    obtain ⟨e1, h1, h2, h3⟩ := hs d List.mem_cons_self e h
    cases hc : c d with
    | true => exact .inl ⟨by simp [hc], by simp [forL, h1, h2 hc]⟩
    | false =>
      obtain ⟨e2, h4, h5⟩ := h3 hc
      rcases forL_search P c r ds (fun d hd => hs d (List.mem_cons_of_mem _ hd)) h5 with ⟨a, b⟩ | ⟨a, e', b, p⟩
      · exact .inl ⟨by simp [hc, a], by simp [forL, h1, h4, b]⟩
      · exact .inr ⟨by simp [hc, a], e', by simp [forL, h1, h4, b], p⟩
theorem forV_inv {t : Tg} {body : RS} {x : D} (P : Env → Store → Prop) (xs : List D) (hP : ∀ e S, P e S → ∀ i, itemAt S x i = some xs[i]?) (hs : ∀ d ∈ xs, ∀ e S, P e S → ∃ e1, bindT S d e t = some e1 ∧ ∃ e2 S2, body e1 S = .nx e2 S2 ∧ P e2 S2) :
    ∀ (k i : Nat) (e : Env) (S : Store), xs.length < i + k → i ≤ xs.length → P e S → ∃ e' S', forV t body x k i e S = .nx e' S' ∧ P e' S'
  | 0, i, e, S, h, h2, _ => by omega
  | k + 1, i, e, S, h, h2, hp => by
    have it := hP e S hp i
    by_cases hi : i < xs.length
    · rw [List.getElem?_eq_getElem hi] at it
      obtain ⟨e1, b1, e2, S2, b2, p2⟩ := hs xs[i] (List.getElem_mem hi) e S hp
      obtain ⟨e', S', h3, p3⟩ := forV_inv P xs hP hs k (i + 1) e2 S2 (by omega) (by omega) p2
      exact ⟨e', S', by simp [forV, it, b1, b2, h3], p3⟩
    · rw [List.getElem?_eq_none (by omega)] at it
      exact ⟨e, S, by simp [forV, it], hp⟩
@[simp] theorem ran1_int (j : Int) : ran1 [.int j] = if -(2 ^ 62) ≤ j ∧ j < 2 ^ 62 then some (rangeD 0 j.toNat) else none := (rfl)
@[simp] theorem ran2_int (i j : Int) : ran2 [.int i, .int j] = if -(2 ^ 62) ≤ i ∧ i < 2 ^ 62 ∧ -(2 ^ 62) ≤ j ∧ j < 2 ^ 62 then some (rangeD i (j - i).toNat) else none := (rfl)
/-- range(max(1, min(len(script), n))) -/
theorem ran_cells (l n : Nat) (h : n ≤ 63) (hn : 1 ≤ n) : ∃ m, m ≤ n ∧ ran1 [.int (if (if (n : Int) < (l : Int) then (n : Int) else (l : Int)) > 1 then (if (n : Int) < (l : Int) then (n : Int) else (l : Int)) else 1)] = some (rangeD 0 m) := by
  refine ⟨(if (if (n : Int) < (l : Int) then (n : Int) else (l : Int)) > 1 then (if (n : Int) < (l : Int) then (n : Int) else (l : Int)) else 1).toNat, ?_, ?_⟩
  · split <;> split <;> omega
  · rw [ran1_int, if_pos]
    split <;> split <;> omega
theorem mem_rangeD {lo : Int} {n : Nat} {d : D} (h : d ∈ rangeD lo n) : ∃ i : Nat, i < n ∧ d = .int (lo + i) := by
  unfold rangeD at h
  obtain ⟨i, h1, h2⟩ := List.mem_map.mp h
  exact ⟨i, List.mem_range.mp h1, h2.symm⟩
theorem atI_mem {A : Type} {xs : List A} {r : Int} (h : 0 ≤ r) (h2 : r < xs.length) : ∃ d, atI xs r = some d ∧ d ∈ xs := by
  have h3 : r.toNat < xs.length := by omega
  exact ⟨xs[r.toNat], by simp [atI, ixN, h, h2, h3], List.getElem_mem h3⟩
end Ev
namespace Ev
open PySem PySem.Spec L2
/-! text * 0, text * 1 -/
def mulU (S : Store) (a b : D) : Option D := match a, b with
  | .str x, .int n => if n = 0 then some (.str Str.empty) else if n = 1 then some (.str x) else mulT S (.str x) (.int n)
  | a, b => mulT S a b
theorem mulU_ok {X : Cx} {C : Nat → Addr} : OpD X C (binaryOp .Mult) mulU := by
  intro pins s sg H x y v u Q I rx ry ⟨io, S, a, b, d, dn, ra, rb, e, q⟩
  unfold mulU at e
  split at e
  · rename_i z n
    split at e
    · rename_i hn
      subst hn
      cases e
      cases ra
      cases rb
      obtain ⟨t, rfl⟩ := rx
      obtain ⟨t', rfl⟩ := ry
      exact PySem.P.mul_str_none (by decide) (by decide) ⟨.str _, H, I.tok _, ⟨_, rfl⟩, q _ H io (Ext.refl _ _) dn (.str _)⟩
    · split at e
      · rename_i hn
        subst hn
        cases e
        cases ra
        cases rb
        obtain ⟨t, rfl⟩ := rx
        obtain ⟨t', rfl⟩ := ry
        refine PySem.P.mul_str (by decide) (fun _ h => by simp at h) (fun _ h => by simp at h) ?_
        rw [if_neg (by decide), if_pos (by rfl)]
        exact ⟨.str _, H, I, ⟨_, rfl⟩, q _ H io (Ext.refl _ _) dn (.str _)⟩
      · exact mulT_ok pins s sg H x y v u Q I rx ry ⟨io, S, _, _, d, dn, ra, rb, e, q⟩
  · exact mulT_ok pins s sg H x y v u Q I rx ry ⟨io, S, _, _, d, dn, ra, rb, e, q⟩
section
variable {e : Env} {S : Store}
@[simp] theorem rPrs_nil : rPrs [] e S = .ok [] S := (rfl)
@[simp] theorem rPrs_cons (p : Str × RE) (l : List (Str × RE)) : rPrs (p :: l) e S = (p.2 e S).bind fun d S1 => (rPrs l e S1).bind fun ds S2 => .ok (d :: ds) S2 := (rfl)
@[simp] theorem rDispF_eq (l : List (Str × RE)) : rDispF l e S = (rPrs l e S).calm.bind fun ds S1 => .ok (.dct (dispF (l.map (·.1)) ds ([], [])).1 (dispF (l.map (·.1)) ds ([], [])).2) S1 := (rfl)
@[simp] theorem rDispM_eq (l : List (Str × RE)) : rDispM l e S = (rPrs l e S).calm.bind fun ds S1 => .ok (.loc S1.length) (S1 ++ [.dK (dispF (l.map (·.1)) ds ([], [])).1 (dispF (l.map (·.1)) ds ([], [])).2]) := (rfl)
theorem calm_ok' {A : Type} (a : A) (S : Store) : (Res.ok a S).calm = .ok a S := (rfl)
@[simp] theorem sStar_eq (i j : Nat) (a : RE) : sStar i j a e S = (a e S).fl e fun d S1 => match d with
  | .tup (x :: xs) => if xs.length ≤ 16000 then .nx (setAll [i, j] [x, .lst xs] e) S1 else .bad
  | _ => .bad := (rfl)
@[simp] theorem sPutD_eq (a o i : RE) : sPutD a o i e S = (a e S).fl e fun v S1 => (o e S1).fl e fun x S2 => (i e S2).fl e fun y S3 => match putD S3 x y v with
  | some S4 => .nx e S4
  | none => .bad := (rfl)
/-- nothing of its own is left -/
theorem frz_own {S : Store} {d : D} (h : D.low S.length d = true) (hS : lowS S.length S = true) (hd : ∀ m, d ≠ .loc m) : frz S.length (.ok d S) = .ok d S := by
  have e : frzD S.length S d = some d := by
    unfold frzD
    split
    · rename_i m; exact absurd rfl (hd m)
    · rw [if_pos h]
  simp [frz, e, hS]
theorem frz_lst {S : Store} {xs : List D} {T : Store} (h : lows S.length xs = true) (hS : lowS S.length S = true) : frz S.length (.ok (.loc S.length) (S ++ .lst xs :: T)) = .ok (.lst xs) S := by
  simp [frz, frzD, h, hS]
theorem frz_dct {S : Store} {ks : List Key} {xs : List D} {T : Store} (h : lows S.length xs = true) (hS : lowS S.length S = true) : frz S.length (.ok (.loc S.length) (S ++ .dK ks xs :: T)) = .ok (.dct ks xs) S := by
  simp [frz, frzD, h, hS]
/-- the same, the store of its own changed -/
theorem frz_any {S S' T : Store} {d : D} (hl : S'.length = S.length) (h : D.low S.length d = true) (hS : lowS S.length S' = true) (hd : ∀ m, d ≠ .loc m) : frz S.length (.ok d (S' ++ T)) = .ok d S' := by
  have e : frzD S.length (S' ++ T) d = some d := by
    unfold frzD
    split
    · rename_i m; exact absurd rfl (hd m)
    · rw [if_pos h]
  have t : (S' ++ T).take S.length = S' := by rw [← hl]; simp
  simp [frz, e, t, hS]
theorem set_end {S : Store} {a b : MO} : (S ++ [a]).set S.length b = S ++ [b] := by simp
theorem get_end {S : Store} {a : MO} : (S ++ [a])[S.length]? = some a := by simp
end
end Ev
namespace Ev
open PySem PySem.Spec L2 PyProof.Rows

/-! ### a run of statements whose own things stand still behind it -/
def frzEnv (n : Nat) (S : Store) (e : Env) : Env := e.map fun o => o.bind (frzD n S)
def frzS (m : RS) : RS := fun e S => match m e S with
  | .nx e' S' => if lowS S.length (S'.take S.length) = true then .nx (frzEnv S.length S' e') (S'.take S.length) else .bad
  | .rt d S' => match frz S.length (.ok d S') with
    | .ok d' S'' => .rt d' S''
    | _ => .bad
  | .er x e' S' => if (lows S.length x.xs && lowS S.length (S'.take S.length)) = true then .er x (frzEnv S.length S' e') (S'.take S.length) else .bad
  | .bad => .bad
def sSeqs : List RS → RS
  | [] => sNil
  | m :: ms => sSeq m (sSeqs ms)
section
variable {K : PySem.W.Frag} {C : Nat → Addr} {W : WX} {io : Io} {S : Store} {H : Hp} {e : Env} {sg : L2.St} {n : Nat}
theorem frzEnv_slots (dn : Den K C io S H) (s : Slots K C io (Fz io H) e sg) : Slots K C (cutIo n io) (Fz (cutIo n io) H) (frzEnv n S e) sg :=
  ⟨by simp [frzEnv, s.len], fun i d h => by
    unfold frzEnv at h
    rw [List.getElem?_map] at h
    obtain ⟨o, h1, h2⟩ := Option.map_eq_some_iff.mp h
    obtain ⟨d0, rfl, h3⟩ := bind_some' h2
    obtain ⟨v, h4, h5⟩ := s.get i d0 h1
    exact ⟨v, h4, frz_rep dn h3 h5⟩⟩
variable (K C W) in
def seqT : List RS → TS → TS
  | [], u => u
  | m :: ms, u => tSeq (tS K C W m) (seqT ms u)
theorem seqT_of {u : TS} : ∀ {ms : List RS} {Dn : Ends} {sg : L2.St} {H : Hp}, tS K C W (sSeqs ms) { Dn with nx := u Dn } sg H → seqT K C W ms u Dn sg H
  | [], Dn, sg, H, ⟨e, S, io, d, s, p⟩ => p sg H io (Ext.refl _ _) d s
  | m :: ms, Dn, sg, H, ⟨e, S, io, d, s, p⟩ => ⟨e, S, io, d, s, by
    change PostS K C W io H ((m e S).andThen (sSeqs ms)) _ at p
    cases q : m e S with
    | nx e1 S1 =>
      rw [q] at p
      exact fun sg' H' io' x d' s' => seqT_of ⟨e1, S1, io', d', s', PostS.ext x p⟩
    | rt d1 S1 => rw [q] at p; exact p
    | er x e1 S1 => rw [q] at p; exact p
    | bad => rw [q] at p; exact p.elim⟩
theorem frzS_of {m mr : RS} {Dn : Ends} (h : tS K C W (sSeq (frzS m) mr) Dn sg H) : tS K C W m { Dn with nx := tS K C W mr Dn } sg H := by
  obtain ⟨e, S, io, d, s, p⟩ := h
  refine ⟨e, S, io, d, s, ?_⟩
  change PostS K C W io H ((frzS m e S).andThen mr) _ at p
  unfold frzS at p
  cases q : m e S with
  | nx e1 S1 =>
    rw [q] at p
    dsimp only at p
    split at p
    · rename_i lo
      exact fun sg' H' io' x d' s' => ⟨_, _, _, cut_den d' lo, frzEnv_slots d' s', PostS.ext (cut_ext d x) p⟩
    · exact p.elim
  | rt d1 S1 =>
    rw [q] at p
    dsimp only [frz] at p
    cases e2 : frzD S.length S1 d1 with
    | none => rw [e2] at p; exact p.elim
    | some d2 =>
      rw [e2] at p
      dsimp only at p
      by_cases lo : lowS S.length (S1.take S.length) = true
      · rw [if_pos lo] at p
        exact fun v H' io' x dn rp => p v H' _ (cut_ext d x) (cut_den dn lo) (frz_rep dn e2 rp)
      · rw [if_neg lo] at p; exact p.elim
  | er x e1 S1 =>
    rw [q] at p
    dsimp only at p
    split at p
    · rename_i lo
      rw [Bool.and_eq_true] at lo
      refine fun cls dd sg' H' io' y d1 s1 rx => p cls dd sg' H' _ (cut_ext d y) (cut_den d1 lo.2) (frzEnv_slots d1 s1) ?_
      obtain ⟨e1, h⟩ := rx
      refine ⟨e1, h.imp id ?_⟩
      rintro ⟨d, fs, h1, h2, h3, h4⟩
      exact ⟨d, fs, h1, h2, h3, lows_reps cut_same lo.1 h4⟩
    · exact p.elim
  | bad => rw [q] at p; exact p.elim
end
section
variable {X : Cx} {C : Nat → Addr} {W : WX}
/-- the statements ms, what is of their own frozen behind them; then the rest -/
theorem es_frz {sts : List Stmt} (ms : List RS) {mr : RS} (h : PSs X sts (seqT X.K C W ms (tS X.K C W mr))) : PSs X sts (tS X.K C W (sSeq (frzS (sSeqs ms)) mr)) :=
  h.imp fun Dn sg H q => seqT_of (frzS_of q)
end

/-! ### list(x), a new list of the store -/
def rListM (as : RA) : RE := fun e S => (as e S).bind fun xs S1 => match xs with
  | [d] => (match seqD S1 d with
    | some ys => .ok (.loc S1.length) (S1 ++ [.lst ys])
    | none => .bad)
  | _ => .bad
section
variable {X : Cx} {C : Nat → Addr} {W : WX} {e : Expr} {rs : RA} {pos p : Pos}
theorem ee_listM (hg : Gl X "list") (hm : X.mg "list" = none) (ha : PA X [e] (tA X.K C W rs))
    (he : starEach [e] X.env = (false, eval e X.env) :: starEach [] X.env := by rfl) (hpl : (backTo pos (starEach [] X.env)).any (·.1) = false := by rfl) : PE X (.Call (.Name "list" p) [e] [] pos) (tE X.K C W (rListM rs)) :=
  (pe_callTy call_list_of hg hm (by decide +kernel) ha (by decide) (by decide) he hpl).imp fun sg H Q h => (tR.seq1 (R := RepsR X.K C) (fun _ xs S1 => match xs with
  | [d] => (match seqD S1 d with
    | some ys => .ok (.loc S1.length) (S1 ++ [.lst ys])
    | none => .bad)
  | _ => .bad) h fun _ _ => rfl).mono fun vs H1 ⟨e, S, io, x1, dn, s, r1, p⟩ => by
    match x1, p with
    | [], p => exact p.elim
    | _ :: _ :: _, p => exact p.elim
    | [d], p =>
      obtain ⟨v, rfl, h⟩ := reps1 r1
      dsimp only at p
      cases h1 : seqD S d with
      | none => rw [h1] at p; exact p.elim
      | some ys =>
        rw [h1] at p
        obtain ⟨a, us, rfl, hq, rs⟩ := seq_rep h1 dn h
        exact ⟨a, us, rfl, hq, fun l hl => let ⟨x, d', r'⟩ := new_lstM dn rs hl; p _ _ _ x d' r'⟩
end

/-! ### repr of things with empty dicts among them -/
def pyE (S : Store) : Nat → D → Option PyData
  | _, .non => some .none
  | _, .bl b => some (.bool b)
  | _, .int i => some (.int i)
  | _, .str x => some (.str x)
  | n + 1, .tup xs => (pyAll (pyE S n) xs).bind fun ys => some (.tuple ys)
  | n + 1, .lst xs => (pyAll (pyE S n) xs).bind fun ys => some (.list ys)
  | n + 1, .loc k => match S[k]? with
    | some (.lst xs) => (pyAll (pyE S n) xs).bind fun ys => some (.list ys)
    | _ => none
  | _ + 1, .dct ks xs => match ks, xs with
    | [], [] => some (.dict [])
    | _, _ => none
  | _, _ => none
section
variable {X : Cx} {C : Nat → Addr} {io : Io} {S : Store} {H : Hp} {pins : List (Addr × Obj)} {sg : L2.St} {s : Shared} {f : D → Option PyData}
theorem pairs_nil {K : Type} [DecidableEq K] {P : Program} {w : World} {knd : KeyKind P w K} {l : List DictEntry} (h : Pairs knd l []) : l = [] := by
  cases l with
  | nil => rfl
  | cons => cases h
/-- a thing that reads as data and is shown so -/
def ShR (X : Cx) (s : Shared) (u : Value) (p : PyData) : Prop := ∃ as bs, Reads s.heap u p as ∧ ReadAtMost s.heap p.depth bs ∧ ReprK X.prog X.w bs s.heap p.depth u p.shown
def ShRs (X : Cx) (s : Shared) (us : List Value) (ps : List PyData) : Prop := ∃ as bs, ReadsAll s.heap us ps as ∧ ReadAtMost s.heap (PyData.depthAll ps) bs ∧ ReprAllK X.prog X.w bs s.heap (PyData.depthAll ps) us (PyData.shownAll ps)
theorem ShR.plain {u : Value} {p : PyData} {as : List Addr} (r : Reads s.heap u p as) (hs : p.showable = true) (hd : p.hasDict = true → sysModules ∉ as) (hz : p.shown.length ≤ sizeLine) : ShR X s u p :=
  let ⟨bs, h1, h2⟩ := ReprK.of_reads (prog := X.prog) (w := X.w) r hs hd hz
  ⟨as, bs, r, h1, h2⟩
theorem ShRs.nil : ShRs X s [] [] := ⟨[], [], .nil, fun _ h => absurd h List.not_mem_nil, by rw [PyData.shownAll]; exact .nil⟩
theorem ShRs.cons {u : Value} {us : List Value} {p : PyData} {ps : List PyData} (h : ShR X s u p) (hr : ShRs X s us ps) : ShRs X s (u :: us) (p :: ps) := by
  obtain ⟨a1, b1, r1, m1, k1⟩ := h
  obtain ⟨a2, b2, r2, m2, k2⟩ := hr
  have e : PyData.depthAll (p :: ps) = max p.depth (PyData.depthAll ps) := by rw [PyData.depthAll]
  have e2 : PyData.shownAll (p :: ps) = p.shown :: PyData.shownAll ps := by rw [PyData.shownAll]
  refine ⟨_, b1 ++ b2, .cons r1 r2, fun b hb => ?_, ?_⟩
  · rw [e]
    rcases List.mem_append.mp hb with q | q
    · obtain ⟨x, y, z1, z2⟩ := m1 b q; exact ⟨x, y, z1, by omega⟩
    · obtain ⟨x, y, z1, z2⟩ := m2 b q; exact ⟨x, y, z1, by omega⟩
  · rw [e, e2]
    exact .cons ((k1.more fun b q => List.mem_append_left b2 q).level_le (by omega)) (k2.more_le (fun b q => List.mem_append_right b1 q) (by omega))
theorem shRs_of (hf : ∀ d v p u, f d = some p → Rep X.K C io (Fz io H) d v → RelV v u → p.showable = true → p.shown.length ≤ sizeLine → ShR X s u p) : ∀ {xs : List D} {vs : List V} {us : List Value} {ps : List PyData}, pyAll f xs = some ps → Reps X.K C io (Fz io H) xs vs → Vals vs us → PyData.showableAll ps = true → (∀ t ∈ PyData.shownAll ps, t.length ≤ sizeLine) → ShRs X s us ps
  | _, _, _, _, h, .nil, r, _, _ => by
    cases h; cases r
    exact .nil
  | _, _, _, _, h, .cons q qs, r, hs, hz => by
    obtain ⟨y, ys, h1, h2, rfl⟩ := pyAll_cons h
    rw [PyData.showableAll, Bool.and_eq_true] at hs
    rw [PyData.shownAll] at hz
    cases r with
    | cons r1 r2 => exact .cons (hf _ _ _ _ h1 q r1 hs.1 (hz _ List.mem_cons_self)) (shRs_of hf h2 qs r2 hs.2 fun t ht => hz t (List.mem_cons_of_mem _ ht))
/-- what a list or a tuple is made of -/
theorem nodeL {n : Nat} {a : Addr} {vs : List V} {xs : List D} {ps : List PyData} (hf : ∀ d v p u, pyE S n d = some p → Rep X.K C io (Fz io H) d v → RelV v u → p.showable = true → p.shown.length ≤ sizeLine → ShR X s u p) (I : L2.Inv X pins sg H s)
    (hs : SqL X.K H a vs) (rs : Reps X.K C io (Fz io H) xs vs) (h1 : pyAll (pyE S n) xs = some ps) (hw : PyData.showableAll ps = true) (hz : (listText (PyData.shownAll ps)).length ≤ sizeLine) :
    ∃ o its k, s.heap.get? a = some o ∧ o.cls = .type "list" ∧ o.data = .seq its k ∧ ShRs X s its.toList ps := by
  obtain ⟨its, rv, ⟨o, k, ho, hc, _, hd⟩, _⟩ := I.list hs
  exact ⟨o, _, k, ho, hc, hd, shRs_of hf h1 rs (by simpa using rv) hw fun t ht => Nat.le_trans (listText_mem_le ht) hz⟩
theorem nodeT {n : Nat} {a : Addr} {vs : List V} {xs : List D} {ps : List PyData} (hf : ∀ d v p u, pyE S n d = some p → Rep X.K C io (Fz io H) d v → RelV v u → p.showable = true → p.shown.length ≤ sizeLine → ShR X s u p) (I : L2.Inv X pins sg H s)
    (hs : SqT X.K H a vs) (rs : Reps X.K C io (Fz io H) xs vs) (h1 : pyAll (pyE S n) xs = some ps) (hw : PyData.showableAll ps = true) (hz : (tupleText (PyData.shownAll ps)).length ≤ sizeLine) :
    ∃ o its k, s.heap.get? a = some o ∧ o.cls = .type "tuple" ∧ o.data = .seq its k ∧ ShRs X s its.toList ps := by
  obtain ⟨its, rv, ⟨o, ho, hc, k, hd⟩, _⟩ := I.tuple hs
  exact ⟨o, _, k, ho, hc, hd, shRs_of hf h1 rs (by simpa using rv) hw fun t ht => Nat.le_trans (tupleText_mem_le ht) hz⟩
theorem shR_list {a : Addr} {o : Obj} {its : Array Value} {k : Nat} {ps : List PyData} (h1 : s.heap.get? a = some o) (h2 : o.cls = .type "list") (h3 : o.data = .seq its k) (h4 : ShRs X s its.toList ps) : ShR X s (.ref a) (.list ps) := by
  obtain ⟨as, bs, r, m, q⟩ := h4
  have rd := Reads.list h1 h2 h3 r
  have dp : (PyData.list ps).depth = PyData.depthAll ps + 1 := by rw [PyData.depth]
  have nm : a ∉ bs := not_mem_of_deeper rd (by rw [dp]; omega) m
  refine ⟨_, a :: bs, rd, ReadAtMost.cons rd (by rw [dp]; omega) m, ?_⟩
  rw [dp, PyData.shown]
  obtain ⟨l⟩ := its
  cases l with
  | nil =>
    cases (show ReadsAll s.heap [] ps as from r)
    rw [PyData.shownAll]
    exact ReprK.listEmpty h1 h2 h3
  | cons x l => exact ReprK.list h1 h2 h3 nm (by simpa using q.length_eq) fun i y e => q.item i y (by simpa using e)
theorem shR_tuple {a : Addr} {o : Obj} {its : Array Value} {k : Nat} {ps : List PyData} (h1 : s.heap.get? a = some o) (h2 : o.cls = .type "tuple") (h3 : o.data = .seq its k) (h4 : ShRs X s its.toList ps) : ShR X s (.ref a) (.tuple ps) := by
  obtain ⟨as, bs, r, m, q⟩ := h4
  have rd := Reads.tuple h1 h2 h3 r
  have dp : (PyData.tuple ps).depth = PyData.depthAll ps + 1 := by rw [PyData.depth]
  have nm : a ∉ bs := not_mem_of_deeper rd (by rw [dp]; omega) m
  refine ⟨_, a :: bs, rd, ReadAtMost.cons rd (by rw [dp]; omega) m, ?_⟩
  rw [dp, PyData.shown]
  exact ReprK.tuple h1 h2 h3 nm q
theorem pyE_shR (I : L2.Inv X pins sg H s) (dn : Den X.K C io S H) : ∀ (n : Nat) (d : D) (v : V) (p : PyData) (u : Value), pyE S n d = some p → Rep X.K C io (Fz io H) d v → RelV v u → p.showable = true → p.shown.length ≤ sizeLine → ShR X s u p := by
  intro n
  induction n with
  | zero =>
    intro d v p u h r ru hs hz
    cases r <;> simp only [pyE] at h <;> cases h
    · cases ru; exact .plain .none hs (fun _ => by simp) hz
    · cases ru; exact .plain (.bool _) hs (fun _ => by simp) hz
    · obtain ⟨t, rfl⟩ := ru; exact .plain (.int _ t) hs (fun _ => by simp) hz
    · obtain ⟨t, rfl⟩ := ru; exact .plain (.str _ t) hs (fun _ => by simp) hz
  | succ n ih =>
    intro d v p u h r ru hs hz
    cases r with
    | non => cases h; cases ru; exact .plain .none hs (fun _ => by simp) hz
    | bl => cases h; cases ru; exact .plain (.bool _) hs (fun _ => by simp) hz
    | int => cases h; obtain ⟨t, rfl⟩ := ru; exact .plain (.int _ t) hs (fun _ => by simp) hz
    | str => cases h; obtain ⟨t, rfl⟩ := ru; exact .plain (.str _ t) hs (fun _ => by simp) hz
    | tup q rs =>
      cases ru
      obtain ⟨ys, h1, h2⟩ := bind_some' h
      cases h2
      rw [PyData.showable] at hs
      rw [PyData.shown] at hz
      obtain ⟨o, its, k, h3, h4, h5, h6⟩ := nodeT ih I (sqT_same (Fz_same _ _) q) rs h1 hs hz
      exact shR_tuple h3 h4 h5 h6
    | lst q rs =>
      cases ru
      obtain ⟨ys, h1, h2⟩ := bind_some' h
      cases h2
      rw [PyData.showable] at hs
      rw [PyData.shown] at hz
      obtain ⟨o, its, k, h3, h4, h5, h6⟩ := nodeL ih I ((Fz_same _ _).seq q) rs h1 hs hz
      exact shR_list h3 h4 h5 h6
    | @loc k a q =>
      cases ru
      simp only [pyE] at h
      split at h
      · rename_i xs e
        obtain ⟨ys, h1, h2⟩ := bind_some' h
        cases h2
        obtain ⟨vs, e1, rs⟩ := dn.obj k _ a e q
        rw [PyData.showable] at hs
        rw [PyData.shown] at hz
        obtain ⟨o, its, k, h3, h4, h5, h6⟩ := nodeL ih I (.of e1) rs h1 hs hz
        exact shR_list h3 h4 h5 h6
      · cases h
    | @dct a kvs ks vs ds h0 e1 e2 rs =>
      cases ru
      simp only [pyE] at h
      split at h
      · cases h
        have : kvs = [] := by simpa using e1
        subst this
        obtain ⟨z, ns, ws, rel, o, es, ep, ho, hx, hdt, hes⟩ := dk_of I.hok (Fz_same _ _ _ _ h0)
        cases rel
        have he : es.toList = [] := pairs_nil hes.2.1
        refine .plain (.dict (kvs := []) ho hx.1 hdt (by rw [he]; exact .nil) (by rw [he]; exact .nil)) hs (fun _ => ?_) hz
        simp only [List.append_nil, List.mem_singleton]
        intro e
        rw [← e] at ns
        simp at ns
      · cases h
    | exn0 => cases h
    | exnF => cases h
theorem pyE_depth : ∀ (n : Nat) (d : D) (p : PyData), pyE S n d = some p → p.depth ≤ n := by
  intro n
  induction n with
  | zero => intro d p h; cases d <;> simp only [pyE] at h <;> cases h <;> simp [PyData.depth]
  | succ n ih =>
    intro d p h
    cases d with
    | non => cases h; simp [PyData.depth]
    | bl => cases h; simp [PyData.depth]
    | int => cases h; simp [PyData.depth]
    | str => cases h; simp [PyData.depth]
    | tup xs =>
      obtain ⟨ys, h1, h2⟩ := bind_some' h
      cases h2
      simp only [PyData.depth]
      exact Nat.succ_le_succ (pyAll_depth ih h1)
    | lst xs =>
      obtain ⟨ys, h1, h2⟩ := bind_some' h
      cases h2
      simp only [PyData.depth]
      exact Nat.succ_le_succ (pyAll_depth ih h1)
    | loc k =>
      simp only [pyE] at h
      split at h
      · obtain ⟨ys, h1, h2⟩ := bind_some' h
        cases h2
        simp only [PyData.depth]
        exact Nat.succ_le_succ (pyAll_depth ih h1)
      · cases h
    | dct ks xs =>
      simp only [pyE] at h
      split at h
      · cases h; simp [PyData.depth, PyData.depthKv]
      · cases h
    | exn => cases h
def showE (p : PyData) : Bool := p.showable && decide (p.shown.length ≤ sizeLine)
def reprE (S : Store) : List D → Option D
  | [d] => (pyE S deepN d).bind fun p => if showE p = true then some (.str p.shown) else none
  | _ => none
/-- repr of a thing that is shown so -/
theorem shR_call {A : Around} {E : Value → Shared → Prop} {Q : Value → Shared → Prop} {u : Value} {p : PyData} (h : ShR X s u p) (hs : p.showable = true) (hz : p.shown.length ≤ sizeLine) (hg : A.guards = some []) (hu : A.units + 62 < cLine) (hd : p.depth ≤ 60)
    (h0 : ∀ k t, Q (.str p.shown t) { s with toks := k }) (hQ : ∀ h' t k, (∀ b o, s.heap.get? b = some o → h'.get? b = some o) → Q (.str p.shown t) { s with heap := h', toks := k }) (hL : ∀ ps, p = .list ps → ∃ a o its k, u = .ref a ∧ s.heap.get? a = some o ∧ o.cls = .type "list" ∧ o.data = .seq its k ∧ ShRs X s its.toList ps)
    (hT : ∀ ps, p = .tuple ps → ∃ a o its k, u = .ref a ∧ s.heap.get? a = some o ∧ o.cls = .type "tuple" ∧ o.data = .seq its k ∧ ShRs X s its.toList ps) (hDi : ∀ kvs, p = .dict kvs → ∃ a as, u = .ref a ∧ Reads s.heap u p as ∧ sysModules ∉ as) : wpAny (model X.prog X.w) A (call (.builtin "repr") [u]) Q E s := by
  obtain ⟨as, bs, r, m, q⟩ := h
  cases p with
  | none => cases r; exact P.repr_of_none (h0 _ _)
  | bool => cases r; exact P.repr_of_bool (h0 _ _)
  | int => cases r; exact P.repr_of_int (by simpa [PyData.showable] using hs) (h0 _ _)
  | str => cases r; exact P.repr_of_str (h0 _ _) hz
  | dict kvs =>
    obtain ⟨a, as, rfl, r', ns⟩ := hDi kvs rfl
    exact repr_of_reads' r' hs (fun _ => ns) hg (by omega) (fun _ _ e => e) hQ hz
  | list ps =>
    obtain ⟨a, o, its, k, rfl, h1, h2, h3, as, bs, r, m, q⟩ := hL ps rfl
    have rd := Reads.list h1 h2 h3 r
    have dp : (PyData.list ps).depth = PyData.depthAll ps + 1 := by rw [PyData.depth]
    have nm : a ∉ bs := not_mem_of_deeper rd (by rw [dp]; omega) m
    rw [PyData.shown] at hQ hz h0
    refine call_repr_slot (by omega) ⟨o, h1, h2⟩ F.slot_list_repr.toG ?_
    obtain ⟨l⟩ := its
    cases l with
    | nil =>
      cases (show ReadsAll s.heap [] ps as from r)
      rw [PyData.shownAll] at h0
      exact call_list_repr_empty ⟨o, h1, h2⟩ h1 h3 ⟨_, _, rfl, h0 _ _⟩
    | cons x l => exact call_list_reprK h1 h2 h3 nm (by simpa using q.length_eq) (fun i y e => q.item i y (by simpa using e)) hg (fun b _ => Clear.nil b) (by show A.units + 1 + _ < _; omega) (fun _ _ e => e) (fun h' t k kp => ⟨_, _, rfl, hQ h' t k kp⟩) hz
  | tuple ps =>
    obtain ⟨a, o, its, k, rfl, h1, h2, h3, as, bs, r, m, q⟩ := hT ps rfl
    have rd := Reads.tuple h1 h2 h3 r
    have dp : (PyData.tuple ps).depth = PyData.depthAll ps + 1 := by rw [PyData.depth]
    have nm : a ∉ bs := not_mem_of_deeper rd (by rw [dp]; omega) m
    rw [PyData.shown] at hQ hz h0
    refine call_repr_slot (by omega) ⟨o, h1, h2⟩ F.slot_tuple_repr ?_
    exact call_tuple_reprK h1 h2 h3 nm q hg (fun b _ => Clear.nil b) (by show A.units + 1 + _ < _; omega) (fun _ _ e => e) (fun h' t k kp => ⟨_, _, rfl, hQ h' t k kp⟩) hz
theorem reprE_ok (hu : X.A.units + 64 < cLine) (hg : X.A.guards = some []) : CallD X C (.builtin "repr") reprE := fun pins s sg H xs us Q I rx ⟨io, S, as, d, dn, ra, e, q⟩ => by
  unfold reprE at e
  split at e
  · rename_i d0
    obtain ⟨v, rfl, h⟩ := reps1 ra
    obtain ⟨p, h1, h2⟩ := bind_some' e
    split at h2
    · rename_i ok
      cases h2
      obtain ⟨u, rfl, ru⟩ := rx.one
      simp only [showE, Bool.and_eq_true, decide_eq_true_eq] at ok
      obtain ⟨o1, o3⟩ := ok
      have l1 : p.depth ≤ 60 := pyE_depth _ _ _ h1
      have ih := fun n => pyE_shR I dn n
      refine shR_call (ih _ _ _ _ _ h1 h ru o1 o3) o1 o3 hg (by omega) l1 (fun k t => ⟨.str _, H, I.tok k, ⟨t, rfl⟩, q _ H io (Ext.refl _ _) dn (.str _)⟩) (fun h' t k kp => ⟨.str _, H, I.kept (t' := k) kp, ⟨t, rfl⟩, q _ H io (Ext.refl _ _) dn (.str _)⟩) ?_ ?_ ?_
      · intro ps ep
        subst ep
        rw [PyData.showable] at o1
        rw [PyData.shown] at o3
        cases h with
        | lst q1 rs =>
          cases ru
          obtain ⟨ys, h3, h4⟩ := bind_some' h1
          cases h4
          obtain ⟨o, its, k, z⟩ := nodeL (ih 59) I ((Fz_same _ _).seq q1) rs h3 o1 o3
          exact ⟨_, o, its, k, rfl, z⟩
        | @loc k a q1 =>
          cases ru
          have h1' : (match S[k]? with | some (.lst xs) => (pyAll (pyE S 59) xs).bind fun ys => some (PyData.list ys) | _ => none) = some (.list ps) := h1
          split at h1'
          · rename_i xs e
            obtain ⟨ys, h3, h4⟩ := bind_some' h1'
            cases h4
            obtain ⟨vs, e1, rs⟩ := dn.obj k _ a e q1
            obtain ⟨o, its, k, z⟩ := nodeL (ih 59) I (.of e1) rs h3 o1 o3
            exact ⟨_, o, its, k, rfl, z⟩
          · cases h1'
        | tup q1 rs => obtain ⟨ys, h3, h4⟩ := bind_some' h1; cases h4
        | @dct a kvs ks vs ds h0 e1 e2 rs =>
          simp only [deepN, pyE] at h1
          split at h1 <;> cases h1
        | _ => cases h1
      · intro ps ep
        subst ep
        rw [PyData.showable] at o1
        rw [PyData.shown] at o3
        cases h with
        | tup q1 rs =>
          cases ru
          obtain ⟨ys, h3, h4⟩ := bind_some' h1
          cases h4
          obtain ⟨o, its, k, z⟩ := nodeT (ih 59) I (sqT_same (Fz_same _ _) q1) rs h3 o1 o3
          exact ⟨_, o, its, k, rfl, z⟩
        | lst q1 rs => obtain ⟨ys, h3, h4⟩ := bind_some' h1; cases h4
        | @loc k a q1 =>
          have h1' : (match S[k]? with | some (.lst xs) => (pyAll (pyE S 59) xs).bind fun ys => some (PyData.list ys) | _ => none) = some (.tuple ps) := h1
          split at h1'
          · obtain ⟨ys, h3, h4⟩ := bind_some' h1'
            cases h4
          · cases h1'
        | @dct a kvs ks vs ds h0 e1 e2 rs =>
          simp only [deepN, pyE] at h1
          split at h1 <;> cases h1
        | _ => cases h1
      · intro kvs ep
        subst ep
        cases h with
        | @dct a kvs0 ks vs ds h0 e1 e2 rs =>
          cases ru
          simp only [deepN, pyE] at h1
          split at h1
          · cases h1
            have : kvs0 = [] := by simpa using e1
            subst this
            obtain ⟨z, ns, ws, rel, o, es, ep, ho, hx, hdt, hes⟩ := dk_of I.hok (Fz_same _ _ _ _ h0)
            cases rel
            have he : es.toList = [] := pairs_nil hes.2.1
            refine ⟨a, _, rfl, .dict (kvs := []) ho hx.1 hdt (by rw [he]; exact .nil) (by rw [he]; exact .nil), ?_⟩
            simp only [List.append_nil, List.mem_singleton]
            intro e
            rw [← e] at ns
            simp at ns
          · cases h1
        | tup q1 rs => obtain ⟨ys, h3, h4⟩ := bind_some' h1; cases h4
        | lst q1 rs => obtain ⟨ys, h3, h4⟩ := bind_some' h1; cases h4
        | @loc k a q1 =>
          have h1' : (match S[k]? with | some (.lst xs) => (pyAll (pyE S 59) xs).bind fun ys => some (PyData.list ys) | _ => none) = some (.dict kvs) := h1
          split at h1'
          · obtain ⟨ys, h3, h4⟩ := bind_some' h1'
            cases h4
          · cases h1'
        | _ => cases h1
    · cases h2
  · cases e
end
end Ev
namespace Lw
open PySem PySem.Spec L2 Ev
def topS (i : Nat) : Stmt := PySem.Challenge.pw_sealedreach_k27_texts_of_no_rows.main.body.getD i (.Pass ⟨0, 0, 0, 0⟩)
abbrev cl_ReachError : Nat := 0
abbrev cl_NoRows : Nat := 1
abbrev cl_NoText : Nat := 2
def clsS (i j : Nat) : Stmt := match topS i with | .ClassDef _ _ _ body _ _ _ _ _ _ _ => body.getD j (.Pass ⟨0, 0, 0, 0⟩) | _ => .Pass ⟨0, 0, 0, 0⟩
abbrev si_NoText : Stmt := clsS 3 0
theorem sci_NoText : FnScope ["self", "number"] ["self", "number"] (defScope si_NoText) := ⟨rfl, rfl, rfl, by decide +kernel, rfl, by decide +kernel, by decide +kernel⟩
def fk_number : Nat → Bool
  | 1 => true
  | 2 => true
  | _ => false
abbrev s_is_whole : Stmt := topS 6
theorem sc_is_whole : FnScope ["thing"] ["thing"] (defScope s_is_whole) := ⟨rfl, rfl, rfl, by decide +kernel, rfl, by decide +kernel, by decide +kernel⟩
abbrev s_is_rights : Stmt := topS 9
theorem sc_is_rights : FnScope ["thing", "right"] ["thing"] (defScope s_is_rights) := ⟨rfl, rfl, rfl, by decide +kernel, rfl, by decide +kernel, by decide +kernel⟩
abbrev s_is_from : Stmt := topS 20
theorem sc_is_from : FnScope ["thing", "low", "high"] ["thing", "low", "high"] (defScope s_is_from) := ⟨rfl, rfl, rfl, by decide +kernel, rfl, by decide +kernel, by decide +kernel⟩
abbrev s_is_by : Stmt := topS 21
theorem sc_is_by : FnScope ["thing"] ["thing"] (defScope s_is_by) := ⟨rfl, rfl, rfl, by decide +kernel, rfl, by decide +kernel, by decide +kernel⟩
abbrev s_is_one_of : Stmt := topS 22
theorem sc_is_one_of : FnScope ["thing", "words"] ["thing", "words"] (defScope s_is_one_of) := ⟨rfl, rfl, rfl, by decide +kernel, rfl, by decide +kernel, by decide +kernel⟩
abbrev s_is_sort : Stmt := topS 23
theorem sc_is_sort : FnScope ["sort", "thing"] ["sort", "thing"] (defScope s_is_sort) := ⟨rfl, rfl, rfl, by decide +kernel, rfl, by decide +kernel, by decide +kernel⟩
abbrev s_is_row : Stmt := topS 24
theorem sc_is_row : FnScope ["thing", "sorts", "sort", "one"] ["thing"] (defScope s_is_row) := ⟨rfl, rfl, rfl, by decide +kernel, rfl, by decide +kernel, by decide +kernel⟩
abbrev s_figures_in : Stmt := topS 27
theorem sc_figures_in : FnScope ["word", "most", "sign"] ["word", "most"] (defScope s_figures_in) := ⟨rfl, rfl, rfl, by decide +kernel, rfl, by decide +kernel, by decide +kernel⟩
abbrev s_number_in : Stmt := topS 28
theorem sc_number_in : FnScope ["word", "found"] ["word"] (defScope s_number_in) := ⟨rfl, rfl, rfl, by decide +kernel, rfl, by decide +kernel, by decide +kernel⟩
abbrev s_thing_in : Stmt := topS 29
theorem sc_thing_in : FnScope ["sort", "word", "found"] ["sort", "word"] (defScope s_thing_in) := ⟨rfl, rfl, rfl, by decide +kernel, rfl, by decide +kernel, by decide +kernel⟩
abbrev s_row_in : Stmt := topS 30
theorem sc_row_in : FnScope ["line", "words", "sorts", "row", "sort", "word"] ["line"] (defScope s_row_in) := ⟨rfl, rfl, rfl, by decide +kernel, rfl, by decide +kernel, by decide +kernel⟩
abbrev s_read_rows : Stmt := topS 31
theorem sc_read_rows : FnScope ["text", "found", "number", "line", "row"] ["text"] (defScope s_read_rows) := ⟨rfl, rfl, rfl, by decide +kernel, rfl, by decide +kernel, by decide +kernel⟩
abbrev s_law_pool : Stmt := topS 33
theorem sc_law_pool : FnScope ["_law_script", "_law_k", "_law_cell", "_law_great", "_law_mixed"] ["_law_script", "_law_k"] (defScope s_law_pool) := ⟨rfl, rfl, rfl, by decide +kernel, rfl, by decide +kernel, by decide +kernel⟩
abbrev s_law_take : Stmt := topS 34
theorem sc_law_take : FnScope ["_law_pool_here", "_law_many", "_law_found"] ["_law_pool_here", "_law_many"] (defScope s_law_take) := ⟨rfl, rfl, rfl, by decide +kernel, rfl, by decide +kernel, by decide +kernel⟩
abbrev s_law_forms : Stmt := topS 35
theorem sc_law_forms : FnScope ["_law_found"] [] (defScope s_law_forms) := ⟨rfl, rfl, rfl, by decide +kernel, rfl, by decide +kernel, by decide +kernel⟩
abbrev s_law_lists : Stmt := topS 36
theorem sc_law_lists : FnScope ["_law_sort"] ["_law_sort"] (defScope s_law_lists) := ⟨rfl, rfl, rfl, by decide +kernel, rfl, by decide +kernel, by decide +kernel⟩
abbrev s_law_part : Stmt := topS 37
theorem sc_law_part : FnScope ["_law_pool_here", "_law_sort", "_law_sign", "_law_some"] ["_law_pool_here", "_law_sort"] (defScope s_law_part) := ⟨rfl, rfl, rfl, by decide +kernel, rfl, by decide +kernel, by decide +kernel⟩
abbrev s_law_row : Stmt := topS 38
theorem sc_law_row : FnScope ["_law_pool_here", "_law_forms_here", "_law_word", "_law_sort"] ["_law_pool_here"] (defScope s_law_row) := ⟨rfl, rfl, rfl, by decide +kernel, rfl, by decide +kernel, by decide +kernel⟩
abbrev s_law_is_from : Stmt := topS 39
theorem sc_law_is_from : FnScope ["_law_thing", "_law_low", "_law_high"] ["_law_thing", "_law_low", "_law_high"] (defScope s_law_is_from) := ⟨rfl, rfl, rfl, by decide +kernel, rfl, by decide +kernel, by decide +kernel⟩
abbrev s_law_is_part : Stmt := topS 40
theorem sc_law_is_part : FnScope ["_law_sort", "_law_thing", "_law_low", "_law_high", "_law_sign"] ["_law_sort", "_law_thing"] (defScope s_law_is_part) := ⟨rfl, rfl, rfl, by decide +kernel, rfl, by decide +kernel, by decide +kernel⟩
abbrev s_law_is_row : Stmt := topS 41
theorem sc_law_is_row : FnScope ["_law_thing", "_law_forms_here", "_law_sorts", "_law_s", "_law_one"] ["_law_thing"] (defScope s_law_is_row) := ⟨rfl, rfl, rfl, by decide +kernel, rfl, by decide +kernel, by decide +kernel⟩
abbrev s_law_shown_part : Stmt := topS 42
theorem sc_law_shown_part : FnScope ["_law_sort", "_law_thing"] ["_law_sort", "_law_thing"] (defScope s_law_shown_part) := ⟨rfl, rfl, rfl, by decide +kernel, rfl, by decide +kernel, by decide +kernel⟩
abbrev s_law_line : Stmt := topS 43
theorem sc_law_line : FnScope ["_law_row_here", "_law_parts", "_law_sort", "_law_one"] ["_law_row_here"] (defScope s_law_line) := ⟨rfl, rfl, rfl, by decide +kernel, rfl, by decide +kernel, by decide +kernel⟩
abbrev s_law_text : Stmt := topS 44
theorem sc_law_text : FnScope ["_law_rows", "_law_row_here"] ["_law_rows"] (defScope s_law_text) := ⟨rfl, rfl, rfl, by decide +kernel, rfl, by decide +kernel, by decide +kernel⟩
abbrev s_law_number_in : Stmt := topS 45
theorem sc_law_number_in : FnScope ["_law_word", "_law_digits", "_law_sign"] ["_law_word"] (defScope s_law_number_in) := ⟨rfl, rfl, rfl, by decide +kernel, rfl, by decide +kernel, by decide +kernel⟩
abbrev s_law_part_in : Stmt := topS 46
theorem sc_law_part_in : FnScope ["_law_sort", "_law_word"] ["_law_sort", "_law_word"] (defScope s_law_part_in) := ⟨rfl, rfl, rfl, by decide +kernel, rfl, by decide +kernel, by decide +kernel⟩
abbrev s_law_row_in : Stmt := topS 47
theorem sc_law_row_in : FnScope ["_law_line_here", "_law_words", "_law_sorts", "_law_row_here", "_law_sort", "_law_word"] ["_law_line_here"] (defScope s_law_row_in) := ⟨rfl, rfl, rfl, by decide +kernel, rfl, by decide +kernel, by decide +kernel⟩
abbrev s_law_due : Stmt := topS 48
theorem sc_law_due : FnScope ["_law_lines", "_law_found", "_law_at", "_law_line_here", "_law_row_here"] ["_law_lines"] (defScope s_law_due) := ⟨rfl, rfl, rfl, by decide +kernel, rfl, by decide +kernel, by decide +kernel⟩
abbrev s_law_told : Stmt := topS 49
theorem sc_law_told : FnScope ["_law_lines", "_law_error", "_law_found", "e"] ["_law_lines"] (defScope s_law_told) := ⟨rfl, rfl, rfl, by decide +kernel, rfl, by decide +kernel, by decide +kernel⟩
abbrev s_law_bent : Stmt := topS 50
theorem sc_law_bent : FnScope ["_law_pool_here", "_law_here", "_law_lines", "_law_at", "_law_words", "_law_spot", "_law_odd", "_law_more", "_law_line_here", "_law_sign", "_law_place", "_law_some"] ["_law_pool_here", "_law_here"] (defScope s_law_bent) := ⟨rfl, rfl, rfl, by decide +kernel, rfl, by decide +kernel, by decide +kernel⟩
abbrev s_law : Stmt := topS 51
theorem sc_law : FnScope ["_law_script", "_law_many", "_law_k", "_law_pool_here", "_law_here", "_law_turn", "_law_one", "_law_some", "_law_thing"] ["_law_script"] (defScope s_law) := ⟨rfl, rfl, rfl, by decide +kernel, rfl, by decide +kernel, by decide +kernel⟩
def kq_NoRows : TK → Option Bool
  | .inr 0 => some false
  | .inr 1 => some true
  | .inr 2 => some false
  | _ => none
def kq_NoText : TK → Option Bool
  | .inr 0 => some false
  | .inr 1 => some false
  | .inr 2 => some true
  | _ => none
def sub_ReachError : Nat → Option Bool
  | 0 => some true
  | 1 => some true
  | 2 => some true
  | _ => none
def kd_FORMS : List (Str × Str) := [("set", "bn"), ("move", "bb"), ("do", "dby"), ("walk", "by"), ("narrow", "by"), ("exact", "by"), ("less", "br"), ("seal", "bb"), ("open", "bb"), ("entry", "b"), ("ask", "bkb"), ("here", "b"), ("load", "bbo"), ("store", "bob"), ("poke", "bob"), ("jump", "jbyt"), ("go", "t"), ("enter", "b"), ("call", "b"), ("back", ""), ("room", "by"), ("give", "b")]
def m_is_whole : RS := (sRet (rAnd (rUn (isiD "int") (rVar 0)) (rNot (rUn (isiD "bool") (rVar 0)))))
def g_is_whole : List D → Store → Res D := runDef 1 m_is_whole
def m_is_rights : RS := (sRet (rAnd (rUn (isiD "str") (rVar 0)) (rBin eqD (rVar 0) (rMth "str" joinD (rCon (.str "")) (rCons (rLc frzL (rIt (rCon (.str "rwlsnfxco"))) (.nm 1) [1] (rTest (rBin inD (rVar 1) (rVar 0))) (rVar 1)) rNil)))))
def g_is_rights : List D → Store → Res D := runDef 2 m_is_rights
def m_is_from : RS := (sRet (rAnd (rCall g_is_whole (rCons (rVar 0) rNil)) (rChain (rVar 1) (rLink leD (rVar 0) (rLast leD (rVar 2))))))
def g_is_from : List D → Store → Res D := runDef 3 m_is_from
def m_is_by : RS := (sSeq (sIf (rOrT (rNotT (rTruth (rUn (isiD "tuple") (rVar 0)))) (rOrT (rTest (rBin neD (rCal lenD (rCons (rVar 0) rNil)) (rCon (.int 2)))) (rNotT (rTruth (rUn (isiD "str") (rBin ixD (rVar 0) (rCon (.int 0))))))))
    (sRet (rCon (.bl false)))
    sNil)
    (sSeq (sIf (rTest (rBin eqD (rBin ixD (rVar 0) (rCon (.int 0))) (rCon (.str "box"))))
    (sRet (rCall g_is_from (rCons (rBin ixD (rVar 0) (rCon (.int 1))) (rCons (rCon (.int 0)) (rCons (rBin subD (rCon (.int 8)) (rCon (.int 1))) rNil)))))
    sNil)
    (sRet (rAnd (rBin eqD (rBin ixD (rVar 0) (rCon (.int 0))) (rCon (.str "worth"))) (rCall g_is_from (rCons (rBin ixD (rVar 0) (rCon (.int 1))) (rCons (rCon (.int 0)) (rCons (rCon (.int 65535)) rNil))))))))
def g_is_by : List D → Store → Res D := runDef 1 m_is_by
def m_is_one_of : RS := (sRet (rAnd (rUn (isiD "str") (rVar 0)) (rBin inD (rVar 0) (rVar 1))))
def g_is_one_of : List D → Store → Res D := runDef 2 m_is_one_of
def m_is_sort : RS := (sSeq (sIf (rTest (rBin eqD (rVar 0) (rCon (.str "b"))))
    (sRet (rCall g_is_from (rCons (rVar 1) (rCons (rCon (.int 0)) (rCons (rBin subD (rCon (.int 8)) (rCon (.int 1))) rNil)))))
    sNil)
    (sSeq (sIf (rTest (rBin eqD (rVar 0) (rCon (.str "n"))))
    (sRet (rCall g_is_from (rCons (rVar 1) (rCons (rCon (.int 0)) (rCons (rCon (.int 65535)) rNil)))))
    sNil)
    (sSeq (sIf (rTest (rBin eqD (rVar 0) (rCon (.str "o"))))
    (sRet (rCall g_is_from (rCons (rVar 1) (rCons (rCon (.int (-8))) (rCons (rCon (.int 15)) rNil)))))
    sNil)
    (sSeq (sIf (rTest (rBin eqD (rVar 0) (rCon (.str "t"))))
    (sRet (rCall g_is_from (rCons (rVar 1) (rCons (rCon (.int 0)) (rCons (rBin subD (rCon (.int 4096)) (rCon (.int 1))) rNil)))))
    sNil)
    (sSeq (sIf (rTest (rBin eqD (rVar 0) (rCon (.str "y"))))
    (sRet (rCall g_is_by (rCons (rVar 1) rNil)))
    sNil)
    (sSeq (sIf (rTest (rBin eqD (rVar 0) (rCon (.str "r"))))
    (sRet (rCall g_is_rights (rCons (rVar 1) rNil)))
    sNil)
    (sRet (rCall g_is_one_of (rCons (rVar 1) (rCons (rBin dixD (rDispF [("d", (rCon (.tup [.str "plus", .str "minus", .str "times", .str "and", .str "or", .str "either"]))), ("j", (rCon (.tup [.str "same", .str "unlike", .str "under", .str "from"]))), ("k", (rCon (.tup [.str "mark", .str "bits", .str "at", .str "low", .str "high", .str "rights", .str "kind"])))]) (rVar 0)) rNil))))))))))
def g_is_sort : List D → Store → Res D := runDef 2 m_is_sort
def m_is_row : RS := (sSeq (sIf (rOrT (rNotT (rTruth (rUn (isiD "tuple") (rVar 0)))) (rOrT (rTest (rBin eqD (rVar 0) (rTup rNil))) (rNotT (rTruth (rCall g_is_one_of (rCons (rBin ixD (rVar 0) (rCon (.int 0))) (rCons (rCon (.lst [.str "set", .str "move", .str "do", .str "walk", .str "narrow", .str "exact", .str "less", .str "seal", .str "open", .str "entry", .str "ask", .str "here", .str "load", .str "store", .str "poke", .str "jump", .str "go", .str "enter", .str "call", .str "back", .str "room", .str "give"])) rNil)))))))
    (sRet (rCon (.bl false)))
    sNil)
    (sSeq (sSet 1 (rUn (kixD kd_FORMS) (rBin ixD (rVar 0) (rCon (.int 0)))))
    (sRet (rAnd (rBin eqD (rCal lenD (rCons (rVar 0) rNil)) (rBin addD (rCal lenD (rCons (rVar 1) rNil)) (rCon (.int 1)))) (rCal allD (rCons (rLc frzL (rRan zipD (rCons (rVar 1) (rCons (rSl (rVar 0) (rPart (rCon (.int 1))) rNoP) rNil))) (.tp [2, 3]) [2, 3] rYes (rCall g_is_sort (rCons (rVar 2) (rCons (rVar 3) rNil)))) rNil))))))
def g_is_row : List D → Store → Res D := runDef 4 m_is_row
def m_figures_in : RS := (sSeq (sIf (rOrT (rNotT (rTest (rChain (rCon (.int 1)) (rLink leD (rCal lenD (rCons (rVar 0) rNil)) (rLast leD (rVar 1)))))) (rNotT (rTruth (rCal allD (rCons (rLc frzL (rIt (rVar 0)) (.nm 2) [2] rYes (rBin inD (rVar 2) (rCon (.str "0123456789")))) rNil)))))
    (sRet (rCon .non))
    sNil)
    (sRet (rIf (rAndT (rTest (rBin gtD (rCal lenD (rCons (rVar 0) rNil)) (rCon (.int 1)))) (rTruth (rMth "str" startsS (rVar 0) (rCons (rCon (.str "0")) rNil)))) (rCon .non) (rCal intT (rCons (rVar 0) rNil)))))
def g_figures_in : List D → Store → Res D := runDef 3 m_figures_in
def m_number_in : RS := (sSeq (sIf (rNotT (rTruth (rMth "str" startsS (rVar 0) (rCons (rCon (.str "-")) rNil))))
    (sRet (rCall g_figures_in (rCons (rVar 0) (rCons (rCon (.int 6)) rNil))))
    sNil)
    (sSeq (sSet 1 (rCall g_figures_in (rCons (rSl (rVar 0) (rPart (rCon (.int 1))) rNoP) (rCons (rCon (.int 6)) rNil))))
    (sRet (rIf (rOrT (rTest (rBin isN (rVar 1) (rCon .non))) (rTest (rBin eqD (rVar 1) (rCon (.int 0))))) (rCon .non) (rBin subD (rCon (.int 0)) (rVar 1))))))
def g_number_in : List D → Store → Res D := runDef 2 m_number_in
def m_thing_in : RS := (sSeq (sIf (rTest (rBin inD (rVar 0) (rCon (.str "dkj"))))
    (sRet (rVar 1))
    sNil)
    (sSeq (sIf (rTest (rBin eqD (rVar 0) (rCon (.str "r"))))
    (sRet (rIf (rTest (rBin eqD (rVar 1) (rCon (.str "")))) (rCon .non) (rIf (rTest (rBin eqD (rVar 1) (rCon (.str "-")))) (rCon (.str "")) (rVar 1))))
    sNil)
    (sSeq (sIf (rTest (rBin eqD (rVar 0) (rCon (.str "y"))))
    (sSeq (sSet 2 (rCall g_number_in (rCons (rIf (rTruth (rMth "str" startsS (rVar 1) (rCons (rCon (.str "#")) rNil))) (rSl (rVar 1) (rPart (rCon (.int 1))) rNoP) (rVar 1)) rNil)))
    (sRet (rTup (rCons (rIf (rTruth (rMth "str" startsS (rVar 1) (rCons (rCon (.str "#")) rNil))) (rCon (.str "worth")) (rCon (.str "box"))) (rCons (rVar 2) rNil)))))
    sNil)
    (sRet (rCall g_number_in (rCons (rVar 1) rNil))))))
def g_thing_in : List D → Store → Res D := runDef 3 m_thing_in
def m_row_in : RS := (sSeq (sSet 1 (rMth "str" splitS (rVar 0) (rCons (rCon (.str " ")) rNil)))
    (sSeq (sIf (rTest (rBin inD (rBin ixD (rVar 1) (rCon (.int 0))) (rCon (.tup [.str "plus", .str "minus", .str "times", .str "and", .str "or", .str "either"]))))
    (sSet 1 (rBin addD (rLst (rCons (rCon (.str "do")) rNil)) (rVar 1)))
    (sIf (rTest (rBin eqD (rBin ixD (rVar 1) (rCon (.int 0))) (rCon (.str "do"))))
    (sRet (rCon .non))
    sNil))
    (sSeq (sSet 2 (rUn (kgetD kd_FORMS) (rBin ixD (rVar 1) (rCon (.int 0)))))
    (sSeq (sIf (rOrT (rTest (rBin isN (rVar 2) (rCon .non))) (rTest (rBin neD (rCal lenD (rCons (rVar 1) rNil)) (rBin addD (rCal lenD (rCons (rVar 2) rNil)) (rCon (.int 1))))))
    (sRet (rCon .non))
    sNil)
    (sSeq (sSet 3 (rBin addD (rTup (rCons (rBin ixD (rVar 1) (rCon (.int 0))) rNil)) (rCal tupleT (rCons (rLc frzL (rRan zipD (rCons (rVar 2) (rCons (rSl (rVar 1) (rPart (rCon (.int 1))) rNoP) rNil))) (.tp [4, 5]) [4, 5] rYes (rCall g_thing_in (rCons (rVar 4) (rCons (rVar 5) rNil)))) rNil))))
    (sRet (rIf (rTruth (rCall g_is_row (rCons (rVar 3) rNil))) (rVar 3) (rCon .non))))))))
def g_row_in : List D → Store → Res D := runDef 6 m_row_in
def lb1_read_rows : RS := (sSeq (sSet 4 (rCall g_row_in (rCons (rVar 3) rNil)))
    (sSeq (sIf (rTest (rBin isN (rVar 4) (rCon .non)))
    (sRaiseF cl_NoText ["number"] (rCons (rVar 2) rNil))
    sNil)
    (sExp (rMth "list" appendL (rVar 1) (rCons (rVar 4) rNil)))))
def m_read_rows : RS := (sSeq (sIf (rNotT (rTruth (rUn (isiD "str") (rVar 0))))
    (sRaiseF cl_NoText ["number"] (rCons (rCon .non) rNil))
    sNil)
    (sSeq (sSet 1 (rLstM rNil))
    (sSeq (sFor (rRan enumD (rCons (rMth "str" splitS (rVar 0) (rCons (rCon (.str "\n")) rNil)) rNil)) (.tp [2, 3])
    lb1_read_rows)
    (sSeq (sIf (rTest (rBin gtD (rCal lenD (rCons (rVar 1) rNil)) (rCon (.int 64))))
    (sRaiseF cl_NoText ["number"] (rCons (rCon .non) rNil))
    sNil)
    (sRet (rVar 1))))))
def gf_read_rows : List D → Store → Res D := runDef 5 m_read_rows
def g_read_rows : List D → Store → Res D := fun ds S => frz S.length (gf_read_rows ds S)
def m_law_pool : RS := (sSeq (sSet 2 (rBin addD (rBin mulD (rCon (.int 7)) (rCal sumD (rCons (rSl (rVar 0) rNoP (rPart (rCon (.int 63)))) rNil))) (rVar 1)))
    (sSeq (sIf (rTest (rBin ltD (rVar 1) (rCal lenD (rCons (rVar 0) rNil))))
    (sSet 2 (rBin ixD (rVar 0) (rVar 1)))
    sNil)
    (sSeq (sSet 3 (rCal absD (rCons (rVar 2) rNil)))
    (sSeq (sSet 4 (rBin modD (rBin mulD (rBin addD (rBin addD (rBin addD (rBin modD (rVar 3) (rCon (.int 2147483629))) (rBin mulD (rBin mulD (rCon (.int 7919)) (rVar 1)) (rVar 1))) (rBin mulD (rCon (.int 31)) (rVar 1))) (rCon (.int 17))) (rCon (.int 48271))) (rCon (.int 2147483647))))
    (sRet (rLstM (rCons (rBin mulD (rVar 3) (rCal intD (rCons (rBin geD (rVar 3) (rBin powD (rCon (.int 10)) (rCon (.int 18)))) rNil))) (rCons (rBin modD (rBin mulD (rVar 4) (rVar 4)) (rCon (.int 2147483629))) rNil))))))))
def g_law_pool : List D → Store → Res D := runDef 5 m_law_pool
def m_law_take : RS := (sSeq (sIf (rTest (rBin gtD (rBin ixD (rVar 0) (rCon (.int 0))) (rCon (.int 0))))
    (sSeq (sSet 2 (rBin modD (rBin ixD (rVar 0) (rCon (.int 0))) (rVar 1)))
    (sSeq (sPutIx (rBin divD (rBin ixD (rVar 0) (rCon (.int 0))) (rVar 1)) (rVar 0) (rCon (.int 0)))
    (sRet (rVar 2))))
    sNil)
    (sSeq (sPutIx (rBin modD (rBin addD (rBin mulD (rBin ixD (rVar 0) (rCon (.int 1))) (rCon (.int 48271))) (rCon (.int 11))) (rCon (.int 2147483647))) (rVar 0) (rCon (.int 1)))
    (sRet (rBin modD (rBin divD (rBin modD (rBin mulD (rBin ixD (rVar 0) (rCon (.int 1))) (rBin ixD (rVar 0) (rCon (.int 1)))) (rCon (.int 2147483629))) (rCon (.int 16))) (rVar 1)))))
def g_law_take : List D → Store → Res D := runDef 3 m_law_take
def m_law_forms : RS := (sSeq (sSet 0 (rDispM [("set", (rCon (.str "bn"))), ("move", (rCon (.str "bb"))), ("do", (rCon (.str "dby"))), ("walk", (rCon (.str "by"))), ("narrow", (rCon (.str "by"))), ("exact", (rCon (.str "by"))), ("less", (rCon (.str "br")))]))
    (sSeq (sExp (rMth "dict" updDM (rVar 0) (rCons (rDispF [("seal", (rCon (.str "bb"))), ("open", (rCon (.str "bb"))), ("entry", (rCon (.str "b"))), ("ask", (rCon (.str "bkb"))), ("here", (rCon (.str "b"))), ("load", (rCon (.str "bbo"))), ("store", (rCon (.str "bob")))]) rNil)))
    (sSeq (sExp (rMth "dict" updDM (rVar 0) (rCons (rDispF [("poke", (rCon (.str "bob"))), ("jump", (rCon (.str "jbyt"))), ("go", (rCon (.str "t"))), ("enter", (rCon (.str "b"))), ("call", (rCon (.str "b"))), ("back", (rCon (.str ""))), ("room", (rCon (.str "by")))]) rNil)))
    (sSeq (sPutD (rCon (.str "b")) (rVar 0) (rCon (.str "give")))
    (sRet (rVar 0))))))
def gf_law_forms : List D → Store → Res D := runDef 1 m_law_forms
def g_law_forms : List D → Store → Res D := fun ds S => frz S.length (gf_law_forms ds S)
def m_law_lists : RS := (sSeq (sIf (rTest (rBin eqD (rVar 0) (rCon (.str "d"))))
    (sRet (rLst (rCons (rCon (.str "plus")) (rCons (rCon (.str "minus")) (rCons (rCon (.str "times")) (rCons (rCon (.str "and")) (rCons (rCon (.str "or")) (rCons (rCon (.str "either")) rNil))))))))
    sNil)
    (sSeq (sIf (rTest (rBin eqD (rVar 0) (rCon (.str "j"))))
    (sRet (rLst (rCons (rCon (.str "same")) (rCons (rCon (.str "unlike")) (rCons (rCon (.str "under")) (rCons (rCon (.str "from")) rNil))))))
    sNil)
    (sRet (rLst (rCons (rCon (.str "mark")) (rCons (rCon (.str "bits")) (rCons (rCon (.str "at")) (rCons (rCon (.str "low")) (rCons (rCon (.str "high")) (rCons (rCon (.str "rights")) (rCons (rCon (.str "kind")) rNil)))))))))))
def g_law_lists : List D → Store → Res D := runDef 1 m_law_lists
def m_law_part (gr : List D → Store → Res D) : RS := (sSeq (sIf (rTest (rBin eqD (rVar 1) (rCon (.str "b"))))
    (sRet (rCall g_law_take (rCons (rVar 0) (rCons (rCon (.int 8)) rNil))))
    sNil)
    (sSeq (sIf (rTest (rBin eqD (rVar 1) (rCon (.str "n"))))
    (sRet (rBin ixD (rLst (rCons (rCall g_law_take (rCons (rVar 0) (rCons (rCon (.int 65536)) rNil))) (rCons (rCall g_law_take (rCons (rVar 0) (rCons (rCon (.int 20)) rNil))) (rCons (rCon (.int 65535)) rNil)))) (rCall g_law_take (rCons (rVar 0) (rCons (rCon (.int 3)) rNil)))))
    sNil)
    (sSeq (sIf (rTest (rBin eqD (rVar 1) (rCon (.str "o"))))
    (sRet (rBin subD (rCall g_law_take (rCons (rVar 0) (rCons (rCon (.int 24)) rNil))) (rCon (.int 8))))
    sNil)
    (sSeq (sIf (rTest (rBin eqD (rVar 1) (rCon (.str "t"))))
    (sRet (rBin ixD (rLst (rCons (rCall g_law_take (rCons (rVar 0) (rCons (rCon (.int 4096)) rNil))) (rCons (rCall g_law_take (rCons (rVar 0) (rCons (rCon (.int 9)) rNil))) (rCons (rCon (.int 4095)) rNil)))) (rCall g_law_take (rCons (rVar 0) (rCons (rCon (.int 3)) rNil)))))
    sNil)
    (sSeq (sIf (rTest (rBin eqD (rVar 1) (rCon (.str "y"))))
    (sRet (rBin ixD (rLst (rCons (rTup (rCons (rCon (.str "box")) (rCons (rCall g_law_take (rCons (rVar 0) (rCons (rCon (.int 8)) rNil))) rNil))) (rCons (rTup (rCons (rCon (.str "worth")) (rCons (rCall gr (rCons (rVar 0) (rCons (rCon (.str "n")) rNil))) rNil))) rNil))) (rCall g_law_take (rCons (rVar 0) (rCons (rCon (.int 2)) rNil)))))
    sNil)
    (sSeq (sIf (rTest (rBin eqD (rVar 1) (rCon (.str "r"))))
    (sRet (rMth "str" joinD (rCon (.str "")) (rCons (rLc frzL (rIt (rCon (.str "rwlsnfxco"))) (.nm 2) [2] (rTest (rBin eqD (rCall g_law_take (rCons (rVar 0) (rCons (rCon (.int 2)) rNil))) (rCon (.int 0)))) (rVar 2)) rNil)))
    sNil)
    (sSeq (sSet 3 (rCall g_law_lists (rCons (rVar 1) rNil)))
    (sRet (rBin ixD (rVar 3) (rCall g_law_take (rCons (rVar 0) (rCons (rCal lenD (rCons (rVar 3) rNil)) rNil))))))))))))
def gz_law_part : List D → Store → Res D := runDef 4 (m_law_part fun _ _ => .bad)
def g_law_part : List D → Store → Res D := runDef 4 (m_law_part gz_law_part)
def m_law_row : RS := (sSeq (sSet 1 (rCall g_law_forms rNil))
    (sSeq (sSet 2 (rBin ixD (rCal sortD (rCons (rVar 1) rNil)) (rCall g_law_take (rCons (rVar 0) (rCons (rCal lenK (rCons (rVar 1) rNil)) rNil)))))
    (sRet (rBin addD (rTup (rCons (rVar 2) rNil)) (rCal tupleT (rCons (rLc frzL (rIt (rBin dixD (rVar 1) (rVar 2))) (.nm 3) [3] rYes (rCall g_law_part (rCons (rVar 0) (rCons (rVar 3) rNil)))) rNil))))))
def g_law_row : List D → Store → Res D := runDef 4 m_law_row
def m_law_is_from : RS := (sRet (rAnd (rUn (isiD "int") (rVar 0)) (rAnd (rNot (rUn (isiD "bool") (rVar 0))) (rChain (rVar 1) (rLink leD (rVar 0) (rLast leD (rVar 2)))))))
def g_law_is_from : List D → Store → Res D := runDef 3 m_law_is_from
def m_law_is_part (gr : List D → Store → Res D) : RS := (sSeq (sIf (rTest (rBin inD (rVar 0) (rCon (.str "bnot"))))
    (sSeq (sAsg (.tp [2, 3]) (rBin dixD (rDispF [("b", (rTup (rCons (rCon (.int 0)) (rCons (rCon (.int 7)) rNil)))), ("n", (rTup (rCons (rCon (.int 0)) (rCons (rCon (.int 65535)) rNil)))), ("o", (rTup (rCons (rUn negD (rCon (.int 8))) (rCons (rCon (.int 15)) rNil)))), ("t", (rTup (rCons (rCon (.int 0)) (rCons (rCon (.int 4095)) rNil))))]) (rVar 0)))
    (sRet (rCall g_law_is_from (rCons (rVar 1) (rCons (rVar 2) (rCons (rVar 3) rNil))))))
    sNil)
    (sSeq (sIf (rTest (rBin eqD (rVar 0) (rCon (.str "y"))))
    (sSeq (sIf (rOrT (rNotT (rTruth (rUn (isiD "tuple") (rVar 1)))) (rOrT (rTest (rBin neD (rCal lenD (rCons (rVar 1) rNil)) (rCon (.int 2)))) (rTest (rBin ninD (rBin ixD (rVar 1) (rCon (.int 0))) (rLst (rCons (rCon (.str "box")) (rCons (rCon (.str "worth")) rNil)))))))
    (sRet (rCon (.bl false)))
    sNil)
    (sRet (rCall gr (rCons (rBin ixD (rLst (rCons (rCon (.str "n")) (rCons (rCon (.str "b")) rNil))) (rCal intD (rCons (rBin eqD (rBin ixD (rVar 1) (rCon (.int 0))) (rCon (.str "box"))) rNil))) (rCons (rBin ixD (rVar 1) (rCon (.int 1))) rNil)))))
    sNil)
    (sSeq (sIf (rTest (rBin eqD (rVar 0) (rCon (.str "r"))))
    (sRet (rAnd (rUn (isiD "str") (rVar 1)) (rBin eqD (rLc frzL (rIt (rCon (.str "rwlsnfxco"))) (.nm 4) [4] (rTest (rBin inD (rVar 4) (rVar 1))) (rVar 4)) (rCal listT (rCons (rVar 1) rNil)))))
    sNil)
    (sRet (rAnd (rUn (isiD "str") (rVar 1)) (rBin inD (rVar 1) (rCall g_law_lists (rCons (rVar 0) rNil))))))))
def gz_law_is_part : List D → Store → Res D := runDef 5 (m_law_is_part fun _ _ => .bad)
def g_law_is_part : List D → Store → Res D := runDef 5 (m_law_is_part gz_law_is_part)
def m_law_is_row : RS := (sSeq (sSet 1 (rCall g_law_forms rNil))
    (sSeq (sIf (rOrT (rNotT (rTruth (rUn (isiD "tuple") (rVar 0)))) (rOrT (rTest (rBin eqD (rVar 0) (rTup rNil))) (rOrT (rNotT (rTruth (rUn (isiD "str") (rBin ixD (rVar 0) (rCon (.int 0)))))) (rTest (rBin dninD (rBin ixD (rVar 0) (rCon (.int 0))) (rVar 1))))))
    (sRet (rCon (.bl false)))
    sNil)
    (sSeq (sSet 2 (rBin dixD (rVar 1) (rBin ixD (rVar 0) (rCon (.int 0)))))
    (sSeq (sIf (rTest (rBin neD (rCal lenD (rCons (rVar 0) rNil)) (rBin addD (rCal lenD (rCons (rVar 2) rNil)) (rCon (.int 1)))))
    (sRet (rCon (.bl false)))
    sNil)
    (sRet (rBin eqD (rLc frzL (rRan zipD (rCons (rVar 2) (rCons (rSl (rVar 0) (rPart (rCon (.int 1))) rNoP) rNil))) (.tp [3, 4]) [3, 4] (rNotT (rTruth (rCall g_law_is_part (rCons (rVar 3) (rCons (rVar 4) rNil))))) (rVar 3)) (rLst rNil)))))))
def g_law_is_row : List D → Store → Res D := runDef 5 m_law_is_row
def m_law_shown_part : RS := (sSeq (sIf (rTest (rBin eqD (rVar 0) (rCon (.str "y"))))
    (sRet (rBin addD (rBin mulU (rCon (.str "#")) (rCal intD (rCons (rBin eqD (rBin ixD (rVar 1) (rCon (.int 0))) (rCon (.str "worth"))) rNil))) (rCal strT (rCons (rBin ixD (rVar 1) (rCon (.int 1))) rNil))))
    sNil)
    (sSeq (sIf (rAndT (rTest (rBin eqD (rVar 0) (rCon (.str "r")))) (rTest (rBin eqD (rVar 1) (rCon (.str "")))))
    (sRet (rCon (.str "-")))
    sNil)
    (sRet (rCal strT (rCons (rVar 1) rNil)))))
def g_law_shown_part : List D → Store → Res D := runDef 2 m_law_shown_part
def m_law_line : RS := (sSeq (sSet 1 (rLc frzL (rRan zipD (rCons (rBin dixD (rCall g_law_forms rNil) (rBin ixD (rVar 0) (rCon (.int 0)))) (rCons (rSl (rVar 0) (rPart (rCon (.int 1))) rNoP) rNil))) (.tp [2, 3]) [2, 3] rYes (rCall g_law_shown_part (rCons (rVar 2) (rCons (rVar 3) rNil)))))
    (sRet (rMth "str" joinD (rCon (.str " ")) (rCons (rBin addD (rBin mulL (rLst (rCons (rBin ixD (rVar 0) (rCon (.int 0))) rNil)) (rCal intD (rCons (rBin neD (rBin ixD (rVar 0) (rCon (.int 0))) (rCon (.str "do"))) rNil))) (rVar 1)) rNil))))
def g_law_line : List D → Store → Res D := runDef 4 m_law_line
def m_law_text : RS := (sRet (rMth "str" joinD (rCon (.str "\n")) (rCons (rLc frzL (rIt (rVar 0)) (.nm 1) [1] rYes (rCall g_law_line (rCons (rVar 1) rNil))) rNil)))
def g_law_text : List D → Store → Res D := runDef 2 m_law_text
def m_law_number_in : RS := (sSeq (sSet 1 (rSl (rVar 0) (rPart (rCal intT (rCons (rMth "str" startsS (rVar 0) (rCons (rCon (.str "-")) rNil)) rNil))) rNoP))
    (sSeq (sIf (rOrT (rTest (rBin eqD (rVar 1) (rCon (.str "")))) (rOrT (rTest (rBin gtD (rCal lenD (rCons (rVar 1) rNil)) (rCon (.int 9)))) (rTest (rBin neD (rLc frzL (rIt (rVar 1)) (.nm 2) [2] (rTest (rBin ninD (rVar 2) (rCon (.str "0123456789")))) (rVar 2)) (rLst rNil)))))
    (sRet (rCon .non))
    sNil)
    (sSeq (sIf (rOrT (rAndT (rTruth (rMth "str" startsS (rVar 1) (rCons (rCon (.str "0")) rNil))) (rTest (rBin neD (rVar 1) (rCon (.str "0"))))) (rTest (rBin eqD (rVar 0) (rCon (.str "-0")))))
    (sRet (rCon .non))
    sNil)
    (sRet (rBin mulD (rCal intT (rCons (rVar 1) rNil)) (rBin ixD (rLst (rCons (rCon (.int 1)) (rCons (rUn negD (rCon (.int 1))) rNil))) (rCal intT (rCons (rMth "str" startsS (rVar 0) (rCons (rCon (.str "-")) rNil)) rNil))))))))
def g_law_number_in : List D → Store → Res D := runDef 3 m_law_number_in
def m_law_part_in : RS := (sSeq (sIf (rTest (rBin inD (rVar 0) (rCon (.str "bnot"))))
    (sRet (rCall g_law_number_in (rCons (rVar 1) rNil)))
    sNil)
    (sSeq (sIf (rTest (rBin eqD (rVar 0) (rCon (.str "y"))))
    (sRet (rTup (rCons (rBin ixD (rLst (rCons (rCon (.str "box")) (rCons (rCon (.str "worth")) rNil))) (rCal intT (rCons (rMth "str" startsS (rVar 1) (rCons (rCon (.str "#")) rNil)) rNil))) (rCons (rCall g_law_number_in (rCons (rSl (rVar 1) (rPart (rCal intT (rCons (rMth "str" startsS (rVar 1) (rCons (rCon (.str "#")) rNil)) rNil))) rNoP) rNil)) rNil))))
    sNil)
    (sSeq (sIf (rAndT (rTest (rBin eqD (rVar 0) (rCon (.str "r")))) (rTest (rBin inD (rVar 1) (rTup (rCons (rCon (.str "")) (rCons (rCon (.str "-")) rNil))))))
    (sRet (rBin dixD (rDispF [("", (rCon .non)), ("-", (rCon (.str "")))]) (rVar 1)))
    sNil)
    (sRet (rVar 1)))))
def g_law_part_in : List D → Store → Res D := runDef 2 m_law_part_in
def m_law_row_in : RS := (sSeq (sSet 1 (rMth "str" splitS (rVar 0) (rCons (rCon (.str " ")) rNil)))
    (sSeq (sIf (rTest (rBin inD (rBin ixD (rVar 1) (rCon (.int 0))) (rCall g_law_lists (rCons (rCon (.str "d")) rNil))))
    (sSet 1 (rBin addD (rLst (rCons (rCon (.str "do")) rNil)) (rVar 1)))
    (sIf (rTest (rBin eqD (rBin ixD (rVar 1) (rCon (.int 0))) (rCon (.str "do"))))
    (sRet (rCon .non))
    sNil))
    (sSeq (sSet 2 (rMth "dict" getDM (rCall g_law_forms rNil) (rCons (rBin ixD (rVar 1) (rCon (.int 0))) (rCons (rCon .non) rNil))))
    (sSeq (sIf (rOrT (rTest (rBin isN (rVar 2) (rCon .non))) (rTest (rBin neD (rCal lenD (rCons (rVar 1) rNil)) (rBin addD (rCal lenD (rCons (rVar 2) rNil)) (rCon (.int 1))))))
    (sRet (rCon .non))
    sNil)
    (sSeq (sSet 3 (rBin addD (rTup (rCons (rBin ixD (rVar 1) (rCon (.int 0))) rNil)) (rCal tupleT (rCons (rLc frzL (rRan zipD (rCons (rVar 2) (rCons (rSl (rVar 1) (rPart (rCon (.int 1))) rNoP) rNil))) (.tp [4, 5]) [4, 5] rYes (rCall g_law_part_in (rCons (rVar 4) (rCons (rVar 5) rNil)))) rNil))))
    (sRet (rIf (rTruth (rCall g_law_is_row (rCons (rVar 3) rNil))) (rVar 3) (rCon .non))))))))
def g_law_row_in : List D → Store → Res D := runDef 6 m_law_row_in
def lb1_law_due : RS := (sSeq (sSet 4 (rCall g_law_row_in (rCons (rVar 3) rNil)))
    (sSeq (sIf (rTest (rBin isN (rVar 4) (rCon .non)))
    (sRet (rLst (rCons (rCon (.str "none")) (rCons (rVar 2) rNil))))
    sNil)
    (sExp (rMth "list" appendL (rVar 1) (rCons (rVar 4) rNil)))))
def m_law_due : RS := (sSeq (sIf (rNotT (rTruth (rUn (isiD "str") (rVar 0))))
    (sRet (rLst (rCons (rCon (.str "none")) (rCons (rCon .non) rNil))))
    sNil)
    (sSeq (sSet 1 (rLstM rNil))
    (sSeq (sFor (rRan enumD (rCons (rMth "str" splitS (rVar 0) (rCons (rCon (.str "\n")) rNil)) rNil)) (.tp [2, 3])
    lb1_law_due)
    (sRet (rIf (rTest (rBin gtD (rCal lenD (rCons (rVar 1) rNil)) (rCon (.int 64)))) (rLst (rCons (rCon (.str "none")) (rCons (rCon .non) rNil))) (rVar 1))))))
def gf_law_due : List D → Store → Res D := runDef 5 m_law_due
def g_law_due : List D → Store → Res D := fun ds S => frz S.length (gf_law_due ds S)
def m_law_told : RS := (sSeq (sSet 1 (rCon .non))
    (sSeq (sSet 2 (rCon .non))
    (sSeq (sTryAs sub_ReachError 3
    (sSet 2 (rCall g_read_rows (rCons (rVar 0) rNil)))
    (sSet 1 (rVar 3)))
    (sSeq (sIf (rTest (rBin isN (rVar 1) (rCon .non)))
    (sRet (rVar 2))
    sNil)
    (sRet (rIf (rAndT (rTruth (rUn (isiQ kq_NoText) (rVar 1))) (rNotT (rTruth (rUn (isiQ kq_NoRows) (rVar 1))))) (rLst (rCons (rCon (.str "none")) (rCons (rUn (fldD fk_number "number") (rVar 1)) rNil))) (rCon (.str "other"))))))))
def g_law_told : List D → Store → Res D := runDef 4 m_law_told
def m_law_bent : RS := (sSeq (sSet 2 (rMth "str" splitS (rVar 1) (rCons (rCon (.str "\n")) rNil)))
    (sSeq (sSet 3 (rCall g_law_take (rCons (rVar 0) (rCons (rCal lenD (rCons (rVar 2) rNil)) rNil))))
    (sSeq (sSet 4 (rMth "str" splitS (rBin ixD (rVar 2) (rVar 3)) (rCons (rCon (.str " ")) rNil)))
    (sSeq (sSet 5 (rCall g_law_take (rCons (rVar 0) (rCons (rCal lenD (rCons (rVar 4) rNil)) rNil))))
    (sSeq (sSet 6 (rLst (rCons (rCon (.str "")) (rCons (rCon (.str "0")) (rCons (rCon (.str "8")) (rCons (rCon (.str "#5")) (rCons (rCon (.str "#65536")) (rCons (rCon (.str "-1")) (rCons (rCon (.str "-9")) (rCons (rCon (.str "16")) (rCons (rCon (.str "00")) (rCons (rCon (.str "-0")) (rCons (rCon (.str "+1")) (rCons (rCon (.str "#-1")) (rCons (rCon (.str "rw")) (rCons (rCon (.str "wr")) (rCons (rCon (.str "-")) (rCons (rCon (.str "plus")) (rCons (rCon (.str "do")) rNil)))))))))))))))))))
    (sSeq (sSet 6 (rBin addD (rVar 6) (rLst (rCons (rCon (.str "same")) (rCons (rCon (.str "mark")) (rCons (rCon (.str "4096")) (rCons (rCon (.str "x1")) (rCons (rCon (.str "#")) (rCons (rCon (.str "1.0")) (rCons (rCon (.str "set")) (rCons (rCon (.str "back")) (rCons (rCon (.str "here")) (rCons (rCon (.str "000001")) (rCons (rCon (.str "back back")) rNil))))))))))))))
    (sSeq (sSet 7 (rLst (rCons (rLst (rCons (rBin ixD (rVar 6) (rCall g_law_take (rCons (rVar 0) (rCons (rCon (.int 28)) rNil)))) rNil)) (rCons (rBin mulL (rLst (rCons (rBin ixD (rVar 4) (rVar 5)) rNil)) (rCon (.int 2))) (rCons (rLst rNil) (rCons (rLst (rCons (rBin ixD (rVar 4) (rVar 5)) (rCons (rBin ixD (rVar 6) (rCall g_law_take (rCons (rVar 0) (rCons (rCon (.int 28)) rNil)))) rNil))) rNil))))))
    (sSeq (sSet 8 (rMth "str" joinD (rCon (.str " ")) (rCons (rBin addD (rBin addD (rSl (rVar 4) rNoP (rPart (rVar 5))) (rBin ixD (rVar 7) (rCall g_law_take (rCons (rVar 0) (rCons (rCon (.int 4)) rNil))))) (rSl (rVar 4) (rPart (rBin addD (rVar 5) (rCon (.int 1)))) rNoP)) rNil)))
    (sSeq (sSet 9 (rBin ixD (rLst (rCons (rCon (.str " ")) (rCons (rCon (.str "\n")) (rCons (rCon (.str "0")) (rCons (rCon (.str "a")) (rCons (rCon (.str "#")) (rCons (rCon (.str "-")) (rCons (rCon (.str "+")) rNil)))))))) (rCall g_law_take (rCons (rVar 0) (rCons (rCon (.int 7)) rNil)))))
    (sSeq (sSet 10 (rCall g_law_take (rCons (rVar 0) (rCons (rBin addD (rCal lenD (rCons (rBin ixD (rVar 2) (rVar 3)) rNil)) (rCon (.int 1))) rNil))))
    (sSeq (sSet 11 (rLst (rCons (rVar 8) (rCons (rVar 8) (rCons (rVar 8) (rCons (rCon (.str "")) (rCons (rBin addD (rBin addD (rBin ixD (rVar 2) (rVar 3)) (rCon (.str "\n"))) (rBin ixD (rVar 2) (rVar 3))) (rCons (rBin addD (rBin addD (rSl (rBin ixD (rVar 2) (rVar 3)) rNoP (rPart (rVar 10))) (rVar 9)) (rSl (rBin ixD (rVar 2) (rVar 3)) (rPart (rVar 10)) rNoP)) rNil))))))))
    (sRet (rMth "str" joinD (rCon (.str "\n")) (rCons (rBin addD (rBin addD (rSl (rVar 2) rNoP (rPart (rVar 3))) (rLst (rCons (rBin ixD (rVar 11) (rCall g_law_take (rCons (rVar 0) (rCons (rCon (.int 6)) rNil)))) rNil))) (rSl (rVar 2) (rPart (rBin addD (rVar 3) (rCon (.int 1)))) rNoP)) rNil))))))))))))))
def g_law_bent : List D → Store → Res D := runDef 12 m_law_bent
def lb1_law : RS := (sIf (rTest (rBin neD (rCall g_law_told (rCons (rMth "str" joinD (rCon (.str "\n")) (rCons (rBin mulL (rLst (rCons (rCon (.str "back")) rNil)) (rVar 1)) rNil)) rNil)) (rCall g_law_due (rCons (rMth "str" joinD (rCon (.str "\n")) (rCons (rBin mulL (rLst (rCons (rCon (.str "back")) rNil)) (rVar 1)) rNil)) rNil))))
    (sRet (rCon (.bl false)))
    sNil)
def lb2_law : RS := (sIf (rTest (rBin neD (rCal reprD (rCons (rCall g_law_told (rCons (rVar 8) rNil)) rNil)) (rCal reprD (rCons (rCall g_law_due (rCons (rVar 8) rNil)) rNil))))
    (sRet (rCon (.bl false)))
    sNil)
def lb3_law : RS := (sSeq (sSet 3 (rCall g_law_pool (rCons (rVar 0) (rCons (rVar 2) rNil))))
    (sSeq (sSet 4 (rCall g_law_text (rCons (rLc frzL (rRan ran1 (rCons (rBin addD (rCon (.int 1)) (rCall g_law_take (rCons (rVar 3) (rCons (rCon (.int 8)) rNil)))) rNil)) (.nm 5) [5] rYes (rCall g_law_row (rCons (rVar 3) rNil))) rNil)))
    (sSeq (sSet 6 (rCall g_law_bent (rCons (rVar 3) (rCons (rVar 4) rNil))))
    (sSeq (frzS (sSeqs [(sSet 7 (rLstM (rCons (rVar 4) (rCons (rVar 6) (rCons (rCall g_law_bent (rCons (rVar 3) (rCons (rVar 6) rNil))) (rCons (rBin addD (rVar 4) (rCon (.str "\n"))) (rCons (rCon (.str "")) (rCons (rBin addD (rCon (.str "\n")) (rVar 4)) (rCons (rCon (.str "set 0 0065535")) rNil))))))))),
    (sSet 7 (rAddM (rVar 7) (rLst (rCons (rCon (.str "set 0 1234567")) (rCons (rCon (.str "set 0 +1")) (rCons (rCon (.str "set 0 1_0")) rNil)))))),
    (sExp (rMth "list" appendL (rVar 7) (rCons (rBin addD (rCon (.str "set 0 ")) (rBin mulU (rCon (.str "1")) (rCon (.int 61)))) rNil)))]))
    (sFor (rIt (rBin addD (rVar 7) (rLst (rCons (rCon .non) (rCons (rCon (.int 5)) (rCons (rLst (rCons (rVar 4) rNil)) (rCons (rCon (.bl true)) (rCons rDct0 (rCons (rTup (rCons (rCon (.str "back")) rNil)) rNil))))))))) (.nm 8)
    lb2_law)))))
def m_law : RS := (sSeq (sFor (rIt (rLst (rCons (rCon (.int 64)) (rCons (rCon (.int 65)) rNil)))) (.nm 1)
    lb1_law)
    (sSeq (sFor (rRan ran1 (rCons (rCal maxD2 (rCons (rCon (.int 1)) (rCons (rCal minD2 (rCons (rCal lenD (rCons (rVar 0) rNil)) (rCons (rCon (.int 15)) rNil))) rNil))) rNil)) (.nm 2)
    lb3_law)
    (sRet (rCon (.bl true)))))
def g_law : List D → Store → Res D := runDef 9 m_law
structure Txt (w : World) (K : PySem.W.Frag) (mg : Str → Option Value) (C A : Nat → Addr) (fd : Nat → FuncData) : Prop where
  f_is_whole : Fun K "is_whole" "is_whole" s_is_whole (A 0) (fd 0)
  b_is_whole : Binds K (fd 0) ["thing"] []
  g_is_whole : mg "is_whole" = some (.ref (A 0))
  f_is_rights : Fun K "is_rights" "is_rights" s_is_rights (A 1) (fd 1)
  b_is_rights : Binds K (fd 1) ["thing"] []
  g_is_rights : mg "is_rights" = some (.ref (A 1))
  f_is_from : Fun K "is_from" "is_from" s_is_from (A 2) (fd 2)
  b_is_from : Binds K (fd 2) ["thing", "low", "high"] []
  g_is_from : mg "is_from" = some (.ref (A 2))
  f_is_by : Fun K "is_by" "is_by" s_is_by (A 3) (fd 3)
  b_is_by : Binds K (fd 3) ["thing"] []
  g_is_by : mg "is_by" = some (.ref (A 3))
  f_is_one_of : Fun K "is_one_of" "is_one_of" s_is_one_of (A 4) (fd 4)
  b_is_one_of : Binds K (fd 4) ["thing", "words"] []
  g_is_one_of : mg "is_one_of" = some (.ref (A 4))
  f_is_sort : Fun K "is_sort" "is_sort" s_is_sort (A 5) (fd 5)
  b_is_sort : Binds K (fd 5) ["sort", "thing"] []
  g_is_sort : mg "is_sort" = some (.ref (A 5))
  f_is_row : Fun K "is_row" "is_row" s_is_row (A 6) (fd 6)
  b_is_row : Binds K (fd 6) ["thing"] []
  g_is_row : mg "is_row" = some (.ref (A 6))
  f_figures_in : Fun K "figures_in" "figures_in" s_figures_in (A 7) (fd 7)
  b_figures_in : Binds K (fd 7) ["word", "most"] []
  g_figures_in : mg "figures_in" = some (.ref (A 7))
  f_number_in : Fun K "number_in" "number_in" s_number_in (A 8) (fd 8)
  b_number_in : Binds K (fd 8) ["word"] []
  g_number_in : mg "number_in" = some (.ref (A 8))
  f_thing_in : Fun K "thing_in" "thing_in" s_thing_in (A 9) (fd 9)
  b_thing_in : Binds K (fd 9) ["sort", "word"] []
  g_thing_in : mg "thing_in" = some (.ref (A 9))
  f_row_in : Fun K "row_in" "row_in" s_row_in (A 10) (fd 10)
  b_row_in : Binds K (fd 10) ["line"] []
  g_row_in : mg "row_in" = some (.ref (A 10))
  f_read_rows : Fun K "read_rows" "read_rows" s_read_rows (A 11) (fd 11)
  b_read_rows : Binds K (fd 11) ["text"] []
  g_read_rows : mg "read_rows" = some (.ref (A 11))
  f_law_pool : Fun K "_law_pool" "_law_pool" s_law_pool (A 12) (fd 12)
  b_law_pool : Binds K (fd 12) ["_law_script", "_law_k"] []
  g_law_pool : mg "_law_pool" = some (.ref (A 12))
  f_law_take : Fun K "_law_take" "_law_take" s_law_take (A 13) (fd 13)
  b_law_take : Binds K (fd 13) ["_law_pool_here", "_law_many"] []
  g_law_take : mg "_law_take" = some (.ref (A 13))
  f_law_forms : Fun K "_law_forms" "_law_forms" s_law_forms (A 14) (fd 14)
  b_law_forms : Binds K (fd 14) [] []
  g_law_forms : mg "_law_forms" = some (.ref (A 14))
  f_law_lists : Fun K "_law_lists" "_law_lists" s_law_lists (A 15) (fd 15)
  b_law_lists : Binds K (fd 15) ["_law_sort"] []
  g_law_lists : mg "_law_lists" = some (.ref (A 15))
  f_law_part : Fun K "_law_part" "_law_part" s_law_part (A 16) (fd 16)
  b_law_part : Binds K (fd 16) ["_law_pool_here", "_law_sort"] []
  g_law_part : mg "_law_part" = some (.ref (A 16))
  f_law_row : Fun K "_law_row" "_law_row" s_law_row (A 17) (fd 17)
  b_law_row : Binds K (fd 17) ["_law_pool_here"] []
  g_law_row : mg "_law_row" = some (.ref (A 17))
  f_law_is_from : Fun K "_law_is_from" "_law_is_from" s_law_is_from (A 18) (fd 18)
  b_law_is_from : Binds K (fd 18) ["_law_thing", "_law_low", "_law_high"] []
  g_law_is_from : mg "_law_is_from" = some (.ref (A 18))
  f_law_is_part : Fun K "_law_is_part" "_law_is_part" s_law_is_part (A 19) (fd 19)
  b_law_is_part : Binds K (fd 19) ["_law_sort", "_law_thing"] []
  g_law_is_part : mg "_law_is_part" = some (.ref (A 19))
  f_law_is_row : Fun K "_law_is_row" "_law_is_row" s_law_is_row (A 20) (fd 20)
  b_law_is_row : Binds K (fd 20) ["_law_thing"] []
  g_law_is_row : mg "_law_is_row" = some (.ref (A 20))
  f_law_shown_part : Fun K "_law_shown_part" "_law_shown_part" s_law_shown_part (A 21) (fd 21)
  b_law_shown_part : Binds K (fd 21) ["_law_sort", "_law_thing"] []
  g_law_shown_part : mg "_law_shown_part" = some (.ref (A 21))
  f_law_line : Fun K "_law_line" "_law_line" s_law_line (A 22) (fd 22)
  b_law_line : Binds K (fd 22) ["_law_row_here"] []
  g_law_line : mg "_law_line" = some (.ref (A 22))
  f_law_text : Fun K "_law_text" "_law_text" s_law_text (A 23) (fd 23)
  b_law_text : Binds K (fd 23) ["_law_rows"] []
  g_law_text : mg "_law_text" = some (.ref (A 23))
  f_law_number_in : Fun K "_law_number_in" "_law_number_in" s_law_number_in (A 24) (fd 24)
  b_law_number_in : Binds K (fd 24) ["_law_word"] []
  g_law_number_in : mg "_law_number_in" = some (.ref (A 24))
  f_law_part_in : Fun K "_law_part_in" "_law_part_in" s_law_part_in (A 25) (fd 25)
  b_law_part_in : Binds K (fd 25) ["_law_sort", "_law_word"] []
  g_law_part_in : mg "_law_part_in" = some (.ref (A 25))
  f_law_row_in : Fun K "_law_row_in" "_law_row_in" s_law_row_in (A 26) (fd 26)
  b_law_row_in : Binds K (fd 26) ["_law_line_here"] []
  g_law_row_in : mg "_law_row_in" = some (.ref (A 26))
  f_law_due : Fun K "_law_due" "_law_due" s_law_due (A 27) (fd 27)
  b_law_due : Binds K (fd 27) ["_law_lines"] []
  g_law_due : mg "_law_due" = some (.ref (A 27))
  f_law_told : Fun K "_law_told" "_law_told" s_law_told (A 28) (fd 28)
  b_law_told : Binds K (fd 28) ["_law_lines"] []
  g_law_told : mg "_law_told" = some (.ref (A 28))
  f_law_bent : Fun K "_law_bent" "_law_bent" s_law_bent (A 29) (fd 29)
  b_law_bent : Binds K (fd 29) ["_law_pool_here", "_law_here"] []
  g_law_bent : mg "_law_bent" = some (.ref (A 29))
  f_law : Fun K "law" "law" s_law (A 30) (fd 30)
  b_law : Binds K (fd 30) ["_law_script"] []
  g_law : mg "law" = some (.ref (A 30))
  c_CELLS : ∃ t, mg "CELLS" = some (.int 4096 t)
  c_RIGHTS : ∃ t, mg "RIGHTS" = some (.str "rwlsnfxco" t)
  c_BOXES : ∃ t, mg "BOXES" = some (.int 8 t)
  c_MOST_WORTH : ∃ t, mg "MOST_WORTH" = some (.int 65535 t)
  c_LEAST_OFFSET : ∃ t, mg "LEAST_OFFSET" = some (.int (-8) t)
  c_MOST_OFFSET : ∃ t, mg "MOST_OFFSET" = some (.int 15 t)
  c_MOST_ROWS : ∃ t, mg "MOST_ROWS" = some (.int 64 t)
  c_DEEDS : ∃ a, mg "DEEDS" = some (.ref a) ∧ KTup K a ["plus", "minus", "times", "and", "or", "either"]
  c_ASKS : ∃ a, mg "ASKS" = some (.ref a) ∧ KTup K a ["same", "unlike", "under", "from"]
  c_WHATS : ∃ a, mg "WHATS" = some (.ref a) ∧ KTup K a ["mark", "bits", "at", "low", "high", "rights", "kind"]
  c_FORMS : ∃ a, mg "FORMS" = some (.ref a) ∧ KDic K w.params a kd_FORMS
  c_FIGURES : ∃ t, mg "FIGURES" = some (.str "0123456789" t)
  z_abs : mg "abs" = none
  z_all : mg "all" = none
  z_bool : mg "bool" = none
  z_enumerate : mg "enumerate" = none
  z_int : mg "int" = none
  z_isinstance : mg "isinstance" = none
  z_len : mg "len" = none
  z_list : mg "list" = none
  z_max : mg "max" = none
  z_min : mg "min" = none
  z_range : mg "range" = none
  z_repr : mg "repr" = none
  z_sorted : mg "sorted" = none
  z_str : mg "str" = none
  z_sum : mg "sum" = none
  z_tuple : mg "tuple" = none
  z_zip : mg "zip" = none
  k_ReachError : mg "ReachError" = some (.ref (C 0))
  E_ReachError : ExcC K (C 0)
  k_NoRows : mg "NoRows" = some (.ref (C 1))
  E_NoRows : ExcC K (C 1)
  k_NoText : mg "NoText" = some (.ref (C 2))
  E_NoText : ExcC K (C 2)
  bc_ReachError : BaseC K (C 0)
  fi_NoText : Fun K "__init__" "NoText.__init__" si_NoText (A 902) (fd 902)
  bi_NoText : Binds K (fd 902) ["self", "number"] []
  t_NoText : FldC K (C 2) (A 902) ["number"]
  X_NoRows_number : XfC K (C 1) ∧ PySem.W.findIn K (.ref (C 1)) "number" = some none
  X_NoText_number : XfC K (C 2) ∧ PySem.W.findIn K (.ref (C 2)) "number" = some none
  e_NoRows_ReachError : PySem.W.exmOne K (.ref (C 1)) (.ref (C 0)) = some true
  e_NoText_ReachError : PySem.W.exmOne K (.ref (C 2)) (.ref (C 0)) = some true
  e_ReachError_ReachError : PySem.W.exmOne K (.ref (C 0)) (.ref (C 0)) = some true
  q_NoRows_NoRows : PySem.W.kitOne K (.ref (C 1)) (.ref (C 1)) = some true
  q_NoRows_NoText : PySem.W.kitOne K (.ref (C 1)) (.ref (C 2)) = some false
  q_NoText_NoRows : PySem.W.kitOne K (.ref (C 2)) (.ref (C 1)) = some false
  q_NoText_NoText : PySem.W.kitOne K (.ref (C 2)) (.ref (C 2)) = some true
  q_ReachError_NoRows : PySem.W.kitOne K (.ref (C 0)) (.ref (C 1)) = some false
  q_ReachError_NoText : PySem.W.kitOne K (.ref (C 0)) (.ref (C 2)) = some false
section
variable {P : Program} {w : World} {K : PySem.W.Frag} {mg : Str → Option Value} {base : Heap} {C A : Nat → Addr} {fd : Nat → FuncData}
theorem kq_NoRows_h (T : Txt w K mg C A fd) : ∀ k b, kq_NoRows k = some b → PySem.W.kitOne K (tkV C k) (.ref (C 1)) = some b := by
  intro k b h
  unfold kq_NoRows at h
  split at h <;> cases h
  · exact T.q_ReachError_NoRows
  · exact T.q_NoRows_NoRows
  · exact T.q_NoText_NoRows
theorem kq_NoRows_x (T : Txt w K mg C A fd) : ∀ n b, kq_NoRows (.inr n) = some b → ExcC K (C n) := by
  intro n b h
  unfold kq_NoRows at h
  split at h
  · rename_i e; cases e; exact T.E_ReachError
  · rename_i e; cases e; exact T.E_NoRows
  · rename_i e; cases e; exact T.E_NoText
  · cases h
theorem kq_NoText_h (T : Txt w K mg C A fd) : ∀ k b, kq_NoText k = some b → PySem.W.kitOne K (tkV C k) (.ref (C 2)) = some b := by
  intro k b h
  unfold kq_NoText at h
  split at h <;> cases h
  · exact T.q_ReachError_NoText
  · exact T.q_NoRows_NoText
  · exact T.q_NoText_NoText
theorem kq_NoText_x (T : Txt w K mg C A fd) : ∀ n b, kq_NoText (.inr n) = some b → ExcC K (C n) := by
  intro n b h
  unfold kq_NoText at h
  split at h
  · rename_i e; cases e; exact T.E_ReachError
  · rename_i e; cases e; exact T.E_NoRows
  · rename_i e; cases e; exact T.E_NoText
  · cases h
theorem sub_ReachError_h (T : Txt w K mg C A fd) : ∀ y b, sub_ReachError y = some b → PySem.W.exmOne K (.ref (C y)) (.ref (C 0)) = some b := by
  intro y b h
  unfold sub_ReachError at h
  split at h <;> cases h
  · exact T.e_ReachError_ReachError
  · exact T.e_NoRows_ReachError
  · exact T.e_NoText_ReachError
theorem fk_number_h (T : Txt w K mg C A fd) : ∀ c, fk_number c = true → XfC K (C c) ∧ PySem.W.findIn K (.ref (C c)) "number" = some none := by
  intro c h
  unfold fk_number at h
  split at h
  · exact T.X_NoRows_number
  · exact T.X_NoText_number
  · cases h
theorem init_NoText (T : Txt w K mg C A fd) : FnOk P w K mg base (L2.CX P w) 1 (A 902) (fd 902) ["self", "number"] (spI K (C 2) ["number"]) :=
  init1_ok T.fi_NoText sci_NoText T.t_NoText fun cdv Ar outer s H E => pss_cons (ps_expr (pe_ownInit rfl T.k_ReachError T.bc_ReachError (pa_cons (pvx 0) (pa_cons pe_str pa_nil)))) (pss_one (ps_ost (pvx 0) (pvx 1)))
theorem ok_is_whole (T : Txt w K mg C A fd) : FnOk P w K mg base (L2.CX P w) 1 (A 0) (fd 0) ["thing"] (spOf K C 1 g_is_whole) :=
  fn_ev T.f_is_whole sc_is_whole fun cdv Ar outer s H E hr tk po =>
    (es_one (s_ret (ee_and (ee_isi (ee_var 0) rfl T.z_isinstance rfl T.z_int (by decide +kernel)) (ee_one (ee_not (ee_isi (ee_var 0) rfl T.z_isinstance rfl T.z_bool (by decide +kernel)))))))
theorem ok_is_rights (T : Txt w K mg C A fd) : FnOk P w K mg base (L2.CX P w) 1 (A 1) (fd 1) ["thing"] (spOf K C 1 g_is_rights) :=
  fn_ev T.f_is_rights sc_is_rights fun cdv Ar outer s H E hr tk po =>
    (es_one (s_ret (ee_and (ee_isi (ee_var 0) rfl T.z_isinstance rfl T.z_str (by decide +kernel)) (ee_one (ee_cmp (eqD_ok hr.units) (ee_var 0) (ee_mth F.plainAttrs_str F.slot_str_join F.type_str_join joinD_ok ee_str (ea_cons (ee_lc frzL_ok rfl sc_is_rights.nd (ei_seq (ee_gS T.c_RIGHTS)) (blkOk_by (N := ["thing", "right"]) (sc := defScope s_is_rights) (own := [("right", 1)]) (by first | decide +kernel | rfl)) rfl (by decide) (fun _ _ _ _ _ => (g_nm 1 sc_is_rights.nd)) (fun _ _ _ _ _ => (et_if1 (et_cmp (inD_ok hr.units) (ee_var 1) (ee_var 0) (by rfl)))) (fun _ _ _ _ _ => (ee_var 1))) ea_nil)) (nomark _))))))
theorem ok_is_from (T : Txt w K mg C A fd) : FnOk P w K mg base (L2.CX P w) 2 (A 2) (fd 2) ["thing", "low", "high"] (spOf K C 3 g_is_from) :=
  fn_ev T.f_is_from sc_is_from fun cdv Ar outer s H E hr tk po =>
    (es_one (s_ret (ee_and (ee_callC (Cal.ok (ok_is_whole T) (hr.mono (by decide))) rfl T.g_is_whole T.f_is_whole.kp T.b_is_whole tk (ea_cons (ee_var 0) ea_nil) (al_cons al_nil)) (ee_one (ee_chain (ee_var 1) (ch_link leD_ok (ee_var 0) (ch_last leD_ok (ee_var 2))))))))
theorem ok_is_by (T : Txt w K mg C A fd) : FnOk P w K mg base (L2.CX P w) 3 (A 3) (fd 3) ["thing"] (spOf K C 1 g_is_by) :=
  fn_ev T.f_is_by sc_is_by fun cdv Ar outer s H E hr tk po =>
    (es_cons (s_if (PW.pt (et_or (et_not (et_val (ee_isi (ee_var 0) rfl T.z_isinstance rfl T.z_tuple (by decide +kernel)))) (et_or (et_cmp (neD_ok hr.units) (ee_callB lenD_ok rfl T.z_len (by decide +kernel) (ea_cons (ee_var 0) ea_nil)) ee_int (nomark _)) (et_or1 (et_not (et_val (ee_isi (ee_ix (ee_var 0) ee_int) rfl T.z_isinstance rfl T.z_str (by decide +kernel))))))))
    (es_one (s_ret ee_bl))
    es_nil)
    (es_cons (s_if (et_cmp (eqD_ok hr.units) (ee_ix (ee_var 0) ee_int) ee_str (nomark _))
    (es_one (s_ret (ee_callC (Cal.ok (ok_is_from T) (hr.mono (by decide))) rfl T.g_is_from T.f_is_from.kp T.b_is_from tk (ea_cons (ee_ix (ee_var 0) ee_int) (ea_cons ee_int (ea_cons (ee_op subD_ok (ee_gI T.c_BOXES) ee_int) ea_nil))) (al_cons (al_cons (al_cons al_nil))))))
    es_nil)
    (es_one (s_ret (ee_and (ee_cmp (eqD_ok hr.units) (ee_ix (ee_var 0) ee_int) ee_str (nomark _)) (ee_one (ee_callC (Cal.ok (ok_is_from T) (hr.mono (by decide))) rfl T.g_is_from T.f_is_from.kp T.b_is_from tk (ea_cons (ee_ix (ee_var 0) ee_int) (ea_cons ee_int (ea_cons (ee_gI T.c_MOST_WORTH) ea_nil))) (al_cons (al_cons (al_cons al_nil))))))))))
theorem ok_is_one_of (T : Txt w K mg C A fd) : FnOk P w K mg base (L2.CX P w) 1 (A 4) (fd 4) ["thing", "words"] (spOf K C 2 g_is_one_of) :=
  fn_ev T.f_is_one_of sc_is_one_of fun cdv Ar outer s H E hr tk po =>
    (es_one (s_ret (ee_and (ee_isi (ee_var 0) rfl T.z_isinstance rfl T.z_str (by decide +kernel)) (ee_one (ee_cmp (inD_ok hr.units) (ee_var 0) (ee_var 1) (by rfl))))))
theorem ok_is_sort (T : Txt w K mg C A fd) : FnOk P w K mg base (L2.CX P w) 4 (A 5) (fd 5) ["sort", "thing"] (spOf K C 2 g_is_sort) :=
  fn_ev T.f_is_sort sc_is_sort fun cdv Ar outer s H E hr tk po =>
    (es_cons (s_if (et_cmp (eqD_ok hr.units) (ee_var 0) ee_str (nomark _))
    (es_one (s_ret (ee_callC (Cal.ok (ok_is_from T) (hr.mono (by decide))) rfl T.g_is_from T.f_is_from.kp T.b_is_from tk (ea_cons (ee_var 1) (ea_cons ee_int (ea_cons (ee_op subD_ok (ee_gI T.c_BOXES) ee_int) ea_nil))) (al_cons (al_cons (al_cons al_nil))))))
    es_nil)
    (es_cons (s_if (et_cmp (eqD_ok hr.units) (ee_var 0) ee_str (nomark _))
    (es_one (s_ret (ee_callC (Cal.ok (ok_is_from T) (hr.mono (by decide))) rfl T.g_is_from T.f_is_from.kp T.b_is_from tk (ea_cons (ee_var 1) (ea_cons ee_int (ea_cons (ee_gI T.c_MOST_WORTH) ea_nil))) (al_cons (al_cons (al_cons al_nil))))))
    es_nil)
    (es_cons (s_if (et_cmp (eqD_ok hr.units) (ee_var 0) ee_str (nomark _))
    (es_one (s_ret (ee_callC (Cal.ok (ok_is_from T) (hr.mono (by decide))) rfl T.g_is_from T.f_is_from.kp T.b_is_from tk (ea_cons (ee_var 1) (ea_cons (ee_gI T.c_LEAST_OFFSET) (ea_cons (ee_gI T.c_MOST_OFFSET) ea_nil))) (al_cons (al_cons (al_cons al_nil))))))
    es_nil)
    (es_cons (s_if (et_cmp (eqD_ok hr.units) (ee_var 0) ee_str (nomark _))
    (es_one (s_ret (ee_callC (Cal.ok (ok_is_from T) (hr.mono (by decide))) rfl T.g_is_from T.f_is_from.kp T.b_is_from tk (ea_cons (ee_var 1) (ea_cons ee_int (ea_cons (ee_op subD_ok (ee_gI T.c_CELLS) ee_int) ea_nil))) (al_cons (al_cons (al_cons al_nil))))))
    es_nil)
    (es_cons (s_if (et_cmp (eqD_ok hr.units) (ee_var 0) ee_str (nomark _))
    (es_one (s_ret (ee_callC (Cal.ok (ok_is_by T) (hr.mono (by decide))) rfl T.g_is_by T.f_is_by.kp T.b_is_by tk (ea_cons (ee_var 1) ea_nil) (al_cons al_nil))))
    es_nil)
    (es_cons (s_if (et_cmp (eqD_ok hr.units) (ee_var 0) ee_str (nomark _))
    (es_one (s_ret (ee_callC (Cal.ok (ok_is_rights T) (hr.mono (by decide))) rfl T.g_is_rights T.f_is_rights.kp T.b_is_rights tk (ea_cons (ee_var 1) ea_nil) (al_cons al_nil))))
    es_nil)
    (es_one (s_ret (ee_callC (Cal.ok (ok_is_one_of T) (hr.mono (by decide))) rfl T.g_is_one_of T.f_is_one_of.kp T.b_is_one_of tk (ea_cons (ee_var 1) (ea_cons (ee_dix hr.units (ee_dispF (pp_cons ee_str (ee_gT (xs := ["plus", "minus", "times", "and", "or", "either"]) T.c_DEEDS) (pp_cons ee_str (ee_gT (xs := ["same", "unlike", "under", "from"]) T.c_ASKS) (pp_cons ee_str (ee_gT (xs := ["mark", "bits", "at", "low", "high", "rights", "kind"]) T.c_WHATS) pp_nil)))) (ee_var 0)) ea_nil)) (al_cons (al_cons al_nil)))))))))))
theorem ok_is_row (T : Txt w K mg C A fd) : FnOk P w K mg base (L2.CX P w) 5 (A 6) (fd 6) ["thing"] (spOf K C 1 g_is_row) :=
  fn_ev T.f_is_row sc_is_row fun cdv Ar outer s H E hr tk po =>
    (es_cons (s_if (PW.pt (et_or (et_not (et_val (ee_isi (ee_var 0) rfl T.z_isinstance rfl T.z_tuple (by decide +kernel)))) (et_or (et_cmp (eqD_ok hr.units) (ee_var 0) (ee_tup ea_nil al_nil) (nomark _)) (et_or1 (et_not (et_val (ee_callC (Cal.ok (ok_is_one_of T) (hr.mono (by decide))) rfl T.g_is_one_of T.f_is_one_of.kp T.b_is_one_of tk (ea_cons (ee_ix (ee_var 0) ee_int) (ea_cons (ee_klist (kvs := kd_FORMS) rfl T.c_FORMS (by rfl) T.z_list) ea_nil)) (al_cons (al_cons al_nil)))))))))
    (es_one (s_ret ee_bl))
    es_nil)
    (es_cons (s_set 1 sc_is_row.nd (ee_kix T.c_FORMS (ee_ix (ee_var 0) ee_int)))
    (es_one (s_ret (ee_and (ee_cmp (eqD_ok hr.units) (ee_callB lenD_ok rfl T.z_len (by decide +kernel) (ea_cons (ee_var 0) ea_nil)) (ee_op addD_ok (ee_callB lenD_ok rfl T.z_len (by decide +kernel) (ea_cons (ee_var 1) ea_nil)) ee_int) (nomark _)) (ee_one (ee_callB (allD_ok rfl) rfl T.z_all (by decide +kernel) (ea_cons (ee_lc frzL_ok rfl sc_is_row.nd (ei_zip rfl T.z_zip (ea_cons (ee_var 1) (ea_cons (ee_sl (ee_var 0) (eo_some ee_int) eo_none) ea_nil))) (blkOk_by (N := ["thing", "sorts", "sort", "one"]) (sc := defScope s_is_row) (own := [("sort", 2), ("one", 3)]) (by first | decide +kernel | rfl)) rfl (by decide) (fun _ _ _ _ _ => (g_tp rfl (gs_cons 2 sc_is_row.nd (gs_cons 3 sc_is_row.nd gs_nil)))) (fun _ _ _ _ _ => et_yes) (fun _ _ _ _ _ => (ee_callC (Cal.ok (ok_is_sort T) (hr.mono (by decide))) rfl T.g_is_sort T.f_is_sort.kp T.b_is_sort takes0 (ea_cons (ee_var 2) (ea_cons (ee_var 3) ea_nil)) (al_cons (al_cons al_nil))))) ea_nil))))))))
theorem ok_figures_in (T : Txt w K mg C A fd) : FnOk P w K mg base (L2.CX P w) 1 (A 7) (fd 7) ["word", "most"] (spOf K C 2 g_figures_in) :=
  fn_ev T.f_figures_in sc_figures_in fun cdv Ar outer s H E hr tk po =>
    (es_cons (s_if (PW.pt (et_or (et_not (et_chain ee_int (ch_link leD_ok (ee_callB lenD_ok rfl T.z_len (by decide +kernel) (ea_cons (ee_var 0) ea_nil)) (ch_last leD_ok (ee_var 1))))) (et_or1 (et_not (et_val (ee_callB (allD_ok rfl) rfl T.z_all (by decide +kernel) (ea_cons (ee_lc frzL_ok rfl sc_figures_in.nd (ei_seq (ee_var 0)) (blkOk_by (N := ["word", "most", "sign"]) (sc := defScope s_figures_in) (own := [("sign", 2)]) (by first | decide +kernel | rfl)) rfl (by decide) (fun _ _ _ _ _ => (g_nm 2 sc_figures_in.nd)) (fun _ _ _ _ _ => et_yes) (fun _ _ _ _ _ => (ee_cmp (inD_ok hr.units) (ee_var 2) (ee_gS T.c_FIGURES) (by rfl)))) ea_nil)))))))
    (es_one (s_ret ee_non))
    es_nil)
    (es_one (s_ret (ee_if (PW.pt (et_and (et_cmp gtD_ok (ee_callB lenD_ok rfl T.z_len (by decide +kernel) (ea_cons (ee_var 0) ea_nil)) ee_int (nomark _)) (et_and1 (et_val (ee_mth F.plainAttrs_str F.slot_str_startswith F.type_str_startswith startsS_ok (ee_var 0) (ea_cons ee_str ea_nil)))))) ee_non (ee_callTy intT_ok rfl T.z_int (by decide +kernel) (ea_cons (ee_var 0) ea_nil))))))
theorem ok_number_in (T : Txt w K mg C A fd) : FnOk P w K mg base (L2.CX P w) 2 (A 8) (fd 8) ["word"] (spOf K C 1 g_number_in) :=
  fn_ev T.f_number_in sc_number_in fun cdv Ar outer s H E hr tk po =>
    (es_cons (s_if (et_not (et_val (ee_mth F.plainAttrs_str F.slot_str_startswith F.type_str_startswith startsS_ok (ee_var 0) (ea_cons ee_str ea_nil))))
    (es_one (s_ret (ee_callC (Cal.ok (ok_figures_in T) (hr.mono (by decide))) rfl T.g_figures_in T.f_figures_in.kp T.b_figures_in tk (ea_cons (ee_var 0) (ea_cons ee_int ea_nil)) (al_cons (al_cons al_nil)))))
    es_nil)
    (es_cons (s_set 1 sc_number_in.nd (ee_callC (Cal.ok (ok_figures_in T) (hr.mono (by decide))) rfl T.g_figures_in T.f_figures_in.kp T.b_figures_in tk (ea_cons (ee_sl (ee_var 0) (eo_some ee_int) eo_none) (ea_cons ee_int ea_nil)) (al_cons (al_cons al_nil))))
    (es_one (s_ret (ee_if (PW.pt (et_or (et_cmp isN_ok (ee_var 1) ee_non (nomark _)) (et_or1 (et_cmp (eqD_ok hr.units) (ee_var 1) ee_int (nomark _))))) ee_non (ee_op subD_ok ee_int (ee_var 1)))))))
theorem ok_thing_in (T : Txt w K mg C A fd) : FnOk P w K mg base (L2.CX P w) 3 (A 9) (fd 9) ["sort", "word"] (spOf K C 2 g_thing_in) :=
  fn_ev T.f_thing_in sc_thing_in fun cdv Ar outer s H E hr tk po =>
    (es_cons (s_if (et_cmp (inD_ok hr.units) (ee_var 0) ee_str (by rfl))
    (es_one (s_ret (ee_var 1)))
    es_nil)
    (es_cons (s_if (et_cmp (eqD_ok hr.units) (ee_var 0) ee_str (nomark _))
    (es_one (s_ret (ee_if (et_cmp (eqD_ok hr.units) (ee_var 1) ee_str (nomark _)) ee_non (ee_if (et_cmp (eqD_ok hr.units) (ee_var 1) ee_str (nomark _)) ee_str (ee_var 1)))))
    es_nil)
    (es_cons (s_if (et_cmp (eqD_ok hr.units) (ee_var 0) ee_str (nomark _))
    (es_cons (s_set 2 sc_thing_in.nd (ee_callC (Cal.ok (ok_number_in T) (hr.mono (by decide))) rfl T.g_number_in T.f_number_in.kp T.b_number_in tk (ea_cons (ee_if (et_val (ee_mth F.plainAttrs_str F.slot_str_startswith F.type_str_startswith startsS_ok (ee_var 1) (ea_cons ee_str ea_nil))) (ee_sl (ee_var 1) (eo_some ee_int) eo_none) (ee_var 1)) ea_nil) (al_cons al_nil)))
    (es_one (s_ret (ee_tup (ea_cons (ee_if (et_val (ee_mth F.plainAttrs_str F.slot_str_startswith F.type_str_startswith startsS_ok (ee_var 1) (ea_cons ee_str ea_nil))) ee_str ee_str) (ea_cons (ee_var 2) ea_nil)) (al_cons (al_cons al_nil))))))
    es_nil)
    (es_one (s_ret (ee_callC (Cal.ok (ok_number_in T) (hr.mono (by decide))) rfl T.g_number_in T.f_number_in.kp T.b_number_in tk (ea_cons (ee_var 1) ea_nil) (al_cons al_nil)))))))
theorem ok_row_in (T : Txt w K mg C A fd) : FnOk P w K mg base (L2.CX P w) 6 (A 10) (fd 10) ["line"] (spOf K C 1 g_row_in) :=
  fn_ev T.f_row_in sc_row_in fun cdv Ar outer s H E hr tk po =>
    (es_cons (s_set 1 sc_row_in.nd (ee_mth F.plainAttrs_str F.slot_str_split F.type_str_split splitS_ok (ee_var 0) (ea_cons ee_str ea_nil)))
    (es_cons (s_if (et_cmp (inD_ok hr.units) (ee_ix (ee_var 1) ee_int) (ee_gT (xs := ["plus", "minus", "times", "and", "or", "either"]) T.c_DEEDS) (by rfl))
    (es_one (s_set 1 sc_row_in.nd (ee_op addD_ok (ee_lst (ea_cons ee_str ea_nil) (al_cons al_nil)) (ee_var 1))))
    (es_one (s_if (et_cmp (eqD_ok hr.units) (ee_ix (ee_var 1) ee_int) ee_str (nomark _))
    (es_one (s_ret ee_non))
    es_nil)))
    (es_cons (s_set 2 sc_row_in.nd (ee_kget T.c_FORMS (ee_ix (ee_var 1) ee_int)))
    (es_cons (s_if (PW.pt (et_or (et_cmp isN_ok (ee_var 2) ee_non (nomark _)) (et_or1 (et_cmp (neD_ok hr.units) (ee_callB lenD_ok rfl T.z_len (by decide +kernel) (ea_cons (ee_var 1) ea_nil)) (ee_op addD_ok (ee_callB lenD_ok rfl T.z_len (by decide +kernel) (ea_cons (ee_var 2) ea_nil)) ee_int) (nomark _)))))
    (es_one (s_ret ee_non))
    es_nil)
    (es_cons (s_set 3 sc_row_in.nd (ee_op addD_ok (ee_tup (ea_cons (ee_ix (ee_var 1) ee_int) ea_nil) (al_cons al_nil)) (ee_callTy (tupleT_ok rfl) rfl T.z_tuple (by decide +kernel) (ea_cons (ee_lc frzL_ok rfl sc_row_in.nd (ei_zip rfl T.z_zip (ea_cons (ee_var 2) (ea_cons (ee_sl (ee_var 1) (eo_some ee_int) eo_none) ea_nil))) (blkOk_by (N := ["line", "words", "sorts", "row", "sort", "word"]) (sc := defScope s_row_in) (own := [("sort", 4), ("word", 5)]) (by first | decide +kernel | rfl)) rfl (by decide) (fun _ _ _ _ _ => (g_tp rfl (gs_cons 4 sc_row_in.nd (gs_cons 5 sc_row_in.nd gs_nil)))) (fun _ _ _ _ _ => et_yes) (fun _ _ _ _ _ => (ee_callC (Cal.ok (ok_thing_in T) (hr.mono (by decide))) rfl T.g_thing_in T.f_thing_in.kp T.b_thing_in takes0 (ea_cons (ee_var 4) (ea_cons (ee_var 5) ea_nil)) (al_cons (al_cons al_nil))))) ea_nil))))
    (es_one (s_ret (ee_if (et_val (ee_callC (Cal.ok (ok_is_row T) (hr.mono (by decide))) rfl T.g_is_row T.f_is_row.kp T.b_is_row tk (ea_cons (ee_var 3) ea_nil) (al_cons al_nil))) (ee_var 3) ee_non))))))))
theorem okf_read_rows (T : Txt w K mg C A fd) : FnOk P w K mg base (L2.CX P w) 7 (A 11) (fd 11) ["text"] (spOf K C 1 gf_read_rows) :=
  fn_ev T.f_read_rows sc_read_rows fun cdv Ar outer s H E hr tk po =>
    (es_cons (s_if (et_not (et_val (ee_isi (ee_var 0) rfl T.z_isinstance rfl T.z_str (by decide +kernel))))
    (es_one (s_raiseF cl_NoText rfl tk T.t_NoText (init_NoText T) (hr.mono (by decide)) T.bi_NoText (by decide) T.k_NoText rfl (ea_cons ee_non ea_nil)))
    es_nil)
    (es_cons (s_set 1 sc_read_rows.nd (ee_lstM ea_nil al_nil))
    (es_cons (s_for po rfl (ei_enum rfl T.z_enumerate (ea_cons (ee_mth F.plainAttrs_str F.slot_str_split F.type_str_split splitS_ok (ee_var 0) (ea_cons ee_str ea_nil)) ea_nil)) (g_tp rfl (gs_cons 2 sc_read_rows.nd (gs_cons 3 sc_read_rows.nd gs_nil)))
    (es_cons (s_set 4 sc_read_rows.nd (ee_callC (Cal.ok (ok_row_in T) (hr.mono (by decide))) rfl T.g_row_in T.f_row_in.kp T.b_row_in tk (ea_cons (ee_var 3) ea_nil) (al_cons al_nil)))
    (es_cons (s_if (et_cmp isN_ok (ee_var 4) ee_non (nomark _))
    (es_one (s_raiseF cl_NoText rfl tk T.t_NoText (init_NoText T) (hr.mono (by decide)) T.bi_NoText (by decide) T.k_NoText rfl (ea_cons (ee_var 2) ea_nil)))
    es_nil)
    (es_one (s_exp (ee_mth F.plainAttrs_list F.slot_list_append F.type_list_append appendL_ok (ee_var 1) (ea_cons (ee_var 4) ea_nil)))))))
    (es_cons (s_if (et_cmp gtD_ok (ee_callB lenD_ok rfl T.z_len (by decide +kernel) (ea_cons (ee_var 1) ea_nil)) (ee_gI T.c_MOST_ROWS) (nomark _))
    (es_one (s_raiseF cl_NoText rfl tk T.t_NoText (init_NoText T) (hr.mono (by decide)) T.bi_NoText (by decide) T.k_NoText rfl (ea_cons ee_non ea_nil)))
    es_nil)
    (es_one (s_ret (ee_var 1)))))))
theorem ok_read_rows (T : Txt w K mg C A fd) : FnOk P w K mg base (L2.CX P w) 7 (A 11) (fd 11) ["text"] (spOf K C 1 g_read_rows) := fn_frz (okf_read_rows T)
theorem ok_law_pool (T : Txt w K mg C A fd) : FnOk P w K mg base (L2.CX P w) 1 (A 12) (fd 12) ["_law_script", "_law_k"] (spOf K C 2 g_law_pool) :=
  fn_ev T.f_law_pool sc_law_pool fun cdv Ar outer s H E hr tk po =>
    (es_cons (s_set 2 sc_law_pool.nd (ee_op addD_ok (ee_op mulD_ok ee_int (ee_callB (sumD_ok rfl) rfl T.z_sum (by decide +kernel) (ea_cons (ee_sl (ee_var 0) eo_none (eo_some ee_int)) ea_nil))) (ee_var 1)))
    (es_cons (s_if (et_cmp ltD_ok (ee_var 1) (ee_callB lenD_ok rfl T.z_len (by decide +kernel) (ea_cons (ee_var 0) ea_nil)) (nomark _))
    (es_one (s_set 2 sc_law_pool.nd (ee_ix (ee_var 0) (ee_var 1))))
    es_nil)
    (es_cons (s_set 3 sc_law_pool.nd (ee_callB absD_ok rfl T.z_abs (by decide +kernel) (ea_cons (ee_var 2) ea_nil)))
    (es_cons (s_set 4 sc_law_pool.nd (ee_op modD_ok (ee_op mulD_ok (ee_op addD_ok (ee_op addD_ok (ee_op addD_ok (ee_op modD_ok (ee_var 3) ee_int) (ee_op mulD_ok (ee_op mulD_ok ee_int (ee_var 1)) (ee_var 1))) (ee_op mulD_ok ee_int (ee_var 1))) ee_int) ee_int) ee_int))
    (es_one (s_ret (ee_lstM (ea_cons (ee_op mulD_ok (ee_var 3) (ee_callTy intD_ok rfl T.z_int (by decide +kernel) (ea_cons (ee_cmp geD_ok (ee_var 3) (ee_op powD_ok ee_int ee_int) (nomark _)) ea_nil))) (ea_cons (ee_op modD_ok (ee_op mulD_ok (ee_var 4) (ee_var 4)) ee_int) ea_nil)) (al_cons (al_cons al_nil)))))))))
theorem ok_law_take (T : Txt w K mg C A fd) : FnOk P w K mg base (L2.CX P w) 1 (A 13) (fd 13) ["_law_pool_here", "_law_many"] (spOf K C 2 g_law_take) :=
  fn_ev T.f_law_take sc_law_take fun cdv Ar outer s H E hr tk po =>
    (es_cons (s_if (et_cmp gtD_ok (ee_ix (ee_var 0) ee_int) ee_int (nomark _))
    (es_cons (s_set 2 sc_law_take.nd (ee_op modD_ok (ee_ix (ee_var 0) ee_int) (ee_var 1)))
    (es_cons (s_putIx (ee_op divD_ok (ee_ix (ee_var 0) ee_int) (ee_var 1)) (ee_var 0) ee_int)
    (es_one (s_ret (ee_var 2)))))
    es_nil)
    (es_cons (s_putIx (ee_op modD_ok (ee_op addD_ok (ee_op mulD_ok (ee_ix (ee_var 0) ee_int) ee_int) ee_int) ee_int) (ee_var 0) ee_int)
    (es_one (s_ret (ee_op modD_ok (ee_op divD_ok (ee_op modD_ok (ee_op mulD_ok (ee_ix (ee_var 0) ee_int) (ee_ix (ee_var 0) ee_int)) ee_int) ee_int) (ee_var 1))))))
theorem okf_law_forms (T : Txt w K mg C A fd) : FnOk P w K mg base (L2.CX P w) 1 (A 14) (fd 14) [] (spOf K C 0 gf_law_forms) :=
  fn_ev T.f_law_forms sc_law_forms fun cdv Ar outer s H E hr tk po =>
    (es_cons (s_set 0 sc_law_forms.nd (ee_dispM (pp_cons ee_str ee_str (pp_cons ee_str ee_str (pp_cons ee_str ee_str (pp_cons ee_str ee_str (pp_cons ee_str ee_str (pp_cons ee_str ee_str (pp_cons ee_str ee_str pp_nil)))))))))
    (es_cons (s_exp (ee_mth F.plainAttrs_dict F.slot_dict_update F.type_dict_update updDM_ok (ee_var 0) (ea_cons (ee_dispF (pp_cons ee_str ee_str (pp_cons ee_str ee_str (pp_cons ee_str ee_str (pp_cons ee_str ee_str (pp_cons ee_str ee_str (pp_cons ee_str ee_str (pp_cons ee_str ee_str pp_nil)))))))) ea_nil)))
    (es_cons (s_exp (ee_mth F.plainAttrs_dict F.slot_dict_update F.type_dict_update updDM_ok (ee_var 0) (ea_cons (ee_dispF (pp_cons ee_str ee_str (pp_cons ee_str ee_str (pp_cons ee_str ee_str (pp_cons ee_str ee_str (pp_cons ee_str ee_str (pp_cons ee_str ee_str (pp_cons ee_str ee_str pp_nil)))))))) ea_nil)))
    (es_cons (s_putD hr.units ee_str (ee_var 0) ee_str)
    (es_one (s_ret (ee_var 0)))))))
theorem ok_law_forms (T : Txt w K mg C A fd) : FnOk P w K mg base (L2.CX P w) 1 (A 14) (fd 14) [] (spOf K C 0 g_law_forms) := fn_frz (okf_law_forms T)
theorem ok_law_lists (T : Txt w K mg C A fd) : FnOk P w K mg base (L2.CX P w) 1 (A 15) (fd 15) ["_law_sort"] (spOf K C 1 g_law_lists) :=
  fn_ev T.f_law_lists sc_law_lists fun cdv Ar outer s H E hr tk po =>
    (es_cons (s_if (et_cmp (eqD_ok hr.units) (ee_var 0) ee_str (nomark _))
    (es_one (s_ret (ee_lst (ea_cons ee_str (ea_cons ee_str (ea_cons ee_str (ea_cons ee_str (ea_cons ee_str (ea_cons ee_str ea_nil)))))) (al_cons (al_cons (al_cons (al_cons (al_cons (al_cons al_nil)))))))))
    es_nil)
    (es_cons (s_if (et_cmp (eqD_ok hr.units) (ee_var 0) ee_str (nomark _))
    (es_one (s_ret (ee_lst (ea_cons ee_str (ea_cons ee_str (ea_cons ee_str (ea_cons ee_str ea_nil)))) (al_cons (al_cons (al_cons (al_cons al_nil)))))))
    es_nil)
    (es_one (s_ret (ee_lst (ea_cons ee_str (ea_cons ee_str (ea_cons ee_str (ea_cons ee_str (ea_cons ee_str (ea_cons ee_str (ea_cons ee_str ea_nil))))))) (al_cons (al_cons (al_cons (al_cons (al_cons (al_cons (al_cons al_nil))))))))))))
theorem okr_law_part (T : Txt w K mg C A fd) {gr : List D → Store → Res D} {k : Nat} (hk : 1 ≤ k) (FR : FnOk P w K mg base (L2.CX P w) k (A 16) (fd 16) ["_law_pool_here", "_law_sort"] (spOf K C 2 gr)) : FnOk P w K mg base (L2.CX P w) (k + 1) (A 16) (fd 16) ["_law_pool_here", "_law_sort"] (spOf K C 2 (runDef 4 (m_law_part gr))) :=
  fn_ev T.f_law_part sc_law_part fun cdv Ar outer s H E hr tk po =>
    (es_cons (s_if (et_cmp (eqD_ok hr.units) (ee_var 1) ee_str (nomark _))
    (es_one (s_ret (ee_callC (Cal.ok (ok_law_take T) (hr.mono (by omega))) rfl T.g_law_take T.f_law_take.kp T.b_law_take tk (ea_cons (ee_var 0) (ea_cons ee_int ea_nil)) (al_cons (al_cons al_nil)))))
    es_nil)
    (es_cons (s_if (et_cmp (eqD_ok hr.units) (ee_var 1) ee_str (nomark _))
    (es_one (s_ret (ee_ix (ee_lst (ea_cons (ee_callC (Cal.ok (ok_law_take T) (hr.mono (by omega))) rfl T.g_law_take T.f_law_take.kp T.b_law_take tk (ea_cons (ee_var 0) (ea_cons ee_int ea_nil)) (al_cons (al_cons al_nil))) (ea_cons (ee_callC (Cal.ok (ok_law_take T) (hr.mono (by omega))) rfl T.g_law_take T.f_law_take.kp T.b_law_take tk (ea_cons (ee_var 0) (ea_cons ee_int ea_nil)) (al_cons (al_cons al_nil))) (ea_cons ee_int ea_nil))) (al_cons (al_cons (al_cons al_nil)))) (ee_callC (Cal.ok (ok_law_take T) (hr.mono (by omega))) rfl T.g_law_take T.f_law_take.kp T.b_law_take tk (ea_cons (ee_var 0) (ea_cons ee_int ea_nil)) (al_cons (al_cons al_nil))))))
    es_nil)
    (es_cons (s_if (et_cmp (eqD_ok hr.units) (ee_var 1) ee_str (nomark _))
    (es_one (s_ret (ee_op subD_ok (ee_callC (Cal.ok (ok_law_take T) (hr.mono (by omega))) rfl T.g_law_take T.f_law_take.kp T.b_law_take tk (ea_cons (ee_var 0) (ea_cons ee_int ea_nil)) (al_cons (al_cons al_nil))) ee_int)))
    es_nil)
    (es_cons (s_if (et_cmp (eqD_ok hr.units) (ee_var 1) ee_str (nomark _))
    (es_one (s_ret (ee_ix (ee_lst (ea_cons (ee_callC (Cal.ok (ok_law_take T) (hr.mono (by omega))) rfl T.g_law_take T.f_law_take.kp T.b_law_take tk (ea_cons (ee_var 0) (ea_cons ee_int ea_nil)) (al_cons (al_cons al_nil))) (ea_cons (ee_callC (Cal.ok (ok_law_take T) (hr.mono (by omega))) rfl T.g_law_take T.f_law_take.kp T.b_law_take tk (ea_cons (ee_var 0) (ea_cons ee_int ea_nil)) (al_cons (al_cons al_nil))) (ea_cons ee_int ea_nil))) (al_cons (al_cons (al_cons al_nil)))) (ee_callC (Cal.ok (ok_law_take T) (hr.mono (by omega))) rfl T.g_law_take T.f_law_take.kp T.b_law_take tk (ea_cons (ee_var 0) (ea_cons ee_int ea_nil)) (al_cons (al_cons al_nil))))))
    es_nil)
    (es_cons (s_if (et_cmp (eqD_ok hr.units) (ee_var 1) ee_str (nomark _))
    (es_one (s_ret (ee_ix (ee_lst (ea_cons (ee_tup (ea_cons ee_str (ea_cons (ee_callC (Cal.ok (ok_law_take T) (hr.mono (by omega))) rfl T.g_law_take T.f_law_take.kp T.b_law_take tk (ea_cons (ee_var 0) (ea_cons ee_int ea_nil)) (al_cons (al_cons al_nil))) ea_nil)) (al_cons (al_cons al_nil))) (ea_cons (ee_tup (ea_cons ee_str (ea_cons (ee_callC (Cal.ok FR hr) rfl T.g_law_part T.f_law_part.kp T.b_law_part tk (ea_cons (ee_var 0) (ea_cons ee_str ea_nil)) (al_cons (al_cons al_nil))) ea_nil)) (al_cons (al_cons al_nil))) ea_nil)) (al_cons (al_cons al_nil))) (ee_callC (Cal.ok (ok_law_take T) (hr.mono (by omega))) rfl T.g_law_take T.f_law_take.kp T.b_law_take tk (ea_cons (ee_var 0) (ea_cons ee_int ea_nil)) (al_cons (al_cons al_nil))))))
    es_nil)
    (es_cons (s_if (et_cmp (eqD_ok hr.units) (ee_var 1) ee_str (nomark _))
    (es_one (s_ret (ee_mth F.plainAttrs_str F.slot_str_join F.type_str_join joinD_ok ee_str (ea_cons (ee_lc frzL_ok rfl sc_law_part.nd (ei_seq ee_str) (blkOk_by (N := ["_law_pool_here", "_law_sort", "_law_sign", "_law_some"]) (sc := defScope s_law_part) (own := [("_law_sign", 2)]) (by first | decide +kernel | rfl)) rfl (by decide) (fun _ _ _ _ _ => (g_nm 2 sc_law_part.nd)) (fun _ _ _ _ _ => (et_if1 (et_cmp (eqD_ok hr.units) (ee_callC (Cal.ok (ok_law_take T) (hr.mono (by omega))) rfl T.g_law_take T.f_law_take.kp T.b_law_take takes0 (ea_cons (ee_var 0) (ea_cons ee_int ea_nil)) (al_cons (al_cons al_nil))) ee_int (nomark _)))) (fun _ _ _ _ _ => (ee_var 2))) ea_nil))))
    es_nil)
    (es_cons (s_set 3 sc_law_part.nd (ee_callC (Cal.ok (ok_law_lists T) (hr.mono (by omega))) rfl T.g_law_lists T.f_law_lists.kp T.b_law_lists tk (ea_cons (ee_var 1) ea_nil) (al_cons al_nil)))
    (es_one (s_ret (ee_ix (ee_var 3) (ee_callC (Cal.ok (ok_law_take T) (hr.mono (by omega))) rfl T.g_law_take T.f_law_take.kp T.b_law_take tk (ea_cons (ee_var 0) (ea_cons (ee_callB lenD_ok rfl T.z_len (by decide +kernel) (ea_cons (ee_var 3) ea_nil)) ea_nil)) (al_cons (al_cons al_nil)))))))))))))
theorem ok_law_part (T : Txt w K mg C A fd) : FnOk P w K mg base (L2.CX P w) 3 (A 16) (fd 16) ["_law_pool_here", "_law_sort"] (spOf K C 2 g_law_part) := okr_law_part T (k := 2) (by decide) (okr_law_part T (k := 1) (by decide) fn_bad)
theorem ok_law_row (T : Txt w K mg C A fd) : FnOk P w K mg base (L2.CX P w) 4 (A 17) (fd 17) ["_law_pool_here"] (spOf K C 1 g_law_row) :=
  fn_ev T.f_law_row sc_law_row fun cdv Ar outer s H E hr tk po =>
    (es_cons (s_set 1 sc_law_row.nd (ee_call0 (Cal.ok (ok_law_forms T) (hr.mono (by decide))) rfl T.g_law_forms T.f_law_forms.kp T.b_law_forms tk))
    (es_cons (s_set 2 sc_law_row.nd (ee_ix (ee_callB (sortD_ok rfl) rfl T.z_sorted (by decide +kernel) (ea_cons (ee_var 1) ea_nil)) (ee_callC (Cal.ok (ok_law_take T) (hr.mono (by decide))) rfl T.g_law_take T.f_law_take.kp T.b_law_take tk (ea_cons (ee_var 0) (ea_cons (ee_callB lenK_ok rfl T.z_len (by decide +kernel) (ea_cons (ee_var 1) ea_nil)) ea_nil)) (al_cons (al_cons al_nil)))))
    (es_one (s_ret (ee_op addD_ok (ee_tup (ea_cons (ee_var 2) ea_nil) (al_cons al_nil)) (ee_callTy (tupleT_ok rfl) rfl T.z_tuple (by decide +kernel) (ea_cons (ee_lc frzL_ok rfl sc_law_row.nd (ei_seq (ee_dix hr.units (ee_var 1) (ee_var 2))) (blkOk_by (N := ["_law_pool_here", "_law_forms_here", "_law_word", "_law_sort"]) (sc := defScope s_law_row) (own := [("_law_sort", 3)]) (by first | decide +kernel | rfl)) rfl (by decide) (fun _ _ _ _ _ => (g_nm 3 sc_law_row.nd)) (fun _ _ _ _ _ => et_yes) (fun _ _ _ _ _ => (ee_callC (Cal.ok (ok_law_part T) (hr.mono (by decide))) rfl T.g_law_part T.f_law_part.kp T.b_law_part takes0 (ea_cons (ee_var 0) (ea_cons (ee_var 3) ea_nil)) (al_cons (al_cons al_nil))))) ea_nil)))))))
theorem ok_law_is_from (T : Txt w K mg C A fd) : FnOk P w K mg base (L2.CX P w) 1 (A 18) (fd 18) ["_law_thing", "_law_low", "_law_high"] (spOf K C 3 g_law_is_from) :=
  fn_ev T.f_law_is_from sc_law_is_from fun cdv Ar outer s H E hr tk po =>
    (es_one (s_ret (ee_and (ee_isi (ee_var 0) rfl T.z_isinstance rfl T.z_int (by decide +kernel)) (ee_and (ee_not (ee_isi (ee_var 0) rfl T.z_isinstance rfl T.z_bool (by decide +kernel))) (ee_one (ee_chain (ee_var 1) (ch_link leD_ok (ee_var 0) (ch_last leD_ok (ee_var 2)))))))))
theorem okr_law_is_part (T : Txt w K mg C A fd) {gr : List D → Store → Res D} {k : Nat} (hk : 1 ≤ k) (FR : FnOk P w K mg base (L2.CX P w) k (A 19) (fd 19) ["_law_sort", "_law_thing"] (spOf K C 2 gr)) : FnOk P w K mg base (L2.CX P w) (k + 1) (A 19) (fd 19) ["_law_sort", "_law_thing"] (spOf K C 2 (runDef 5 (m_law_is_part gr))) :=
  fn_ev T.f_law_is_part sc_law_is_part fun cdv Ar outer s H E hr tk po =>
    (es_cons (s_if (et_cmp (inD_ok hr.units) (ee_var 0) ee_str (by rfl))
    (es_cons (s_asg (ee_dix hr.units (ee_dispF (pp_cons ee_str (ee_tup (ea_cons ee_int (ea_cons ee_int ea_nil)) (al_cons (al_cons al_nil))) (pp_cons ee_str (ee_tup (ea_cons ee_int (ea_cons ee_int ea_nil)) (al_cons (al_cons al_nil))) (pp_cons ee_str (ee_tup (ea_cons (ee_un negD_ok ee_int) (ea_cons ee_int ea_nil)) (al_cons (al_cons al_nil))) (pp_cons ee_str (ee_tup (ea_cons ee_int (ea_cons ee_int ea_nil)) (al_cons (al_cons al_nil))) pp_nil))))) (ee_var 0)) (g_tp rfl (gs_cons 2 sc_law_is_part.nd (gs_cons 3 sc_law_is_part.nd gs_nil))))
    (es_one (s_ret (ee_callC (Cal.ok (ok_law_is_from T) (hr.mono (by omega))) rfl T.g_law_is_from T.f_law_is_from.kp T.b_law_is_from tk (ea_cons (ee_var 1) (ea_cons (ee_var 2) (ea_cons (ee_var 3) ea_nil))) (al_cons (al_cons (al_cons al_nil)))))))
    es_nil)
    (es_cons (s_if (et_cmp (eqD_ok hr.units) (ee_var 0) ee_str (nomark _))
    (es_cons (s_if (PW.pt (et_or (et_not (et_val (ee_isi (ee_var 1) rfl T.z_isinstance rfl T.z_tuple (by decide +kernel)))) (et_or (et_cmp (neD_ok hr.units) (ee_callB lenD_ok rfl T.z_len (by decide +kernel) (ea_cons (ee_var 1) ea_nil)) ee_int (nomark _)) (et_or1 (et_cmp (ninD_ok hr.units) (ee_ix (ee_var 1) ee_int) (ee_lst (ea_cons ee_str (ea_cons ee_str ea_nil)) (al_cons (al_cons al_nil))) (by rfl))))))
    (es_one (s_ret ee_bl))
    es_nil)
    (es_one (s_ret (ee_callC (Cal.ok FR hr) rfl T.g_law_is_part T.f_law_is_part.kp T.b_law_is_part tk (ea_cons (ee_ix (ee_lst (ea_cons ee_str (ea_cons ee_str ea_nil)) (al_cons (al_cons al_nil))) (ee_callTy intD_ok rfl T.z_int (by decide +kernel) (ea_cons (ee_cmp (eqD_ok hr.units) (ee_ix (ee_var 1) ee_int) ee_str (nomark _)) ea_nil))) (ea_cons (ee_ix (ee_var 1) ee_int) ea_nil)) (al_cons (al_cons al_nil))))))
    es_nil)
    (es_cons (s_if (et_cmp (eqD_ok hr.units) (ee_var 0) ee_str (nomark _))
    (es_one (s_ret (ee_and (ee_isi (ee_var 1) rfl T.z_isinstance rfl T.z_str (by decide +kernel)) (ee_one (ee_cmp (eqD_ok hr.units) (ee_lc frzL_ok rfl sc_law_is_part.nd (ei_seq ee_str) (blkOk_by (N := ["_law_sort", "_law_thing", "_law_low", "_law_high", "_law_sign"]) (sc := defScope s_law_is_part) (own := [("_law_sign", 4)]) (by first | decide +kernel | rfl)) rfl (by decide) (fun _ _ _ _ _ => (g_nm 4 sc_law_is_part.nd)) (fun _ _ _ _ _ => (et_if1 (et_cmp (inD_ok hr.units) (ee_var 4) (ee_var 1) (by rfl)))) (fun _ _ _ _ _ => (ee_var 4))) (ee_callTy (listT_ok rfl) rfl T.z_list (by decide +kernel) (ea_cons (ee_var 1) ea_nil)) (nomark _))))))
    es_nil)
    (es_one (s_ret (ee_and (ee_isi (ee_var 1) rfl T.z_isinstance rfl T.z_str (by decide +kernel)) (ee_one (ee_cmp (inD_ok hr.units) (ee_var 1) (ee_callC (Cal.ok (ok_law_lists T) (hr.mono (by omega))) rfl T.g_law_lists T.f_law_lists.kp T.b_law_lists tk (ea_cons (ee_var 0) ea_nil) (al_cons al_nil)) (by rfl)))))))))
theorem ok_law_is_part (T : Txt w K mg C A fd) : FnOk P w K mg base (L2.CX P w) 3 (A 19) (fd 19) ["_law_sort", "_law_thing"] (spOf K C 2 g_law_is_part) := okr_law_is_part T (k := 2) (by decide) (okr_law_is_part T (k := 1) (by decide) fn_bad)
theorem ok_law_is_row (T : Txt w K mg C A fd) : FnOk P w K mg base (L2.CX P w) 4 (A 20) (fd 20) ["_law_thing"] (spOf K C 1 g_law_is_row) :=
  fn_ev T.f_law_is_row sc_law_is_row fun cdv Ar outer s H E hr tk po =>
    (es_cons (s_set 1 sc_law_is_row.nd (ee_call0 (Cal.ok (ok_law_forms T) (hr.mono (by decide))) rfl T.g_law_forms T.f_law_forms.kp T.b_law_forms tk))
    (es_cons (s_if (PW.pt (et_or (et_not (et_val (ee_isi (ee_var 0) rfl T.z_isinstance rfl T.z_tuple (by decide +kernel)))) (et_or (et_cmp (eqD_ok hr.units) (ee_var 0) (ee_tup ea_nil al_nil) (nomark _)) (et_or (et_not (et_val (ee_isi (ee_ix (ee_var 0) ee_int) rfl T.z_isinstance rfl T.z_str (by decide +kernel)))) (et_or1 (et_cmp (dninD_ok hr.units) (ee_ix (ee_var 0) ee_int) (ee_var 1) (by rfl)))))))
    (es_one (s_ret ee_bl))
    es_nil)
    (es_cons (s_set 2 sc_law_is_row.nd (ee_dix hr.units (ee_var 1) (ee_ix (ee_var 0) ee_int)))
    (es_cons (s_if (et_cmp (neD_ok hr.units) (ee_callB lenD_ok rfl T.z_len (by decide +kernel) (ea_cons (ee_var 0) ea_nil)) (ee_op addD_ok (ee_callB lenD_ok rfl T.z_len (by decide +kernel) (ea_cons (ee_var 2) ea_nil)) ee_int) (nomark _))
    (es_one (s_ret ee_bl))
    es_nil)
    (es_one (s_ret (ee_cmp (eqD_ok hr.units) (ee_lc frzL_ok rfl sc_law_is_row.nd (ei_zip rfl T.z_zip (ea_cons (ee_var 2) (ea_cons (ee_sl (ee_var 0) (eo_some ee_int) eo_none) ea_nil))) (blkOk_by (N := ["_law_thing", "_law_forms_here", "_law_sorts", "_law_s", "_law_one"]) (sc := defScope s_law_is_row) (own := [("_law_s", 3), ("_law_one", 4)]) (by first | decide +kernel | rfl)) rfl (by decide) (fun _ _ _ _ _ => (g_tp rfl (gs_cons 3 sc_law_is_row.nd (gs_cons 4 sc_law_is_row.nd gs_nil)))) (fun _ _ _ _ _ => (et_if1 (et_not (et_val (ee_callC (Cal.ok (ok_law_is_part T) (hr.mono (by decide))) rfl T.g_law_is_part T.f_law_is_part.kp T.b_law_is_part takes0 (ea_cons (ee_var 3) (ea_cons (ee_var 4) ea_nil)) (al_cons (al_cons al_nil))))))) (fun _ _ _ _ _ => (ee_var 3))) (ee_lst ea_nil al_nil) (nomark _))))))))
theorem ok_law_shown_part (T : Txt w K mg C A fd) : FnOk P w K mg base (L2.CX P w) 1 (A 21) (fd 21) ["_law_sort", "_law_thing"] (spOf K C 2 g_law_shown_part) :=
  fn_ev T.f_law_shown_part sc_law_shown_part fun cdv Ar outer s H E hr tk po =>
    (es_cons (s_if (et_cmp (eqD_ok hr.units) (ee_var 0) ee_str (nomark _))
    (es_one (s_ret (ee_op addD_ok (ee_op mulU_ok ee_str (ee_callTy intD_ok rfl T.z_int (by decide +kernel) (ea_cons (ee_cmp (eqD_ok hr.units) (ee_ix (ee_var 1) ee_int) ee_str (nomark _)) ea_nil))) (ee_callTy strT_ok rfl T.z_str (by decide +kernel) (ea_cons (ee_ix (ee_var 1) ee_int) ea_nil)))))
    es_nil)
    (es_cons (s_if (PW.pt (et_and (et_cmp (eqD_ok hr.units) (ee_var 0) ee_str (nomark _)) (et_and1 (et_cmp (eqD_ok hr.units) (ee_var 1) ee_str (nomark _)))))
    (es_one (s_ret ee_str))
    es_nil)
    (es_one (s_ret (ee_callTy strT_ok rfl T.z_str (by decide +kernel) (ea_cons (ee_var 1) ea_nil))))))
theorem ok_law_line (T : Txt w K mg C A fd) : FnOk P w K mg base (L2.CX P w) 2 (A 22) (fd 22) ["_law_row_here"] (spOf K C 1 g_law_line) :=
  fn_ev T.f_law_line sc_law_line fun cdv Ar outer s H E hr tk po =>
    (es_cons (s_setLc 1 frzL_ok rfl sc_law_line.nd (sw_true rfl rfl rfl (by decide +kernel)) (ei_zip rfl T.z_zip (ea_cons (ee_dix hr.units (ee_call0 (Cal.ok (ok_law_forms T) (hr.mono (by decide))) rfl T.g_law_forms T.f_law_forms.kp T.b_law_forms tk) (ee_ix (ee_var 0) ee_int)) (ea_cons (ee_sl (ee_var 0) (eo_some ee_int) eo_none) ea_nil))) (blkOk_by (N := ["_law_row_here", "_law_parts", "_law_sort", "_law_one"]) (sc := defScope s_law_line) (own := [("_law_sort", 2), ("_law_one", 3)]) (by first | decide +kernel | rfl)) rfl (by decide) (fun _ _ _ _ _ => (g_tp rfl (gs_cons 2 sc_law_line.nd (gs_cons 3 sc_law_line.nd gs_nil)))) (fun _ _ _ _ _ => et_yes) (fun _ _ _ _ _ => (ee_callC (Cal.ok (ok_law_shown_part T) (hr.mono (by decide))) rfl T.g_law_shown_part T.f_law_shown_part.kp T.b_law_shown_part takes0 (ea_cons (ee_var 2) (ea_cons (ee_var 3) ea_nil)) (al_cons (al_cons al_nil)))))
    (es_one (s_ret (ee_mth F.plainAttrs_str F.slot_str_join F.type_str_join joinD_ok ee_str (ea_cons (ee_op addD_ok (ee_op mulL_ok (ee_lst (ea_cons (ee_ix (ee_var 0) ee_int) ea_nil) (al_cons al_nil)) (ee_callTy intD_ok rfl T.z_int (by decide +kernel) (ea_cons (ee_cmp (neD_ok hr.units) (ee_ix (ee_var 0) ee_int) ee_str (nomark _)) ea_nil))) (ee_var 1)) ea_nil)))))
theorem ok_law_text (T : Txt w K mg C A fd) : FnOk P w K mg base (L2.CX P w) 3 (A 23) (fd 23) ["_law_rows"] (spOf K C 1 g_law_text) :=
  fn_ev T.f_law_text sc_law_text fun cdv Ar outer s H E hr tk po =>
    (es_one (s_ret (ee_mth F.plainAttrs_str F.slot_str_join F.type_str_join joinD_ok ee_str (ea_cons (ee_lc frzL_ok rfl sc_law_text.nd (ei_seq (ee_var 0)) (blkOk_by (N := ["_law_rows", "_law_row_here"]) (sc := defScope s_law_text) (own := [("_law_row_here", 1)]) (by first | decide +kernel | rfl)) rfl (by decide) (fun _ _ _ _ _ => (g_nm 1 sc_law_text.nd)) (fun _ _ _ _ _ => et_yes) (fun _ _ _ _ _ => (ee_callC (Cal.ok (ok_law_line T) (hr.mono (by decide))) rfl T.g_law_line T.f_law_line.kp T.b_law_line takes0 (ea_cons (ee_var 1) ea_nil) (al_cons al_nil)))) ea_nil))))
theorem ok_law_number_in (T : Txt w K mg C A fd) : FnOk P w K mg base (L2.CX P w) 1 (A 24) (fd 24) ["_law_word"] (spOf K C 1 g_law_number_in) :=
  fn_ev T.f_law_number_in sc_law_number_in fun cdv Ar outer s H E hr tk po =>
    (es_cons (s_set 1 sc_law_number_in.nd (ee_sl (ee_var 0) (eo_some (ee_callTy intT_ok rfl T.z_int (by decide +kernel) (ea_cons (ee_mth F.plainAttrs_str F.slot_str_startswith F.type_str_startswith startsS_ok (ee_var 0) (ea_cons ee_str ea_nil)) ea_nil))) eo_none))
    (es_cons (s_if (PW.pt (et_or (et_cmp (eqD_ok hr.units) (ee_var 1) ee_str (nomark _)) (et_or (et_cmp gtD_ok (ee_callB lenD_ok rfl T.z_len (by decide +kernel) (ea_cons (ee_var 1) ea_nil)) ee_int (nomark _)) (et_or1 (et_cmp (neD_ok hr.units) (ee_lc frzL_ok rfl sc_law_number_in.nd (ei_seq (ee_var 1)) (blkOk_by (N := ["_law_word", "_law_digits", "_law_sign"]) (sc := defScope s_law_number_in) (own := [("_law_sign", 2)]) (by first | decide +kernel | rfl)) rfl (by decide) (fun _ _ _ _ _ => (g_nm 2 sc_law_number_in.nd)) (fun _ _ _ _ _ => (et_if1 (et_cmp (ninD_ok hr.units) (ee_var 2) ee_str (by rfl)))) (fun _ _ _ _ _ => (ee_var 2))) (ee_lst ea_nil al_nil) (nomark _))))))
    (es_one (s_ret ee_non))
    es_nil)
    (es_cons (s_if (PW.pt (et_or (PW.pt (et_and (et_val (ee_mth F.plainAttrs_str F.slot_str_startswith F.type_str_startswith startsS_ok (ee_var 1) (ea_cons ee_str ea_nil))) (et_and1 (et_cmp (neD_ok hr.units) (ee_var 1) ee_str (nomark _))))) (et_or1 (et_cmp (eqD_ok hr.units) (ee_var 0) ee_str (nomark _)))))
    (es_one (s_ret ee_non))
    es_nil)
    (es_one (s_ret (ee_op mulD_ok (ee_callTy intT_ok rfl T.z_int (by decide +kernel) (ea_cons (ee_var 1) ea_nil)) (ee_ix (ee_lst (ea_cons ee_int (ea_cons (ee_un negD_ok ee_int) ea_nil)) (al_cons (al_cons al_nil))) (ee_callTy intT_ok rfl T.z_int (by decide +kernel) (ea_cons (ee_mth F.plainAttrs_str F.slot_str_startswith F.type_str_startswith startsS_ok (ee_var 0) (ea_cons ee_str ea_nil)) ea_nil)))))))))
theorem ok_law_part_in (T : Txt w K mg C A fd) : FnOk P w K mg base (L2.CX P w) 2 (A 25) (fd 25) ["_law_sort", "_law_word"] (spOf K C 2 g_law_part_in) :=
  fn_ev T.f_law_part_in sc_law_part_in fun cdv Ar outer s H E hr tk po =>
    (es_cons (s_if (et_cmp (inD_ok hr.units) (ee_var 0) ee_str (by rfl))
    (es_one (s_ret (ee_callC (Cal.ok (ok_law_number_in T) (hr.mono (by decide))) rfl T.g_law_number_in T.f_law_number_in.kp T.b_law_number_in tk (ea_cons (ee_var 1) ea_nil) (al_cons al_nil))))
    es_nil)
    (es_cons (s_if (et_cmp (eqD_ok hr.units) (ee_var 0) ee_str (nomark _))
    (es_one (s_ret (ee_tup (ea_cons (ee_ix (ee_lst (ea_cons ee_str (ea_cons ee_str ea_nil)) (al_cons (al_cons al_nil))) (ee_callTy intT_ok rfl T.z_int (by decide +kernel) (ea_cons (ee_mth F.plainAttrs_str F.slot_str_startswith F.type_str_startswith startsS_ok (ee_var 1) (ea_cons ee_str ea_nil)) ea_nil))) (ea_cons (ee_callC (Cal.ok (ok_law_number_in T) (hr.mono (by decide))) rfl T.g_law_number_in T.f_law_number_in.kp T.b_law_number_in tk (ea_cons (ee_sl (ee_var 1) (eo_some (ee_callTy intT_ok rfl T.z_int (by decide +kernel) (ea_cons (ee_mth F.plainAttrs_str F.slot_str_startswith F.type_str_startswith startsS_ok (ee_var 1) (ea_cons ee_str ea_nil)) ea_nil))) eo_none) ea_nil) (al_cons al_nil)) ea_nil)) (al_cons (al_cons al_nil)))))
    es_nil)
    (es_cons (s_if (PW.pt (et_and (et_cmp (eqD_ok hr.units) (ee_var 0) ee_str (nomark _)) (et_and1 (et_cmp (inD_ok hr.units) (ee_var 1) (ee_tup (ea_cons ee_str (ea_cons ee_str ea_nil)) (al_cons (al_cons al_nil))) (by rfl)))))
    (es_one (s_ret (ee_dix hr.units (ee_dispF (pp_cons ee_str ee_non (pp_cons ee_str ee_str pp_nil))) (ee_var 1))))
    es_nil)
    (es_one (s_ret (ee_var 1))))))
theorem ok_law_row_in (T : Txt w K mg C A fd) : FnOk P w K mg base (L2.CX P w) 5 (A 26) (fd 26) ["_law_line_here"] (spOf K C 1 g_law_row_in) :=
  fn_ev T.f_law_row_in sc_law_row_in fun cdv Ar outer s H E hr tk po =>
    (es_cons (s_set 1 sc_law_row_in.nd (ee_mth F.plainAttrs_str F.slot_str_split F.type_str_split splitS_ok (ee_var 0) (ea_cons ee_str ea_nil)))
    (es_cons (s_if (et_cmp (inD_ok hr.units) (ee_ix (ee_var 1) ee_int) (ee_callC (Cal.ok (ok_law_lists T) (hr.mono (by decide))) rfl T.g_law_lists T.f_law_lists.kp T.b_law_lists tk (ea_cons ee_str ea_nil) (al_cons al_nil)) (by rfl))
    (es_one (s_set 1 sc_law_row_in.nd (ee_op addD_ok (ee_lst (ea_cons ee_str ea_nil) (al_cons al_nil)) (ee_var 1))))
    (es_one (s_if (et_cmp (eqD_ok hr.units) (ee_ix (ee_var 1) ee_int) ee_str (nomark _))
    (es_one (s_ret ee_non))
    es_nil)))
    (es_cons (s_set 2 sc_law_row_in.nd (ee_mth F.plainAttrs_dict F.slot_dict_get F.type_dict_get (getDM_ok hr.units) (ee_call0 (Cal.ok (ok_law_forms T) (hr.mono (by decide))) rfl T.g_law_forms T.f_law_forms.kp T.b_law_forms tk) (ea_cons (ee_ix (ee_var 1) ee_int) (ea_cons ee_non ea_nil))))
    (es_cons (s_if (PW.pt (et_or (et_cmp isN_ok (ee_var 2) ee_non (nomark _)) (et_or1 (et_cmp (neD_ok hr.units) (ee_callB lenD_ok rfl T.z_len (by decide +kernel) (ea_cons (ee_var 1) ea_nil)) (ee_op addD_ok (ee_callB lenD_ok rfl T.z_len (by decide +kernel) (ea_cons (ee_var 2) ea_nil)) ee_int) (nomark _)))))
    (es_one (s_ret ee_non))
    es_nil)
    (es_cons (s_set 3 sc_law_row_in.nd (ee_op addD_ok (ee_tup (ea_cons (ee_ix (ee_var 1) ee_int) ea_nil) (al_cons al_nil)) (ee_callTy (tupleT_ok rfl) rfl T.z_tuple (by decide +kernel) (ea_cons (ee_lc frzL_ok rfl sc_law_row_in.nd (ei_zip rfl T.z_zip (ea_cons (ee_var 2) (ea_cons (ee_sl (ee_var 1) (eo_some ee_int) eo_none) ea_nil))) (blkOk_by (N := ["_law_line_here", "_law_words", "_law_sorts", "_law_row_here", "_law_sort", "_law_word"]) (sc := defScope s_law_row_in) (own := [("_law_sort", 4), ("_law_word", 5)]) (by first | decide +kernel | rfl)) rfl (by decide) (fun _ _ _ _ _ => (g_tp rfl (gs_cons 4 sc_law_row_in.nd (gs_cons 5 sc_law_row_in.nd gs_nil)))) (fun _ _ _ _ _ => et_yes) (fun _ _ _ _ _ => (ee_callC (Cal.ok (ok_law_part_in T) (hr.mono (by decide))) rfl T.g_law_part_in T.f_law_part_in.kp T.b_law_part_in takes0 (ea_cons (ee_var 4) (ea_cons (ee_var 5) ea_nil)) (al_cons (al_cons al_nil))))) ea_nil))))
    (es_one (s_ret (ee_if (et_val (ee_callC (Cal.ok (ok_law_is_row T) (hr.mono (by decide))) rfl T.g_law_is_row T.f_law_is_row.kp T.b_law_is_row tk (ea_cons (ee_var 3) ea_nil) (al_cons al_nil))) (ee_var 3) ee_non))))))))
theorem okf_law_due (T : Txt w K mg C A fd) : FnOk P w K mg base (L2.CX P w) 6 (A 27) (fd 27) ["_law_lines"] (spOf K C 1 gf_law_due) :=
  fn_ev T.f_law_due sc_law_due fun cdv Ar outer s H E hr tk po =>
    (es_cons (s_if (et_not (et_val (ee_isi (ee_var 0) rfl T.z_isinstance rfl T.z_str (by decide +kernel))))
    (es_one (s_ret (ee_lst (ea_cons ee_str (ea_cons ee_non ea_nil)) (al_cons (al_cons al_nil)))))
    es_nil)
    (es_cons (s_set 1 sc_law_due.nd (ee_lstM ea_nil al_nil))
    (es_cons (s_for po rfl (ei_enum rfl T.z_enumerate (ea_cons (ee_mth F.plainAttrs_str F.slot_str_split F.type_str_split splitS_ok (ee_var 0) (ea_cons ee_str ea_nil)) ea_nil)) (g_tp rfl (gs_cons 2 sc_law_due.nd (gs_cons 3 sc_law_due.nd gs_nil)))
    (es_cons (s_set 4 sc_law_due.nd (ee_callC (Cal.ok (ok_law_row_in T) (hr.mono (by decide))) rfl T.g_law_row_in T.f_law_row_in.kp T.b_law_row_in tk (ea_cons (ee_var 3) ea_nil) (al_cons al_nil)))
    (es_cons (s_if (et_cmp isN_ok (ee_var 4) ee_non (nomark _))
    (es_one (s_ret (ee_lst (ea_cons ee_str (ea_cons (ee_var 2) ea_nil)) (al_cons (al_cons al_nil)))))
    es_nil)
    (es_one (s_exp (ee_mth F.plainAttrs_list F.slot_list_append F.type_list_append appendL_ok (ee_var 1) (ea_cons (ee_var 4) ea_nil)))))))
    (es_one (s_ret (ee_if (et_cmp gtD_ok (ee_callB lenD_ok rfl T.z_len (by decide +kernel) (ea_cons (ee_var 1) ea_nil)) ee_int (nomark _)) (ee_lst (ea_cons ee_str (ea_cons ee_non ea_nil)) (al_cons (al_cons al_nil))) (ee_var 1)))))))
theorem ok_law_due (T : Txt w K mg C A fd) : FnOk P w K mg base (L2.CX P w) 6 (A 27) (fd 27) ["_law_lines"] (spOf K C 1 g_law_due) := fn_frz (okf_law_due T)
theorem ok_law_told (T : Txt w K mg C A fd) : FnOk P w K mg base (L2.CX P w) 8 (A 28) (fd 28) ["_law_lines"] (spOf K C 1 g_law_told) :=
  fn_ev T.f_law_told sc_law_told fun cdv Ar outer s H E hr tk po =>
    (es_cons (s_set 1 sc_law_told.nd ee_non)
    (es_cons (s_set 2 sc_law_told.nd ee_non)
    (es_cons (s_try_as (i := 3) (sub := sub_ReachError) rfl rfl rfl sc_law_told.nd rfl rfl ⟨rfl, by decide, .inl T.k_ReachError⟩ tk (sub_ReachError_h T)
    (fun W0 pn0 xe0 tk0 po0 => (es_one (s_set 2 sc_law_told.nd (ee_callC (Cal.ok (ok_read_rows T) (hr.mono (by decide))) rfl T.g_read_rows T.f_read_rows.kp T.b_read_rows tk0 (ea_cons (ee_var 0) ea_nil) (al_cons al_nil)))))
    (fun a0 pn0 => (es_one (s_set 1 sc_law_told.nd (ee_var 3)))))
    (es_cons (s_if (et_cmp isN_ok (ee_var 1) ee_non (nomark _))
    (es_one (s_ret (ee_var 2)))
    es_nil)
    (es_one (s_ret (ee_if (PW.pt (et_and (et_val (ee_isiQ (ee_var 1) rfl T.z_isinstance (pe_glob (v := .ref (C 2)) rfl T.k_NoText rfl) (.own _) (kq_NoText_h T) (kq_NoText_x T))) (et_and1 (et_not (et_val (ee_isiQ (ee_var 1) rfl T.z_isinstance (pe_glob (v := .ref (C 1)) rfl T.k_NoRows rfl) (.own _) (kq_NoRows_h T) (kq_NoRows_x T))))))) (ee_lst (ea_cons ee_str (ea_cons (ee_fld (ee_var 1) (fk_number_h T)) ea_nil)) (al_cons (al_cons al_nil))) ee_str)))))))
theorem ok_law_bent (T : Txt w K mg C A fd) : FnOk P w K mg base (L2.CX P w) 2 (A 29) (fd 29) ["_law_pool_here", "_law_here"] (spOf K C 2 g_law_bent) :=
  fn_ev T.f_law_bent sc_law_bent fun cdv Ar outer s H E hr tk po =>
    (es_cons (s_set 2 sc_law_bent.nd (ee_mth F.plainAttrs_str F.slot_str_split F.type_str_split splitS_ok (ee_var 1) (ea_cons ee_str ea_nil)))
    (es_cons (s_set 3 sc_law_bent.nd (ee_callC (Cal.ok (ok_law_take T) (hr.mono (by decide))) rfl T.g_law_take T.f_law_take.kp T.b_law_take tk (ea_cons (ee_var 0) (ea_cons (ee_callB lenD_ok rfl T.z_len (by decide +kernel) (ea_cons (ee_var 2) ea_nil)) ea_nil)) (al_cons (al_cons al_nil))))
    (es_cons (s_set 4 sc_law_bent.nd (ee_mth F.plainAttrs_str F.slot_str_split F.type_str_split splitS_ok (ee_ix (ee_var 2) (ee_var 3)) (ea_cons ee_str ea_nil)))
    (es_cons (s_set 5 sc_law_bent.nd (ee_callC (Cal.ok (ok_law_take T) (hr.mono (by decide))) rfl T.g_law_take T.f_law_take.kp T.b_law_take tk (ea_cons (ee_var 0) (ea_cons (ee_callB lenD_ok rfl T.z_len (by decide +kernel) (ea_cons (ee_var 4) ea_nil)) ea_nil)) (al_cons (al_cons al_nil))))
    (es_cons (s_set 6 sc_law_bent.nd (ee_lst (ea_cons ee_str (ea_cons ee_str (ea_cons ee_str (ea_cons ee_str (ea_cons ee_str (ea_cons ee_str (ea_cons ee_str (ea_cons ee_str (ea_cons ee_str (ea_cons ee_str (ea_cons ee_str (ea_cons ee_str (ea_cons ee_str (ea_cons ee_str (ea_cons ee_str (ea_cons ee_str (ea_cons ee_str ea_nil))))))))))))))))) (al_cons (al_cons (al_cons (al_cons (al_cons (al_cons (al_cons (al_cons (al_cons (al_cons (al_cons (al_cons (al_cons (al_cons (al_cons (al_cons (al_cons al_nil)))))))))))))))))))
    (es_cons (s_set 6 sc_law_bent.nd (ee_op addD_ok (ee_var 6) (ee_lst (ea_cons ee_str (ea_cons ee_str (ea_cons ee_str (ea_cons ee_str (ea_cons ee_str (ea_cons ee_str (ea_cons ee_str (ea_cons ee_str (ea_cons ee_str (ea_cons ee_str (ea_cons ee_str ea_nil))))))))))) (al_cons (al_cons (al_cons (al_cons (al_cons (al_cons (al_cons (al_cons (al_cons (al_cons (al_cons al_nil))))))))))))))
    (es_cons (s_set 7 sc_law_bent.nd (ee_lst (ea_cons (ee_lst (ea_cons (ee_ix (ee_var 6) (ee_callC (Cal.ok (ok_law_take T) (hr.mono (by decide))) rfl T.g_law_take T.f_law_take.kp T.b_law_take tk (ea_cons (ee_var 0) (ea_cons ee_int ea_nil)) (al_cons (al_cons al_nil)))) ea_nil) (al_cons al_nil)) (ea_cons (ee_op mulL_ok (ee_lst (ea_cons (ee_ix (ee_var 4) (ee_var 5)) ea_nil) (al_cons al_nil)) ee_int) (ea_cons (ee_lst ea_nil al_nil) (ea_cons (ee_lst (ea_cons (ee_ix (ee_var 4) (ee_var 5)) (ea_cons (ee_ix (ee_var 6) (ee_callC (Cal.ok (ok_law_take T) (hr.mono (by decide))) rfl T.g_law_take T.f_law_take.kp T.b_law_take tk (ea_cons (ee_var 0) (ea_cons ee_int ea_nil)) (al_cons (al_cons al_nil)))) ea_nil)) (al_cons (al_cons al_nil))) ea_nil)))) (al_cons (al_cons (al_cons (al_cons al_nil))))))
    (es_cons (s_set 8 sc_law_bent.nd (ee_mth F.plainAttrs_str F.slot_str_join F.type_str_join joinD_ok ee_str (ea_cons (ee_op addD_ok (ee_op addD_ok (ee_sl (ee_var 4) eo_none (eo_some (ee_var 5))) (ee_ix (ee_var 7) (ee_callC (Cal.ok (ok_law_take T) (hr.mono (by decide))) rfl T.g_law_take T.f_law_take.kp T.b_law_take tk (ea_cons (ee_var 0) (ea_cons ee_int ea_nil)) (al_cons (al_cons al_nil))))) (ee_sl (ee_var 4) (eo_some (ee_op addD_ok (ee_var 5) ee_int)) eo_none)) ea_nil)))
    (es_cons (s_set 9 sc_law_bent.nd (ee_ix (ee_lst (ea_cons ee_str (ea_cons ee_str (ea_cons ee_str (ea_cons ee_str (ea_cons ee_str (ea_cons ee_str (ea_cons ee_str ea_nil))))))) (al_cons (al_cons (al_cons (al_cons (al_cons (al_cons (al_cons al_nil)))))))) (ee_callC (Cal.ok (ok_law_take T) (hr.mono (by decide))) rfl T.g_law_take T.f_law_take.kp T.b_law_take tk (ea_cons (ee_var 0) (ea_cons ee_int ea_nil)) (al_cons (al_cons al_nil)))))
    (es_cons (s_set 10 sc_law_bent.nd (ee_callC (Cal.ok (ok_law_take T) (hr.mono (by decide))) rfl T.g_law_take T.f_law_take.kp T.b_law_take tk (ea_cons (ee_var 0) (ea_cons (ee_op addD_ok (ee_callB lenD_ok rfl T.z_len (by decide +kernel) (ea_cons (ee_ix (ee_var 2) (ee_var 3)) ea_nil)) ee_int) ea_nil)) (al_cons (al_cons al_nil))))
    (es_cons (s_set 11 sc_law_bent.nd (ee_lst (ea_cons (ee_var 8) (ea_cons (ee_var 8) (ea_cons (ee_var 8) (ea_cons ee_str (ea_cons (ee_op addD_ok (ee_op addD_ok (ee_ix (ee_var 2) (ee_var 3)) ee_str) (ee_ix (ee_var 2) (ee_var 3))) (ea_cons (ee_op addD_ok (ee_op addD_ok (ee_sl (ee_ix (ee_var 2) (ee_var 3)) eo_none (eo_some (ee_var 10))) (ee_var 9)) (ee_sl (ee_ix (ee_var 2) (ee_var 3)) (eo_some (ee_var 10)) eo_none)) ea_nil)))))) (al_cons (al_cons (al_cons (al_cons (al_cons (al_cons al_nil))))))))
    (es_one (s_ret (ee_mth F.plainAttrs_str F.slot_str_join F.type_str_join joinD_ok ee_str (ea_cons (ee_op addD_ok (ee_op addD_ok (ee_sl (ee_var 2) eo_none (eo_some (ee_var 3))) (ee_lst (ea_cons (ee_ix (ee_var 11) (ee_callC (Cal.ok (ok_law_take T) (hr.mono (by decide))) rfl T.g_law_take T.f_law_take.kp T.b_law_take tk (ea_cons (ee_var 0) (ea_cons ee_int ea_nil)) (al_cons (al_cons al_nil)))) ea_nil) (al_cons al_nil))) (ee_sl (ee_var 2) (eo_some (ee_op addD_ok (ee_var 3) ee_int)) eo_none)) ea_nil)))))))))))))))
theorem ok_law (T : Txt w K mg C A fd) : FnG P w K mg base (L2.CX P w) 9 (A 30) (fd 30) ["_law_script"] (spOf K C 1 g_law) :=
  fnG_ev T.f_law sc_law fun cdv Ar outer s H E hr tk po =>
    (es_cons (s_for po rfl (ei_seq (ee_lst (ea_cons ee_int (ea_cons ee_int ea_nil)) (al_cons (al_cons al_nil)))) (g_nm 1 sc_law.nd)
    (es_one (s_if (et_cmp (neD_ok hr.room.units) (ee_callC (Cal.ok (ok_law_told T) (hr.room.mono (by decide))) rfl T.g_law_told T.f_law_told.kp T.b_law_told tk (ea_cons (ee_mth F.plainAttrs_str F.slot_str_join F.type_str_join joinD_ok ee_str (ea_cons (ee_op mulL_ok (ee_lst (ea_cons ee_str ea_nil) (al_cons al_nil)) (ee_var 1)) ea_nil)) ea_nil) (al_cons al_nil)) (ee_callC (Cal.ok (ok_law_due T) (hr.room.mono (by decide))) rfl T.g_law_due T.f_law_due.kp T.b_law_due tk (ea_cons (ee_mth F.plainAttrs_str F.slot_str_join F.type_str_join joinD_ok ee_str (ea_cons (ee_op mulL_ok (ee_lst (ea_cons ee_str ea_nil) (al_cons al_nil)) (ee_var 1)) ea_nil)) ea_nil) (al_cons al_nil)) (nomark _))
    (es_one (s_ret ee_bl))
    es_nil)))
    (es_cons (s_for po rfl (ei_range1 rfl T.z_range (ea_cons (ee_callB (maxD2_ok rfl) rfl T.z_max (by decide +kernel) (ea_cons ee_int (ea_cons (ee_callB (minD2_ok rfl) rfl T.z_min (by decide +kernel) (ea_cons (ee_callB lenD_ok rfl T.z_len (by decide +kernel) (ea_cons (ee_var 0) ea_nil)) (ea_cons ee_int ea_nil))) ea_nil))) ea_nil)) (g_nm 2 sc_law.nd)
    (es_cons (s_set 3 sc_law.nd (ee_callC (Cal.ok (ok_law_pool T) (hr.room.mono (by decide))) rfl T.g_law_pool T.f_law_pool.kp T.b_law_pool tk (ea_cons (ee_var 0) (ea_cons (ee_var 2) ea_nil)) (al_cons (al_cons al_nil))))
    (es_cons (s_set 4 sc_law.nd (ee_callC (Cal.ok (ok_law_text T) (hr.room.mono (by decide))) rfl T.g_law_text T.f_law_text.kp T.b_law_text tk (ea_cons (ee_lc frzL_ok rfl sc_law.nd (ei_range1 rfl T.z_range (ea_cons (ee_op addD_ok ee_int (ee_callC (Cal.ok (ok_law_take T) (hr.room.mono (by decide))) rfl T.g_law_take T.f_law_take.kp T.b_law_take tk (ea_cons (ee_var 3) (ea_cons ee_int ea_nil)) (al_cons (al_cons al_nil)))) ea_nil)) (blkOk_by (N := ["_law_script", "_law_many", "_law_k", "_law_pool_here", "_law_here", "_law_turn", "_law_one", "_law_some", "_law_thing"]) (sc := defScope s_law) (own := [("_law_turn", 5)]) (by first | decide +kernel | rfl)) rfl (by decide) (fun _ _ _ _ _ => (g_nm 5 sc_law.nd)) (fun _ _ _ _ _ => et_yes) (fun _ _ _ _ _ => (ee_callC (Cal.ok (ok_law_row T) (hr.room.mono (by decide))) rfl T.g_law_row T.f_law_row.kp T.b_law_row takes0 (ea_cons (ee_var 3) ea_nil) (al_cons al_nil)))) ea_nil) (al_cons al_nil)))
    (es_cons (s_set 6 sc_law.nd (ee_callC (Cal.ok (ok_law_bent T) (hr.room.mono (by decide))) rfl T.g_law_bent T.f_law_bent.kp T.b_law_bent tk (ea_cons (ee_var 3) (ea_cons (ee_var 4) ea_nil)) (al_cons (al_cons al_nil))))
    (es_frz [_, _, _] (pss_cons (s_set 7 sc_law.nd (ee_lstM (ea_cons (ee_var 4) (ea_cons (ee_var 6) (ea_cons (ee_callC (Cal.ok (ok_law_bent T) (hr.room.mono (by decide))) rfl T.g_law_bent T.f_law_bent.kp T.b_law_bent tk (ea_cons (ee_var 3) (ea_cons (ee_var 6) ea_nil)) (al_cons (al_cons al_nil))) (ea_cons (ee_op addD_ok (ee_var 4) ee_str) (ea_cons ee_str (ea_cons (ee_op addD_ok ee_str (ee_var 4)) (ea_cons ee_str ea_nil))))))) (al_cons (al_cons (al_cons (al_cons (al_cons (al_cons (al_cons al_nil)))))))))
    (pss_cons (s_set 7 sc_law.nd (ee_addM (ee_var 7) (ee_lst (ea_cons ee_str (ea_cons ee_str (ea_cons ee_str ea_nil))) (al_cons (al_cons (al_cons al_nil))))))
    (pss_cons (s_exp (ee_mth F.plainAttrs_list F.slot_list_append F.type_list_append appendL_ok (ee_var 7) (ea_cons (ee_op addD_ok ee_str (ee_op mulU_ok ee_str ee_int)) ea_nil)))
    (es_one (s_for po rfl (ei_seq (ee_op addD_ok (ee_var 7) (ee_lst (ea_cons ee_non (ea_cons ee_int (ea_cons (ee_lst (ea_cons (ee_var 4) ea_nil) (al_cons al_nil)) (ea_cons ee_bl (ea_cons ee_dct0 (ea_cons (ee_tup (ea_cons ee_str ea_nil) (al_cons al_nil)) ea_nil)))))) (al_cons (al_cons (al_cons (al_cons (al_cons (al_cons al_nil))))))))) (g_nm 8 sc_law.nd)
    (es_one (s_if (et_cmp (neD_ok hr.room.units) (ee_callB (reprD_ok hr.room.units hr.gd) rfl T.z_repr (by decide +kernel) (ea_cons (ee_callC (Cal.ok (ok_law_told T) (hr.room.mono (by decide))) rfl T.g_law_told T.f_law_told.kp T.b_law_told tk (ea_cons (ee_var 8) ea_nil) (al_cons al_nil)) ea_nil)) (ee_callB (reprD_ok hr.room.units hr.gd) rfl T.z_repr (by decide +kernel) (ea_cons (ee_callC (Cal.ok (ok_law_due T) (hr.room.mono (by decide))) rfl T.g_law_due T.f_law_due.kp T.b_law_due tk (ea_cons (ee_var 8) ea_nil) (al_cons al_nil)) ea_nil)) (nomark _))
    (es_one (s_ret ee_bl))
    es_nil))))))))))))
    (es_one (s_ret ee_bl))))
end
theorem all_mk {l : PySem.W.OpenLaw} {w : World} {K : PySem.W.Frag} {h : Heap} {mg : Str → Option Value} {fa f0 f1 f2 f3 f4 f5 f6 f7 f8 f9 f10 f11 f12 f13 f14 f15 f16 f17 f18 f19 f20 f21 f22 f23 f24 f25 f26 f27 f28 f29 f30 g2 c0 c1 c2 : Addr} (X : K.In h) (G : h.Ns mainGlobals mg) (hfa : mg "law" = some (.ref fa))
    {od0 an0 : Option Addr} {sl0 : Array (Option Value)} {oc0 kV0 dc0 pm0 cd0 ct0 : Value}
    {od1 an1 : Option Addr} {sl1 : Array (Option Value)} {oc1 kV1 dc1 pm1 cd1 ct1 : Value}
    {od2 an2 : Option Addr} {sl2 : Array (Option Value)} {oc2 kV2 dc2 pm2 cd2 ct2 : Value}
    {od3 an3 : Option Addr} {sl3 : Array (Option Value)} {oc3 kV3 dc3 pm3 cd3 ct3 : Value}
    {od4 an4 : Option Addr} {sl4 : Array (Option Value)} {oc4 kV4 dc4 pm4 cd4 ct4 : Value}
    {od5 an5 : Option Addr} {sl5 : Array (Option Value)} {oc5 kV5 dc5 pm5 cd5 ct5 : Value}
    {od6 an6 : Option Addr} {sl6 : Array (Option Value)} {oc6 kV6 dc6 pm6 cd6 ct6 : Value}
    {od7 an7 : Option Addr} {sl7 : Array (Option Value)} {oc7 kV7 dc7 pm7 cd7 ct7 : Value}
    {od8 an8 : Option Addr} {sl8 : Array (Option Value)} {oc8 kV8 dc8 pm8 cd8 ct8 : Value}
    {od9 an9 : Option Addr} {sl9 : Array (Option Value)} {oc9 kV9 dc9 pm9 cd9 ct9 : Value}
    {od10 an10 : Option Addr} {sl10 : Array (Option Value)} {oc10 kV10 dc10 pm10 cd10 ct10 : Value}
    {od11 an11 : Option Addr} {sl11 : Array (Option Value)} {oc11 kV11 dc11 pm11 cd11 ct11 : Value}
    {od12 an12 : Option Addr} {sl12 : Array (Option Value)} {oc12 kV12 dc12 pm12 cd12 ct12 : Value}
    {od13 an13 : Option Addr} {sl13 : Array (Option Value)} {oc13 kV13 dc13 pm13 cd13 ct13 : Value}
    {od14 an14 : Option Addr} {sl14 : Array (Option Value)} {oc14 kV14 dc14 pm14 cd14 ct14 : Value}
    {od15 an15 : Option Addr} {sl15 : Array (Option Value)} {oc15 kV15 dc15 pm15 cd15 ct15 : Value}
    {od16 an16 : Option Addr} {sl16 : Array (Option Value)} {oc16 kV16 dc16 pm16 cd16 ct16 : Value}
    {od17 an17 : Option Addr} {sl17 : Array (Option Value)} {oc17 kV17 dc17 pm17 cd17 ct17 : Value}
    {od18 an18 : Option Addr} {sl18 : Array (Option Value)} {oc18 kV18 dc18 pm18 cd18 ct18 : Value}
    {od19 an19 : Option Addr} {sl19 : Array (Option Value)} {oc19 kV19 dc19 pm19 cd19 ct19 : Value}
    {od20 an20 : Option Addr} {sl20 : Array (Option Value)} {oc20 kV20 dc20 pm20 cd20 ct20 : Value}
    {od21 an21 : Option Addr} {sl21 : Array (Option Value)} {oc21 kV21 dc21 pm21 cd21 ct21 : Value}
    {od22 an22 : Option Addr} {sl22 : Array (Option Value)} {oc22 kV22 dc22 pm22 cd22 ct22 : Value}
    {od23 an23 : Option Addr} {sl23 : Array (Option Value)} {oc23 kV23 dc23 pm23 cd23 ct23 : Value}
    {od24 an24 : Option Addr} {sl24 : Array (Option Value)} {oc24 kV24 dc24 pm24 cd24 ct24 : Value}
    {od25 an25 : Option Addr} {sl25 : Array (Option Value)} {oc25 kV25 dc25 pm25 cd25 ct25 : Value}
    {od26 an26 : Option Addr} {sl26 : Array (Option Value)} {oc26 kV26 dc26 pm26 cd26 ct26 : Value}
    {od27 an27 : Option Addr} {sl27 : Array (Option Value)} {oc27 kV27 dc27 pm27 cd27 ct27 : Value}
    {od28 an28 : Option Addr} {sl28 : Array (Option Value)} {oc28 kV28 dc28 pm28 cd28 ct28 : Value}
    {od29 an29 : Option Addr} {sl29 : Array (Option Value)} {oc29 kV29 dc29 pm29 cd29 ct29 : Value}
    {od30 an30 : Option Addr} {sl30 : Array (Option Value)} {oc30 kV30 dc30 pm30 cd30 ct30 : Value}
    {t_CELLS : Tok}
    {t_RIGHTS : Tok}
    {t_BOXES : Tok}
    {t_MOST_WORTH : Tok}
    {t_LEAST_OFFSET : Tok}
    {t_MOST_OFFSET : Tok}
    {t_MOST_ROWS : Tok}
    {d_DEEDS : Addr} {n_DEEDS : Nat} {sl_DEEDS : Array (Option Value)} {t0_DEEDS t1_DEEDS t2_DEEDS t3_DEEDS t4_DEEDS t5_DEEDS : Tok}
    {d_ASKS : Addr} {n_ASKS : Nat} {sl_ASKS : Array (Option Value)} {t0_ASKS t1_ASKS t2_ASKS t3_ASKS : Tok}
    {d_WHATS : Addr} {n_WHATS : Nat} {sl_WHATS : Array (Option Value)} {t0_WHATS t1_WHATS t2_WHATS t3_WHATS t4_WHATS t5_WHATS t6_WHATS : Tok}
    {d_FORMS : Addr} {n_FORMS : Nat} {t0_FORMS u0_FORMS t1_FORMS u1_FORMS t2_FORMS u2_FORMS t3_FORMS u3_FORMS t4_FORMS u4_FORMS t5_FORMS u5_FORMS t6_FORMS u6_FORMS t7_FORMS u7_FORMS t8_FORMS u8_FORMS t9_FORMS u9_FORMS t10_FORMS u10_FORMS t11_FORMS u11_FORMS t12_FORMS u12_FORMS t13_FORMS u13_FORMS t14_FORMS u14_FORMS t15_FORMS u15_FORMS t16_FORMS u16_FORMS t17_FORMS u17_FORMS t18_FORMS u18_FORMS t19_FORMS u19_FORMS t20_FORMS u20_FORMS t21_FORMS u21_FORMS : Tok}
    {t_FIGURES : Tok}
    {nm2 q2 : Str} {N2 : Addr} {bs2 : List Value} {sn2 : List Str} {sub2 : List Value} {ab2 : Bool} {col2 : Option Bool} {dd2 : Option Addr} {m02 m12 m22 m32 m52 : Option Value}
    {iod2 ian2 : Option Addr} {isl2 : Array (Option Value)} {ioc2 ikV2 idc2 ipm2 icd2 ict2 : Value}
    (a0 : PySem.W.nsIn K mainGlobals "is_whole" = some (some (.ref f0)))
    (l0 : K.lookup f0 = some ⟨oc0, od0, .func (PySem.W.fnOf "is_whole" "is_whole" (defArgs s_is_whole) (defBody s_is_whole) (defScope s_is_whole) .none kV0 dc0 pm0 an0 cd0 ct0), sl0⟩)
    (o0 : PySem.W.codeIn K cd0 "is_whole" = true)
    (p0 : PySem.W.keepIn K (.ref f0) = true)
    (a1 : PySem.W.nsIn K mainGlobals "is_rights" = some (some (.ref f1)))
    (l1 : K.lookup f1 = some ⟨oc1, od1, .func (PySem.W.fnOf "is_rights" "is_rights" (defArgs s_is_rights) (defBody s_is_rights) (defScope s_is_rights) .none kV1 dc1 pm1 an1 cd1 ct1), sl1⟩)
    (o1 : PySem.W.codeIn K cd1 "is_rights" = true)
    (p1 : PySem.W.keepIn K (.ref f1) = true)
    (a2 : PySem.W.nsIn K mainGlobals "is_from" = some (some (.ref f2)))
    (l2 : K.lookup f2 = some ⟨oc2, od2, .func (PySem.W.fnOf "is_from" "is_from" (defArgs s_is_from) (defBody s_is_from) (defScope s_is_from) .none kV2 dc2 pm2 an2 cd2 ct2), sl2⟩)
    (o2 : PySem.W.codeIn K cd2 "is_from" = true)
    (p2 : PySem.W.keepIn K (.ref f2) = true)
    (a3 : PySem.W.nsIn K mainGlobals "is_by" = some (some (.ref f3)))
    (l3 : K.lookup f3 = some ⟨oc3, od3, .func (PySem.W.fnOf "is_by" "is_by" (defArgs s_is_by) (defBody s_is_by) (defScope s_is_by) .none kV3 dc3 pm3 an3 cd3 ct3), sl3⟩)
    (o3 : PySem.W.codeIn K cd3 "is_by" = true)
    (p3 : PySem.W.keepIn K (.ref f3) = true)
    (a4 : PySem.W.nsIn K mainGlobals "is_one_of" = some (some (.ref f4)))
    (l4 : K.lookup f4 = some ⟨oc4, od4, .func (PySem.W.fnOf "is_one_of" "is_one_of" (defArgs s_is_one_of) (defBody s_is_one_of) (defScope s_is_one_of) .none kV4 dc4 pm4 an4 cd4 ct4), sl4⟩)
    (o4 : PySem.W.codeIn K cd4 "is_one_of" = true)
    (p4 : PySem.W.keepIn K (.ref f4) = true)
    (a5 : PySem.W.nsIn K mainGlobals "is_sort" = some (some (.ref f5)))
    (l5 : K.lookup f5 = some ⟨oc5, od5, .func (PySem.W.fnOf "is_sort" "is_sort" (defArgs s_is_sort) (defBody s_is_sort) (defScope s_is_sort) .none kV5 dc5 pm5 an5 cd5 ct5), sl5⟩)
    (o5 : PySem.W.codeIn K cd5 "is_sort" = true)
    (p5 : PySem.W.keepIn K (.ref f5) = true)
    (a6 : PySem.W.nsIn K mainGlobals "is_row" = some (some (.ref f6)))
    (l6 : K.lookup f6 = some ⟨oc6, od6, .func (PySem.W.fnOf "is_row" "is_row" (defArgs s_is_row) (defBody s_is_row) (defScope s_is_row) .none kV6 dc6 pm6 an6 cd6 ct6), sl6⟩)
    (o6 : PySem.W.codeIn K cd6 "is_row" = true)
    (p6 : PySem.W.keepIn K (.ref f6) = true)
    (a7 : PySem.W.nsIn K mainGlobals "figures_in" = some (some (.ref f7)))
    (l7 : K.lookup f7 = some ⟨oc7, od7, .func (PySem.W.fnOf "figures_in" "figures_in" (defArgs s_figures_in) (defBody s_figures_in) (defScope s_figures_in) .none kV7 dc7 pm7 an7 cd7 ct7), sl7⟩)
    (o7 : PySem.W.codeIn K cd7 "figures_in" = true)
    (p7 : PySem.W.keepIn K (.ref f7) = true)
    (a8 : PySem.W.nsIn K mainGlobals "number_in" = some (some (.ref f8)))
    (l8 : K.lookup f8 = some ⟨oc8, od8, .func (PySem.W.fnOf "number_in" "number_in" (defArgs s_number_in) (defBody s_number_in) (defScope s_number_in) .none kV8 dc8 pm8 an8 cd8 ct8), sl8⟩)
    (o8 : PySem.W.codeIn K cd8 "number_in" = true)
    (p8 : PySem.W.keepIn K (.ref f8) = true)
    (a9 : PySem.W.nsIn K mainGlobals "thing_in" = some (some (.ref f9)))
    (l9 : K.lookup f9 = some ⟨oc9, od9, .func (PySem.W.fnOf "thing_in" "thing_in" (defArgs s_thing_in) (defBody s_thing_in) (defScope s_thing_in) .none kV9 dc9 pm9 an9 cd9 ct9), sl9⟩)
    (o9 : PySem.W.codeIn K cd9 "thing_in" = true)
    (p9 : PySem.W.keepIn K (.ref f9) = true)
    (a10 : PySem.W.nsIn K mainGlobals "row_in" = some (some (.ref f10)))
    (l10 : K.lookup f10 = some ⟨oc10, od10, .func (PySem.W.fnOf "row_in" "row_in" (defArgs s_row_in) (defBody s_row_in) (defScope s_row_in) .none kV10 dc10 pm10 an10 cd10 ct10), sl10⟩)
    (o10 : PySem.W.codeIn K cd10 "row_in" = true)
    (p10 : PySem.W.keepIn K (.ref f10) = true)
    (a11 : PySem.W.nsIn K mainGlobals "read_rows" = some (some (.ref f11)))
    (l11 : K.lookup f11 = some ⟨oc11, od11, .func (PySem.W.fnOf "read_rows" "read_rows" (defArgs s_read_rows) (defBody s_read_rows) (defScope s_read_rows) .none kV11 dc11 pm11 an11 cd11 ct11), sl11⟩)
    (o11 : PySem.W.codeIn K cd11 "read_rows" = true)
    (p11 : PySem.W.keepIn K (.ref f11) = true)
    (a12 : PySem.W.nsIn K mainGlobals "_law_pool" = some (some (.ref f12)))
    (l12 : K.lookup f12 = some ⟨oc12, od12, .func (PySem.W.fnOf "_law_pool" "_law_pool" (defArgs s_law_pool) (defBody s_law_pool) (defScope s_law_pool) .none kV12 dc12 pm12 an12 cd12 ct12), sl12⟩)
    (o12 : PySem.W.codeIn K cd12 "_law_pool" = true)
    (p12 : PySem.W.keepIn K (.ref f12) = true)
    (a13 : PySem.W.nsIn K mainGlobals "_law_take" = some (some (.ref f13)))
    (l13 : K.lookup f13 = some ⟨oc13, od13, .func (PySem.W.fnOf "_law_take" "_law_take" (defArgs s_law_take) (defBody s_law_take) (defScope s_law_take) .none kV13 dc13 pm13 an13 cd13 ct13), sl13⟩)
    (o13 : PySem.W.codeIn K cd13 "_law_take" = true)
    (p13 : PySem.W.keepIn K (.ref f13) = true)
    (a14 : PySem.W.nsIn K mainGlobals "_law_forms" = some (some (.ref f14)))
    (l14 : K.lookup f14 = some ⟨oc14, od14, .func (PySem.W.fnOf "_law_forms" "_law_forms" (defArgs s_law_forms) (defBody s_law_forms) (defScope s_law_forms) .none kV14 dc14 pm14 an14 cd14 ct14), sl14⟩)
    (o14 : PySem.W.codeIn K cd14 "_law_forms" = true)
    (p14 : PySem.W.keepIn K (.ref f14) = true)
    (a15 : PySem.W.nsIn K mainGlobals "_law_lists" = some (some (.ref f15)))
    (l15 : K.lookup f15 = some ⟨oc15, od15, .func (PySem.W.fnOf "_law_lists" "_law_lists" (defArgs s_law_lists) (defBody s_law_lists) (defScope s_law_lists) .none kV15 dc15 pm15 an15 cd15 ct15), sl15⟩)
    (o15 : PySem.W.codeIn K cd15 "_law_lists" = true)
    (p15 : PySem.W.keepIn K (.ref f15) = true)
    (a16 : PySem.W.nsIn K mainGlobals "_law_part" = some (some (.ref f16)))
    (l16 : K.lookup f16 = some ⟨oc16, od16, .func (PySem.W.fnOf "_law_part" "_law_part" (defArgs s_law_part) (defBody s_law_part) (defScope s_law_part) .none kV16 dc16 pm16 an16 cd16 ct16), sl16⟩)
    (o16 : PySem.W.codeIn K cd16 "_law_part" = true)
    (p16 : PySem.W.keepIn K (.ref f16) = true)
    (a17 : PySem.W.nsIn K mainGlobals "_law_row" = some (some (.ref f17)))
    (l17 : K.lookup f17 = some ⟨oc17, od17, .func (PySem.W.fnOf "_law_row" "_law_row" (defArgs s_law_row) (defBody s_law_row) (defScope s_law_row) .none kV17 dc17 pm17 an17 cd17 ct17), sl17⟩)
    (o17 : PySem.W.codeIn K cd17 "_law_row" = true)
    (p17 : PySem.W.keepIn K (.ref f17) = true)
    (a18 : PySem.W.nsIn K mainGlobals "_law_is_from" = some (some (.ref f18)))
    (l18 : K.lookup f18 = some ⟨oc18, od18, .func (PySem.W.fnOf "_law_is_from" "_law_is_from" (defArgs s_law_is_from) (defBody s_law_is_from) (defScope s_law_is_from) .none kV18 dc18 pm18 an18 cd18 ct18), sl18⟩)
    (o18 : PySem.W.codeIn K cd18 "_law_is_from" = true)
    (p18 : PySem.W.keepIn K (.ref f18) = true)
    (a19 : PySem.W.nsIn K mainGlobals "_law_is_part" = some (some (.ref f19)))
    (l19 : K.lookup f19 = some ⟨oc19, od19, .func (PySem.W.fnOf "_law_is_part" "_law_is_part" (defArgs s_law_is_part) (defBody s_law_is_part) (defScope s_law_is_part) .none kV19 dc19 pm19 an19 cd19 ct19), sl19⟩)
    (o19 : PySem.W.codeIn K cd19 "_law_is_part" = true)
    (p19 : PySem.W.keepIn K (.ref f19) = true)
    (a20 : PySem.W.nsIn K mainGlobals "_law_is_row" = some (some (.ref f20)))
    (l20 : K.lookup f20 = some ⟨oc20, od20, .func (PySem.W.fnOf "_law_is_row" "_law_is_row" (defArgs s_law_is_row) (defBody s_law_is_row) (defScope s_law_is_row) .none kV20 dc20 pm20 an20 cd20 ct20), sl20⟩)
    (o20 : PySem.W.codeIn K cd20 "_law_is_row" = true)
    (p20 : PySem.W.keepIn K (.ref f20) = true)
    (a21 : PySem.W.nsIn K mainGlobals "_law_shown_part" = some (some (.ref f21)))
    (l21 : K.lookup f21 = some ⟨oc21, od21, .func (PySem.W.fnOf "_law_shown_part" "_law_shown_part" (defArgs s_law_shown_part) (defBody s_law_shown_part) (defScope s_law_shown_part) .none kV21 dc21 pm21 an21 cd21 ct21), sl21⟩)
    (o21 : PySem.W.codeIn K cd21 "_law_shown_part" = true)
    (p21 : PySem.W.keepIn K (.ref f21) = true)
    (a22 : PySem.W.nsIn K mainGlobals "_law_line" = some (some (.ref f22)))
    (l22 : K.lookup f22 = some ⟨oc22, od22, .func (PySem.W.fnOf "_law_line" "_law_line" (defArgs s_law_line) (defBody s_law_line) (defScope s_law_line) .none kV22 dc22 pm22 an22 cd22 ct22), sl22⟩)
    (o22 : PySem.W.codeIn K cd22 "_law_line" = true)
    (p22 : PySem.W.keepIn K (.ref f22) = true)
    (a23 : PySem.W.nsIn K mainGlobals "_law_text" = some (some (.ref f23)))
    (l23 : K.lookup f23 = some ⟨oc23, od23, .func (PySem.W.fnOf "_law_text" "_law_text" (defArgs s_law_text) (defBody s_law_text) (defScope s_law_text) .none kV23 dc23 pm23 an23 cd23 ct23), sl23⟩)
    (o23 : PySem.W.codeIn K cd23 "_law_text" = true)
    (p23 : PySem.W.keepIn K (.ref f23) = true)
    (a24 : PySem.W.nsIn K mainGlobals "_law_number_in" = some (some (.ref f24)))
    (l24 : K.lookup f24 = some ⟨oc24, od24, .func (PySem.W.fnOf "_law_number_in" "_law_number_in" (defArgs s_law_number_in) (defBody s_law_number_in) (defScope s_law_number_in) .none kV24 dc24 pm24 an24 cd24 ct24), sl24⟩)
    (o24 : PySem.W.codeIn K cd24 "_law_number_in" = true)
    (p24 : PySem.W.keepIn K (.ref f24) = true)
    (a25 : PySem.W.nsIn K mainGlobals "_law_part_in" = some (some (.ref f25)))
    (l25 : K.lookup f25 = some ⟨oc25, od25, .func (PySem.W.fnOf "_law_part_in" "_law_part_in" (defArgs s_law_part_in) (defBody s_law_part_in) (defScope s_law_part_in) .none kV25 dc25 pm25 an25 cd25 ct25), sl25⟩)
    (o25 : PySem.W.codeIn K cd25 "_law_part_in" = true)
    (p25 : PySem.W.keepIn K (.ref f25) = true)
    (a26 : PySem.W.nsIn K mainGlobals "_law_row_in" = some (some (.ref f26)))
    (l26 : K.lookup f26 = some ⟨oc26, od26, .func (PySem.W.fnOf "_law_row_in" "_law_row_in" (defArgs s_law_row_in) (defBody s_law_row_in) (defScope s_law_row_in) .none kV26 dc26 pm26 an26 cd26 ct26), sl26⟩)
    (o26 : PySem.W.codeIn K cd26 "_law_row_in" = true)
    (p26 : PySem.W.keepIn K (.ref f26) = true)
    (a27 : PySem.W.nsIn K mainGlobals "_law_due" = some (some (.ref f27)))
    (l27 : K.lookup f27 = some ⟨oc27, od27, .func (PySem.W.fnOf "_law_due" "_law_due" (defArgs s_law_due) (defBody s_law_due) (defScope s_law_due) .none kV27 dc27 pm27 an27 cd27 ct27), sl27⟩)
    (o27 : PySem.W.codeIn K cd27 "_law_due" = true)
    (p27 : PySem.W.keepIn K (.ref f27) = true)
    (a28 : PySem.W.nsIn K mainGlobals "_law_told" = some (some (.ref f28)))
    (l28 : K.lookup f28 = some ⟨oc28, od28, .func (PySem.W.fnOf "_law_told" "_law_told" (defArgs s_law_told) (defBody s_law_told) (defScope s_law_told) .none kV28 dc28 pm28 an28 cd28 ct28), sl28⟩)
    (o28 : PySem.W.codeIn K cd28 "_law_told" = true)
    (p28 : PySem.W.keepIn K (.ref f28) = true)
    (a29 : PySem.W.nsIn K mainGlobals "_law_bent" = some (some (.ref f29)))
    (l29 : K.lookup f29 = some ⟨oc29, od29, .func (PySem.W.fnOf "_law_bent" "_law_bent" (defArgs s_law_bent) (defBody s_law_bent) (defScope s_law_bent) .none kV29 dc29 pm29 an29 cd29 ct29), sl29⟩)
    (o29 : PySem.W.codeIn K cd29 "_law_bent" = true)
    (p29 : PySem.W.keepIn K (.ref f29) = true)
    (a30 : PySem.W.nsIn K mainGlobals "law" = some (some (.ref f30)))
    (l30 : K.lookup f30 = some ⟨oc30, od30, .func (PySem.W.fnOf "law" "law" (defArgs s_law) (defBody s_law) (defScope s_law) .none kV30 dc30 pm30 an30 cd30 ct30), sl30⟩)
    (o30 : PySem.W.codeIn K cd30 "law" = true)
    (p30 : PySem.W.keepIn K (.ref f30) = true)
    (k_CELLS : PySem.W.nsIn K mainGlobals "CELLS" = some (some (.int 4096 t_CELLS)))
    (k_RIGHTS : PySem.W.nsIn K mainGlobals "RIGHTS" = some (some (.str "rwlsnfxco" t_RIGHTS)))
    (k_BOXES : PySem.W.nsIn K mainGlobals "BOXES" = some (some (.int 8 t_BOXES)))
    (k_MOST_WORTH : PySem.W.nsIn K mainGlobals "MOST_WORTH" = some (some (.int 65535 t_MOST_WORTH)))
    (k_LEAST_OFFSET : PySem.W.nsIn K mainGlobals "LEAST_OFFSET" = some (some (.int (-8) t_LEAST_OFFSET)))
    (k_MOST_OFFSET : PySem.W.nsIn K mainGlobals "MOST_OFFSET" = some (some (.int 15 t_MOST_OFFSET)))
    (k_MOST_ROWS : PySem.W.nsIn K mainGlobals "MOST_ROWS" = some (some (.int 64 t_MOST_ROWS)))
    (k_DEEDS : PySem.W.nsIn K mainGlobals "DEEDS" = some (some (.ref d_DEEDS)))
    (l_DEEDS : K.lookup d_DEEDS = some ⟨.type "tuple", none, .seq #[.str "plus" t0_DEEDS, .str "minus" t1_DEEDS, .str "times" t2_DEEDS, .str "and" t3_DEEDS, .str "or" t4_DEEDS, .str "either" t5_DEEDS] n_DEEDS, sl_DEEDS⟩)
    (k_ASKS : PySem.W.nsIn K mainGlobals "ASKS" = some (some (.ref d_ASKS)))
    (l_ASKS : K.lookup d_ASKS = some ⟨.type "tuple", none, .seq #[.str "same" t0_ASKS, .str "unlike" t1_ASKS, .str "under" t2_ASKS, .str "from" t3_ASKS] n_ASKS, sl_ASKS⟩)
    (k_WHATS : PySem.W.nsIn K mainGlobals "WHATS" = some (some (.ref d_WHATS)))
    (l_WHATS : K.lookup d_WHATS = some ⟨.type "tuple", none, .seq #[.str "mark" t0_WHATS, .str "bits" t1_WHATS, .str "at" t2_WHATS, .str "low" t3_WHATS, .str "high" t4_WHATS, .str "rights" t5_WHATS, .str "kind" t6_WHATS] n_WHATS, sl_WHATS⟩)
    (k_FORMS : PySem.W.nsIn K mainGlobals "FORMS" = some (some (.ref d_FORMS)))
    (l_FORMS : K.lookup d_FORMS = some ⟨.type "dict", none, .dict #[{ hash := PyData.keyHash w.params "set", key := .str "set" t0_FORMS, val := .str "bn" u0_FORMS }, { hash := PyData.keyHash w.params "move", key := .str "move" t1_FORMS, val := .str "bb" u1_FORMS }, { hash := PyData.keyHash w.params "do", key := .str "do" t2_FORMS, val := .str "dby" u2_FORMS }, { hash := PyData.keyHash w.params "walk", key := .str "walk" t3_FORMS, val := .str "by" u3_FORMS }, { hash := PyData.keyHash w.params "narrow", key := .str "narrow" t4_FORMS, val := .str "by" u4_FORMS }, { hash := PyData.keyHash w.params "exact", key := .str "exact" t5_FORMS, val := .str "by" u5_FORMS }, { hash := PyData.keyHash w.params "less", key := .str "less" t6_FORMS, val := .str "br" u6_FORMS }, { hash := PyData.keyHash w.params "seal", key := .str "seal" t7_FORMS, val := .str "bb" u7_FORMS }, { hash := PyData.keyHash w.params "open", key := .str "open" t8_FORMS, val := .str "bb" u8_FORMS }, { hash := PyData.keyHash w.params "entry", key := .str "entry" t9_FORMS, val := .str "b" u9_FORMS }, { hash := PyData.keyHash w.params "ask", key := .str "ask" t10_FORMS, val := .str "bkb" u10_FORMS }, { hash := PyData.keyHash w.params "here", key := .str "here" t11_FORMS, val := .str "b" u11_FORMS }, { hash := PyData.keyHash w.params "load", key := .str "load" t12_FORMS, val := .str "bbo" u12_FORMS }, { hash := PyData.keyHash w.params "store", key := .str "store" t13_FORMS, val := .str "bob" u13_FORMS }, { hash := PyData.keyHash w.params "poke", key := .str "poke" t14_FORMS, val := .str "bob" u14_FORMS }, { hash := PyData.keyHash w.params "jump", key := .str "jump" t15_FORMS, val := .str "jbyt" u15_FORMS }, { hash := PyData.keyHash w.params "go", key := .str "go" t16_FORMS, val := .str "t" u16_FORMS }, { hash := PyData.keyHash w.params "enter", key := .str "enter" t17_FORMS, val := .str "b" u17_FORMS }, { hash := PyData.keyHash w.params "call", key := .str "call" t18_FORMS, val := .str "b" u18_FORMS }, { hash := PyData.keyHash w.params "back", key := .str "back" t19_FORMS, val := .str "" u19_FORMS }, { hash := PyData.keyHash w.params "room", key := .str "room" t20_FORMS, val := .str "by" u20_FORMS }, { hash := PyData.keyHash w.params "give", key := .str "give" t21_FORMS, val := .str "b" u21_FORMS }] n_FORMS, #[]⟩)
    (lo_FORMS : (d_FORMS == sysModules) = false)
    (k_FIGURES : PySem.W.nsIn K mainGlobals "FIGURES" = some (some (.str "0123456789" t_FIGURES)))
    (z_abs : PySem.W.nsIn K mainGlobals "abs" = some none)
    (z_all : PySem.W.nsIn K mainGlobals "all" = some none)
    (z_bool : PySem.W.nsIn K mainGlobals "bool" = some none)
    (z_enumerate : PySem.W.nsIn K mainGlobals "enumerate" = some none)
    (z_int : PySem.W.nsIn K mainGlobals "int" = some none)
    (z_isinstance : PySem.W.nsIn K mainGlobals "isinstance" = some none)
    (z_len : PySem.W.nsIn K mainGlobals "len" = some none)
    (z_list : PySem.W.nsIn K mainGlobals "list" = some none)
    (z_max : PySem.W.nsIn K mainGlobals "max" = some none)
    (z_min : PySem.W.nsIn K mainGlobals "min" = some none)
    (z_range : PySem.W.nsIn K mainGlobals "range" = some none)
    (z_repr : PySem.W.nsIn K mainGlobals "repr" = some none)
    (z_sorted : PySem.W.nsIn K mainGlobals "sorted" = some none)
    (z_str : PySem.W.nsIn K mainGlobals "str" = some none)
    (z_sum : PySem.W.nsIn K mainGlobals "sum" = some none)
    (z_tuple : PySem.W.nsIn K mainGlobals "tuple" = some none)
    (z_zip : PySem.W.nsIn K mainGlobals "zip" = some none)
    (g_ReachError : PySem.W.nsIn K mainGlobals "ReachError" = some (some (.ref c0)))
    (E1_ReachError : PySem.W.findIn K (.ref c0) "__getattribute__" = some (some (.builtin "BaseException.__getattribute__")))
    (E2_ReachError : PySem.W.findIn K (.ref c0) "__getattr__" = some none)
    (E3_ReachError : PySem.W.subIn K (.ref c0) (.type "BaseException") = some true)
    (E4_ReachError : PySem.W.hasDictIn K c0 = true)
    (E5_ReachError : PySem.W.findIn K (.ref c0) "__class__" = some (some (.builtin "object.__class__")))
    (E8_ReachError : PySem.W.mroIn K c0 (.type "object") = some true)
    (g_NoRows : PySem.W.nsIn K mainGlobals "NoRows" = some (some (.ref c1)))
    (E1_NoRows : PySem.W.findIn K (.ref c1) "__getattribute__" = some (some (.builtin "BaseException.__getattribute__")))
    (E2_NoRows : PySem.W.findIn K (.ref c1) "__getattr__" = some none)
    (E3_NoRows : PySem.W.subIn K (.ref c1) (.type "BaseException") = some true)
    (E4_NoRows : PySem.W.hasDictIn K c1 = true)
    (E5_NoRows : PySem.W.findIn K (.ref c1) "__class__" = some (some (.builtin "object.__class__")))
    (E8_NoRows : PySem.W.mroIn K c1 (.type "object") = some true)
    (g_NoText : PySem.W.nsIn K mainGlobals "NoText" = some (some (.ref c2)))
    (E1_NoText : PySem.W.findIn K (.ref c2) "__getattribute__" = some (some (.builtin "BaseException.__getattribute__")))
    (E2_NoText : PySem.W.findIn K (.ref c2) "__getattr__" = some none)
    (E3_NoText : PySem.W.subIn K (.ref c2) (.type "BaseException") = some true)
    (E4_NoText : PySem.W.hasDictIn K c2 = true)
    (E5_NoText : PySem.W.findIn K (.ref c2) "__class__" = some (some (.builtin "object.__class__")))
    (E8_NoText : PySem.W.mroIn K c2 (.type "object") = some true)
    (E6 : PySem.W.specialIn K (.builtin "object.__class__") "__get__" = some (some (.builtin "getset_descriptor.__get__")))
    (E7 : PySem.W.takesIn K (.builtin "object.__class__") = some true)
    (sp_ReachError : PySem.W.specialIn K (.ref c0) "__getattribute__" = some (some (.builtin "type.__getattribute__")))
    (rd_ReachError : PySem.W.readsIn K c0 (.type "type") = true)
    (vl_ReachError : PySem.W.findCls K (.ref c0) (.type "type") "__init__" = some (.val (.builtin "ValueError.__init__")))
    (xL_NoText : K.lookup c2 = some (excClassObj nm2 q2 c2 N2 bs2 [.ref c0, .type "ValueError", .type "Exception", .type "BaseException", .type "object"] true sn2 sub2 ab2 col2 dd2 m02 m12 m22 m32 m52 "ValueError.__new__"))
    (sa_NoText : PySem.W.findIn K (.ref c2) "__setattr__" = some (some (.builtin "object.__setattr__")))
    (iC_NoText : PySem.W.findIn K (.ref c2) "__init__" = some (some (.ref g2)))
    (tI_NoText : PySem.W.typeIn K (.ref g2) = some (.type "function"))
    (li_NoText : K.lookup g2 = some ⟨ioc2, iod2, .func (PySem.W.fnOf "__init__" "NoText.__init__" (defArgs si_NoText) (defBody si_NoText) (defScope si_NoText) .none ikV2 idc2 ipm2 ian2 icd2 ict2), isl2⟩)
    (oi_NoText : PySem.W.codeIn K icd2 "NoText.__init__" = true)
    (pi_NoText : PySem.W.keepIn K (.ref g2) = true)
    (p_NoText : PySem.W.keepIn K (.ref c2) = true)
    (u_NoText : PySem.W.subIn K (.ref c2) (.type "BaseException") = some true)
    (y_NoText : PySem.W.typeIn K (.ref c2) = some (.type "type"))
    (no_NoRows_number : PySem.W.findIn K (.ref c1) "number" = some none)
    (no_NoText_number : PySem.W.findIn K (.ref c2) "number" = some none)
    (e_NoRows_ReachError : PySem.W.exmOne K (.ref c1) (.ref c0) = some true)
    (e_NoText_ReachError : PySem.W.exmOne K (.ref c2) (.ref c0) = some true)
    (e_ReachError_ReachError : PySem.W.exmOne K (.ref c0) (.ref c0) = some true)
    (q_NoRows_NoRows : PySem.W.kitOne K (.ref c1) (.ref c1) = some true)
    (q_NoRows_NoText : PySem.W.kitOne K (.ref c1) (.ref c2) = some false)
    (q_NoText_NoRows : PySem.W.kitOne K (.ref c2) (.ref c1) = some false)
    (q_NoText_NoText : PySem.W.kitOne K (.ref c2) (.ref c2) = some true)
    (q_ReachError_NoRows : PySem.W.kitOne K (.ref c0) (.ref c1) = some false)
    (q_ReachError_NoText : PySem.W.kitOne K (.ref c0) (.ref c2) = some false)
    : ∃ (fd : FuncData) (C : Nat → Addr), (∀ (s : Shared) (v : Value), BindsTo s fd ⟨[v], []⟩ [("_law_script", v)]) ∧ ∀ base : Heap, K.In base → base.Ns mainGlobals mg → FnG l.prog w K mg base (L2.CX l.prog w) 9 fa fd ["_law_script"] (spOf K C 1 g_law) := by
  have e := hfa.symm.trans (PySem.W.mg_of X G a30)
  cases e
  have F0 := fun_mk (st := s_is_whole) l0 o0 p0
  have F1 := fun_mk (st := s_is_rights) l1 o1 p1
  have F2 := fun_mk (st := s_is_from) l2 o2 p2
  have F3 := fun_mk (st := s_is_by) l3 o3 p3
  have F4 := fun_mk (st := s_is_one_of) l4 o4 p4
  have F5 := fun_mk (st := s_is_sort) l5 o5 p5
  have F6 := fun_mk (st := s_is_row) l6 o6 p6
  have F7 := fun_mk (st := s_figures_in) l7 o7 p7
  have F8 := fun_mk (st := s_number_in) l8 o8 p8
  have F9 := fun_mk (st := s_thing_in) l9 o9 p9
  have F10 := fun_mk (st := s_row_in) l10 o10 p10
  have F11 := fun_mk (st := s_read_rows) l11 o11 p11
  have F12 := fun_mk (st := s_law_pool) l12 o12 p12
  have F13 := fun_mk (st := s_law_take) l13 o13 p13
  have F14 := fun_mk (st := s_law_forms) l14 o14 p14
  have F15 := fun_mk (st := s_law_lists) l15 o15 p15
  have F16 := fun_mk (st := s_law_part) l16 o16 p16
  have F17 := fun_mk (st := s_law_row) l17 o17 p17
  have F18 := fun_mk (st := s_law_is_from) l18 o18 p18
  have F19 := fun_mk (st := s_law_is_part) l19 o19 p19
  have F20 := fun_mk (st := s_law_is_row) l20 o20 p20
  have F21 := fun_mk (st := s_law_shown_part) l21 o21 p21
  have F22 := fun_mk (st := s_law_line) l22 o22 p22
  have F23 := fun_mk (st := s_law_text) l23 o23 p23
  have F24 := fun_mk (st := s_law_number_in) l24 o24 p24
  have F25 := fun_mk (st := s_law_part_in) l25 o25 p25
  have F26 := fun_mk (st := s_law_row_in) l26 o26 p26
  have F27 := fun_mk (st := s_law_due) l27 o27 p27
  have F28 := fun_mk (st := s_law_told) l28 o28 p28
  have F29 := fun_mk (st := s_law_bent) l29 o29 p29
  have F30 := fun_mk (st := s_law) l30 o30 p30
  have FI2 := fun_mk (st := si_NoText) li_NoText oi_NoText pi_NoText
  let A : Nat → Addr := fun n => match n with | 0 => f0 | 1 => f1 | 2 => f2 | 3 => f3 | 4 => f4 | 5 => f5 | 6 => f6 | 7 => f7 | 8 => f8 | 9 => f9 | 10 => f10 | 11 => f11 | 12 => f12 | 13 => f13 | 14 => f14 | 15 => f15 | 16 => f16 | 17 => f17 | 18 => f18 | 19 => f19 | 20 => f20 | 21 => f21 | 22 => f22 | 23 => f23 | 24 => f24 | 25 => f25 | 26 => f26 | 27 => f27 | 28 => f28 | 29 => f29 | 30 => fa | 902 => g2 | _ => 0
  let C : Nat → Addr := fun n => match n with | 0 => c0 | 1 => c1 | 2 => c2 | _ => 0
  let fd : Nat → FuncData := fun n => match n with | 902 => PySem.W.fnOf "__init__" "NoText.__init__" (defArgs si_NoText) (defBody si_NoText) (defScope si_NoText) .none ikV2 idc2 ipm2 ian2 icd2 ict2 | 0 => PySem.W.fnOf "is_whole" "is_whole" (defArgs s_is_whole) (defBody s_is_whole) (defScope s_is_whole) .none kV0 dc0 pm0 an0 cd0 ct0 | 1 => PySem.W.fnOf "is_rights" "is_rights" (defArgs s_is_rights) (defBody s_is_rights) (defScope s_is_rights) .none kV1 dc1 pm1 an1 cd1 ct1 | 2 => PySem.W.fnOf "is_from" "is_from" (defArgs s_is_from) (defBody s_is_from) (defScope s_is_from) .none kV2 dc2 pm2 an2 cd2 ct2 | 3 => PySem.W.fnOf "is_by" "is_by" (defArgs s_is_by) (defBody s_is_by) (defScope s_is_by) .none kV3 dc3 pm3 an3 cd3 ct3 | 4 => PySem.W.fnOf "is_one_of" "is_one_of" (defArgs s_is_one_of) (defBody s_is_one_of) (defScope s_is_one_of) .none kV4 dc4 pm4 an4 cd4 ct4 | 5 => PySem.W.fnOf "is_sort" "is_sort" (defArgs s_is_sort) (defBody s_is_sort) (defScope s_is_sort) .none kV5 dc5 pm5 an5 cd5 ct5 | 6 => PySem.W.fnOf "is_row" "is_row" (defArgs s_is_row) (defBody s_is_row) (defScope s_is_row) .none kV6 dc6 pm6 an6 cd6 ct6 | 7 => PySem.W.fnOf "figures_in" "figures_in" (defArgs s_figures_in) (defBody s_figures_in) (defScope s_figures_in) .none kV7 dc7 pm7 an7 cd7 ct7 | 8 => PySem.W.fnOf "number_in" "number_in" (defArgs s_number_in) (defBody s_number_in) (defScope s_number_in) .none kV8 dc8 pm8 an8 cd8 ct8 | 9 => PySem.W.fnOf "thing_in" "thing_in" (defArgs s_thing_in) (defBody s_thing_in) (defScope s_thing_in) .none kV9 dc9 pm9 an9 cd9 ct9 | 10 => PySem.W.fnOf "row_in" "row_in" (defArgs s_row_in) (defBody s_row_in) (defScope s_row_in) .none kV10 dc10 pm10 an10 cd10 ct10 | 11 => PySem.W.fnOf "read_rows" "read_rows" (defArgs s_read_rows) (defBody s_read_rows) (defScope s_read_rows) .none kV11 dc11 pm11 an11 cd11 ct11 | 12 => PySem.W.fnOf "_law_pool" "_law_pool" (defArgs s_law_pool) (defBody s_law_pool) (defScope s_law_pool) .none kV12 dc12 pm12 an12 cd12 ct12 | 13 => PySem.W.fnOf "_law_take" "_law_take" (defArgs s_law_take) (defBody s_law_take) (defScope s_law_take) .none kV13 dc13 pm13 an13 cd13 ct13 | 14 => PySem.W.fnOf "_law_forms" "_law_forms" (defArgs s_law_forms) (defBody s_law_forms) (defScope s_law_forms) .none kV14 dc14 pm14 an14 cd14 ct14 | 15 => PySem.W.fnOf "_law_lists" "_law_lists" (defArgs s_law_lists) (defBody s_law_lists) (defScope s_law_lists) .none kV15 dc15 pm15 an15 cd15 ct15 | 16 => PySem.W.fnOf "_law_part" "_law_part" (defArgs s_law_part) (defBody s_law_part) (defScope s_law_part) .none kV16 dc16 pm16 an16 cd16 ct16 | 17 => PySem.W.fnOf "_law_row" "_law_row" (defArgs s_law_row) (defBody s_law_row) (defScope s_law_row) .none kV17 dc17 pm17 an17 cd17 ct17 | 18 => PySem.W.fnOf "_law_is_from" "_law_is_from" (defArgs s_law_is_from) (defBody s_law_is_from) (defScope s_law_is_from) .none kV18 dc18 pm18 an18 cd18 ct18 | 19 => PySem.W.fnOf "_law_is_part" "_law_is_part" (defArgs s_law_is_part) (defBody s_law_is_part) (defScope s_law_is_part) .none kV19 dc19 pm19 an19 cd19 ct19 | 20 => PySem.W.fnOf "_law_is_row" "_law_is_row" (defArgs s_law_is_row) (defBody s_law_is_row) (defScope s_law_is_row) .none kV20 dc20 pm20 an20 cd20 ct20 | 21 => PySem.W.fnOf "_law_shown_part" "_law_shown_part" (defArgs s_law_shown_part) (defBody s_law_shown_part) (defScope s_law_shown_part) .none kV21 dc21 pm21 an21 cd21 ct21 | 22 => PySem.W.fnOf "_law_line" "_law_line" (defArgs s_law_line) (defBody s_law_line) (defScope s_law_line) .none kV22 dc22 pm22 an22 cd22 ct22 | 23 => PySem.W.fnOf "_law_text" "_law_text" (defArgs s_law_text) (defBody s_law_text) (defScope s_law_text) .none kV23 dc23 pm23 an23 cd23 ct23 | 24 => PySem.W.fnOf "_law_number_in" "_law_number_in" (defArgs s_law_number_in) (defBody s_law_number_in) (defScope s_law_number_in) .none kV24 dc24 pm24 an24 cd24 ct24 | 25 => PySem.W.fnOf "_law_part_in" "_law_part_in" (defArgs s_law_part_in) (defBody s_law_part_in) (defScope s_law_part_in) .none kV25 dc25 pm25 an25 cd25 ct25 | 26 => PySem.W.fnOf "_law_row_in" "_law_row_in" (defArgs s_law_row_in) (defBody s_law_row_in) (defScope s_law_row_in) .none kV26 dc26 pm26 an26 cd26 ct26 | 27 => PySem.W.fnOf "_law_due" "_law_due" (defArgs s_law_due) (defBody s_law_due) (defScope s_law_due) .none kV27 dc27 pm27 an27 cd27 ct27 | 28 => PySem.W.fnOf "_law_told" "_law_told" (defArgs s_law_told) (defBody s_law_told) (defScope s_law_told) .none kV28 dc28 pm28 an28 cd28 ct28 | 29 => PySem.W.fnOf "_law_bent" "_law_bent" (defArgs s_law_bent) (defBody s_law_bent) (defScope s_law_bent) .none kV29 dc29 pm29 an29 cd29 ct29 | 30 => PySem.W.fnOf "law" "law" (defArgs s_law) (defBody s_law) (defScope s_law) .none kV30 dc30 pm30 an30 cd30 ct30 | _ => PySem.W.fnOf "law" "law" (defArgs s_law) (defBody s_law) (defScope s_law) .none kV30 dc30 pm30 an30 cd30 ct30
  have T : Txt w K mg C A fd := {
    f_is_whole := F0,
    b_is_whole := F0.binds (ps := ["thing"]) fun _ _ _ _ _ _ us hl => match us, hl with | [_], _ => rfl,
    g_is_whole := PySem.W.mg_of X G a0,
    f_is_rights := F1,
    b_is_rights := F1.binds (ps := ["thing"]) fun _ _ _ _ _ _ us hl => match us, hl with | [_], _ => rfl,
    g_is_rights := PySem.W.mg_of X G a1,
    f_is_from := F2,
    b_is_from := F2.binds (ps := ["thing", "low", "high"]) fun _ _ _ _ _ _ us hl => match us, hl with | [_, _, _], _ => rfl,
    g_is_from := PySem.W.mg_of X G a2,
    f_is_by := F3,
    b_is_by := F3.binds (ps := ["thing"]) fun _ _ _ _ _ _ us hl => match us, hl with | [_], _ => rfl,
    g_is_by := PySem.W.mg_of X G a3,
    f_is_one_of := F4,
    b_is_one_of := F4.binds (ps := ["thing", "words"]) fun _ _ _ _ _ _ us hl => match us, hl with | [_, _], _ => rfl,
    g_is_one_of := PySem.W.mg_of X G a4,
    f_is_sort := F5,
    b_is_sort := F5.binds (ps := ["sort", "thing"]) fun _ _ _ _ _ _ us hl => match us, hl with | [_, _], _ => rfl,
    g_is_sort := PySem.W.mg_of X G a5,
    f_is_row := F6,
    b_is_row := F6.binds (ps := ["thing"]) fun _ _ _ _ _ _ us hl => match us, hl with | [_], _ => rfl,
    g_is_row := PySem.W.mg_of X G a6,
    f_figures_in := F7,
    b_figures_in := F7.binds (ps := ["word", "most"]) fun _ _ _ _ _ _ us hl => match us, hl with | [_, _], _ => rfl,
    g_figures_in := PySem.W.mg_of X G a7,
    f_number_in := F8,
    b_number_in := F8.binds (ps := ["word"]) fun _ _ _ _ _ _ us hl => match us, hl with | [_], _ => rfl,
    g_number_in := PySem.W.mg_of X G a8,
    f_thing_in := F9,
    b_thing_in := F9.binds (ps := ["sort", "word"]) fun _ _ _ _ _ _ us hl => match us, hl with | [_, _], _ => rfl,
    g_thing_in := PySem.W.mg_of X G a9,
    f_row_in := F10,
    b_row_in := F10.binds (ps := ["line"]) fun _ _ _ _ _ _ us hl => match us, hl with | [_], _ => rfl,
    g_row_in := PySem.W.mg_of X G a10,
    f_read_rows := F11,
    b_read_rows := F11.binds (ps := ["text"]) fun _ _ _ _ _ _ us hl => match us, hl with | [_], _ => rfl,
    g_read_rows := PySem.W.mg_of X G a11,
    f_law_pool := F12,
    b_law_pool := F12.binds (ps := ["_law_script", "_law_k"]) fun _ _ _ _ _ _ us hl => match us, hl with | [_, _], _ => rfl,
    g_law_pool := PySem.W.mg_of X G a12,
    f_law_take := F13,
    b_law_take := F13.binds (ps := ["_law_pool_here", "_law_many"]) fun _ _ _ _ _ _ us hl => match us, hl with | [_, _], _ => rfl,
    g_law_take := PySem.W.mg_of X G a13,
    f_law_forms := F14,
    b_law_forms := F14.binds (ps := []) fun _ _ _ _ _ _ us hl => match us, hl with | [], _ => rfl,
    g_law_forms := PySem.W.mg_of X G a14,
    f_law_lists := F15,
    b_law_lists := F15.binds (ps := ["_law_sort"]) fun _ _ _ _ _ _ us hl => match us, hl with | [_], _ => rfl,
    g_law_lists := PySem.W.mg_of X G a15,
    f_law_part := F16,
    b_law_part := F16.binds (ps := ["_law_pool_here", "_law_sort"]) fun _ _ _ _ _ _ us hl => match us, hl with | [_, _], _ => rfl,
    g_law_part := PySem.W.mg_of X G a16,
    f_law_row := F17,
    b_law_row := F17.binds (ps := ["_law_pool_here"]) fun _ _ _ _ _ _ us hl => match us, hl with | [_], _ => rfl,
    g_law_row := PySem.W.mg_of X G a17,
    f_law_is_from := F18,
    b_law_is_from := F18.binds (ps := ["_law_thing", "_law_low", "_law_high"]) fun _ _ _ _ _ _ us hl => match us, hl with | [_, _, _], _ => rfl,
    g_law_is_from := PySem.W.mg_of X G a18,
    f_law_is_part := F19,
    b_law_is_part := F19.binds (ps := ["_law_sort", "_law_thing"]) fun _ _ _ _ _ _ us hl => match us, hl with | [_, _], _ => rfl,
    g_law_is_part := PySem.W.mg_of X G a19,
    f_law_is_row := F20,
    b_law_is_row := F20.binds (ps := ["_law_thing"]) fun _ _ _ _ _ _ us hl => match us, hl with | [_], _ => rfl,
    g_law_is_row := PySem.W.mg_of X G a20,
    f_law_shown_part := F21,
    b_law_shown_part := F21.binds (ps := ["_law_sort", "_law_thing"]) fun _ _ _ _ _ _ us hl => match us, hl with | [_, _], _ => rfl,
    g_law_shown_part := PySem.W.mg_of X G a21,
    f_law_line := F22,
    b_law_line := F22.binds (ps := ["_law_row_here"]) fun _ _ _ _ _ _ us hl => match us, hl with | [_], _ => rfl,
    g_law_line := PySem.W.mg_of X G a22,
    f_law_text := F23,
    b_law_text := F23.binds (ps := ["_law_rows"]) fun _ _ _ _ _ _ us hl => match us, hl with | [_], _ => rfl,
    g_law_text := PySem.W.mg_of X G a23,
    f_law_number_in := F24,
    b_law_number_in := F24.binds (ps := ["_law_word"]) fun _ _ _ _ _ _ us hl => match us, hl with | [_], _ => rfl,
    g_law_number_in := PySem.W.mg_of X G a24,
    f_law_part_in := F25,
    b_law_part_in := F25.binds (ps := ["_law_sort", "_law_word"]) fun _ _ _ _ _ _ us hl => match us, hl with | [_, _], _ => rfl,
    g_law_part_in := PySem.W.mg_of X G a25,
    f_law_row_in := F26,
    b_law_row_in := F26.binds (ps := ["_law_line_here"]) fun _ _ _ _ _ _ us hl => match us, hl with | [_], _ => rfl,
    g_law_row_in := PySem.W.mg_of X G a26,
    f_law_due := F27,
    b_law_due := F27.binds (ps := ["_law_lines"]) fun _ _ _ _ _ _ us hl => match us, hl with | [_], _ => rfl,
    g_law_due := PySem.W.mg_of X G a27,
    f_law_told := F28,
    b_law_told := F28.binds (ps := ["_law_lines"]) fun _ _ _ _ _ _ us hl => match us, hl with | [_], _ => rfl,
    g_law_told := PySem.W.mg_of X G a28,
    f_law_bent := F29,
    b_law_bent := F29.binds (ps := ["_law_pool_here", "_law_here"]) fun _ _ _ _ _ _ us hl => match us, hl with | [_, _], _ => rfl,
    g_law_bent := PySem.W.mg_of X G a29,
    f_law := F30,
    b_law := F30.binds (ps := ["_law_script"]) fun _ _ _ _ _ _ us hl => match us, hl with | [_], _ => rfl,
    g_law := PySem.W.mg_of X G a30,
    c_CELLS := ⟨_, PySem.W.mg_of X G k_CELLS⟩,
    c_RIGHTS := ⟨_, PySem.W.mg_of X G k_RIGHTS⟩,
    c_BOXES := ⟨_, PySem.W.mg_of X G k_BOXES⟩,
    c_MOST_WORTH := ⟨_, PySem.W.mg_of X G k_MOST_WORTH⟩,
    c_LEAST_OFFSET := ⟨_, PySem.W.mg_of X G k_LEAST_OFFSET⟩,
    c_MOST_OFFSET := ⟨_, PySem.W.mg_of X G k_MOST_OFFSET⟩,
    c_MOST_ROWS := ⟨_, PySem.W.mg_of X G k_MOST_ROWS⟩,
    c_DEEDS := ⟨_, PySem.W.mg_of X G k_DEEDS, [t0_DEEDS, t1_DEEDS, t2_DEEDS, t3_DEEDS, t4_DEEDS, t5_DEEDS], n_DEEDS, sl_DEEDS, rfl, l_DEEDS, by decide⟩,
    c_ASKS := ⟨_, PySem.W.mg_of X G k_ASKS, [t0_ASKS, t1_ASKS, t2_ASKS, t3_ASKS], n_ASKS, sl_ASKS, rfl, l_ASKS, by decide⟩,
    c_WHATS := ⟨_, PySem.W.mg_of X G k_WHATS, [t0_WHATS, t1_WHATS, t2_WHATS, t3_WHATS, t4_WHATS, t5_WHATS, t6_WHATS], n_WHATS, sl_WHATS, rfl, l_WHATS, by decide⟩,
    c_FORMS := ⟨_, PySem.W.mg_of X G k_FORMS, ⟨⟨[(t0_FORMS, u0_FORMS), (t1_FORMS, u1_FORMS), (t2_FORMS, u2_FORMS), (t3_FORMS, u3_FORMS), (t4_FORMS, u4_FORMS), (t5_FORMS, u5_FORMS), (t6_FORMS, u6_FORMS), (t7_FORMS, u7_FORMS), (t8_FORMS, u8_FORMS), (t9_FORMS, u9_FORMS), (t10_FORMS, u10_FORMS), (t11_FORMS, u11_FORMS), (t12_FORMS, u12_FORMS), (t13_FORMS, u13_FORMS), (t14_FORMS, u14_FORMS), (t15_FORMS, u15_FORMS), (t16_FORMS, u16_FORMS), (t17_FORMS, u17_FORMS), (t18_FORMS, u18_FORMS), (t19_FORMS, u19_FORMS), (t20_FORMS, u20_FORMS), (t21_FORMS, u21_FORMS)], n_FORMS, rfl, l_FORMS⟩, by decide +kernel, lo_FORMS, by decide⟩⟩,
    c_FIGURES := ⟨_, PySem.W.mg_of X G k_FIGURES⟩,
    z_abs := PySem.W.mg_none_of X G z_abs,
    z_all := PySem.W.mg_none_of X G z_all,
    z_bool := PySem.W.mg_none_of X G z_bool,
    z_enumerate := PySem.W.mg_none_of X G z_enumerate,
    z_int := PySem.W.mg_none_of X G z_int,
    z_isinstance := PySem.W.mg_none_of X G z_isinstance,
    z_len := PySem.W.mg_none_of X G z_len,
    z_list := PySem.W.mg_none_of X G z_list,
    z_max := PySem.W.mg_none_of X G z_max,
    z_min := PySem.W.mg_none_of X G z_min,
    z_range := PySem.W.mg_none_of X G z_range,
    z_repr := PySem.W.mg_none_of X G z_repr,
    z_sorted := PySem.W.mg_none_of X G z_sorted,
    z_str := PySem.W.mg_none_of X G z_str,
    z_sum := PySem.W.mg_none_of X G z_sum,
    z_tuple := PySem.W.mg_none_of X G z_tuple,
    z_zip := PySem.W.mg_none_of X G z_zip,
    k_ReachError := PySem.W.mg_of X G g_ReachError,
    E_ReachError := ⟨E1_ReachError, E2_ReachError, E3_ReachError, E4_ReachError, E5_ReachError, E6, E7, E8_ReachError⟩,
    k_NoRows := PySem.W.mg_of X G g_NoRows,
    E_NoRows := ⟨E1_NoRows, E2_NoRows, E3_NoRows, E4_NoRows, E5_NoRows, E6, E7, E8_NoRows⟩,
    k_NoText := PySem.W.mg_of X G g_NoText,
    E_NoText := ⟨E1_NoText, E2_NoText, E3_NoText, E4_NoText, E5_NoText, E6, E7, E8_NoText⟩,
    bc_ReachError := ⟨sp_ReachError, rd_ReachError, vl_ReachError⟩,
    fi_NoText := FI2,
    bi_NoText := FI2.binds (ps := ["self", "number"]) fun _ _ _ _ _ _ us hl => match us, hl with | [_, _], _ => rfl,
    t_NoText := ⟨⟨⟨_, _, _, _, _, _, _, _, _, _, _, _, _, _, _, xL_NoText, (by decide +kernel : PySem.HandSPX.refsVE [.type "ValueError", .type "Exception", .type "BaseException", .type "object"] = true)⟩, sa_NoText, u_NoText, y_NoText, p_NoText⟩, iC_NoText, tI_NoText, List.forall_mem_cons.mpr ⟨no_NoText_number, List.forall_mem_nil _⟩⟩,
    X_NoRows_number := ⟨⟨E1_NoRows, E2_NoRows, E3_NoRows, E4_NoRows⟩, no_NoRows_number⟩,
    X_NoText_number := ⟨⟨E1_NoText, E2_NoText, E3_NoText, E4_NoText⟩, no_NoText_number⟩,
    e_NoRows_ReachError := e_NoRows_ReachError,
    e_NoText_ReachError := e_NoText_ReachError,
    e_ReachError_ReachError := e_ReachError_ReachError,
    q_NoRows_NoRows := q_NoRows_NoRows,
    q_NoRows_NoText := q_NoRows_NoText,
    q_NoText_NoRows := q_NoText_NoRows,
    q_NoText_NoText := q_NoText_NoText,
    q_ReachError_NoRows := q_ReachError_NoRows,
    q_ReachError_NoText := q_ReachError_NoText }
  exact ⟨_, C, fun s v => .of_eq rfl, fun base _ _ => ok_law T⟩
end Lw
namespace Lw
open PySem PySem.Spec L2 Ev
theorem mulOk_of {i j : Int} (h : -18446744073709551616 < i) (h2 : i < 18446744073709551616) : mulOk i j = true := by unfold mulOk; simp [h, h2]
theorem take_eq {S : Store} {n : Nat} {a b many : Int} (hS : S[n]? = some (.lst [.int a, .int b])) (hb : 0 ≤ b) (hb2 : b < 2147483647) (hm : 0 < many) (hm2 : many < 18446744073709551616) :
    g_law_take [.loc n, .int many] S = if 0 < a then .ok (.int (a % many)) (S.set n (.lst [.int (a / many), .int b]))
      else .ok (.int ((b * 48271 + 11) % 2147483647 * ((b * 48271 + 11) % 2147483647) % 2147483629 / 16 % many)) (S.set n (.lst [.int a, .int ((b * 48271 + 11) % 2147483647)])) := by
  have hl : n < S.length := (List.getElem?_eq_some_iff.mp hS).1
  have hset : ∀ o : MO, (S.set n o)[n]? = some o := fun o => List.getElem?_set_self hl
  have hb3 : mulOk b 48271 = true := mulOk_of (by omega) (by omega)
  have hb4 : mulOk ((b * 48271 + 11) % 2147483647) ((b * 48271 + 11) % 2147483647) = true := mulOk_of (by omega) (by omega)
  unfold g_law_take runDef m_law_take
  simp [ixD, atI, ixN, hS, putIx, hm, hm2, hb3, hb4, hset]
/-- the pool at n; what else stands is as it was -/
def PoolAt (S : Store) (n : Nat) : Prop := ∃ a b : Int, S[n]? = some (.lst [.int a, .int b]) ∧ 0 ≤ a ∧ 0 ≤ b ∧ b < 2147483647
theorem take_ok {S : Store} {n : Nat} (many : Int) (h : PoolAt S n) (hm : 0 < many) (hm2 : many < 18446744073709551616) : ∃ r S', g_law_take [.loc n, .int many] S = .ok (.int r) S' ∧ 0 ≤ r ∧ r < many ∧ PoolAt S' n ∧ ∃ o, S' = S.set n o := by
  obtain ⟨a, b, hS, ha, hb, hb2⟩ := h
  have hl : n < S.length := (List.getElem?_eq_some_iff.mp hS).1
  rw [take_eq hS hb hb2 hm hm2]
  split
  · exact ⟨_, _, rfl, Int.emod_nonneg _ (by omega), Int.emod_lt_of_pos _ hm, ⟨_, _, List.getElem?_set_self hl, Int.ediv_nonneg ha (by omega), hb, hb2⟩, _, rfl⟩
  · exact ⟨_, _, rfl, Int.emod_nonneg _ (by omega), Int.emod_lt_of_pos _ hm, ⟨_, _, List.getElem?_set_self hl, ha, by omega, by omega⟩, _, rfl⟩
theorem atI_map (ns : List Int) (k : Int) (h : 0 ≤ k) (h2 : k < ns.length) : atI (ns.map D.int) k = some (.int (ns.getD k.toNat 0)) := by
  have h3 : k.toNat < ns.length := by omega
  simp [atI, ixN, h, h2, List.getD, h3]
theorem pool_ok (ns : List Int) (k : Int) (S : Store) (hk : 0 ≤ k) (hk2 : k < 1000) : ∃ a b : Int, 0 ≤ a ∧ 0 ≤ b ∧ b < 2147483647 ∧ g_law_pool [.lst (ns.map D.int), .int k] S = .ok (.loc S.length) (S ++ [.lst [.int a, .int b]]) := by
  have m1 : ∀ x, mulOk 7 x = true := fun x => mulOk_of (by omega) (by omega)
  have m2 : mulOk 7919 k = true := mulOk_of (by omega) (by omega)
  have m3 : mulOk (7919 * k) k = true := mulOk_of (by omega) (by omega)
  have m4 : mulOk 31 k = true := mulOk_of (by omega) (by omega)
  have kk : 0 ≤ 7919 * k * k ∧ 7919 * k * k < 7919000000 := by
    have h1 : 0 ≤ k * k := Int.mul_nonneg hk hk
    have h2 : k * k ≤ 999 * 999 := Int.mul_le_mul (by omega) (by omega) hk (by omega)
    have e : 7919 * k * k = 7919 * (k * k) := Int.mul_assoc ..
    rw [e]
    omega
  have fin : ∀ c : Int, ∃ a b : Int, 0 ≤ a ∧ 0 ≤ b ∧ b < 2147483647 ∧
      ((sSeq (sSet 3 (rCal absD (rCons (rVar 2) rNil)))
                      (sSeq
                        (sSet 4
                          (rBin modD
                            (rBin mulD
                              (rBin addD
                                (rBin addD
                                  (rBin addD (rBin modD (rVar 3) (rCon (D.int 2147483629)))
                                    (rBin mulD (rBin mulD (rCon (D.int 7919)) (rVar 1)) (rVar 1)))
                                  (rBin mulD (rCon (D.int 31)) (rVar 1)))
                                (rCon (D.int 17)))
                              (rCon (D.int 48271)))
                            (rCon (D.int 2147483647))))
                        (sRet
                          (rLstM
                            (rCons
                              (rBin mulD (rVar 3)
                                (rCal intD
                                  (rCons (rBin geD (rVar 3) (rBin powD (rCon (D.int 10)) (rCon (D.int 18)))) rNil)))
                              (rCons (rBin modD (rBin mulD (rVar 4) (rVar 4)) (rCon (D.int 2147483629)))
                                rNil)))))) [some (D.lst (List.map D.int ns)), some (D.int k), some (.int c), none, none] S).res = Res.ok (D.loc (List.length S)) (S ++ [MO.lst [D.int a, D.int b]]) := fun c => by
    generalize hg : (if c < 0 then -c else c) = z
    have hz : 0 ≤ z := by rw [← hg]; split <;> omega
    have m5 : mulOk (z % 2147483629 + 7919 * k * k + 31 * k + 17) 48271 = true := mulOk_of (by omega) (by omega)
    generalize hy : (z % 2147483629 + 7919 * k * k + 31 * k + 17) * 48271 % 2147483647 = y
    have hy0 : 0 ≤ y := by omega
    have hy1 : y < 2147483647 := by omega
    have m6 : mulOk y y = true := mulOk_of (by omega) (by omega)
    have m7 : ∀ b : Bool, mulOk z (if b = true then 1 else 0) = true := fun b => by cases b <;> simp [mulOk]
    have p1 : powOk 10 18 = true := by decide
    have m8 := m7 (decide (10 ^ 18 ≤ z))
    simp at m8
    refine ⟨if 1000000000000000000 ≤ z then z else 0, y * y % 2147483629, ?_, by omega, by omega, ?_⟩
    · split <;> omega
    · simp [hg, m2, m3, m4, m5, hy, m6, p1, m8]
      split <;> simp
  unfold g_law_pool runDef m_law_pool
  by_cases hlt : k < ns.length
  · obtain ⟨a, b, h1, h2, h3, h4⟩ := fin (ns.getD k.toNat 0)
    refine ⟨a, b, h1, h2, h3, ?_⟩
    rw [← h4]
    simp [slD, sumD, cutD, HT.sIx, ← List.map_take, allI_map, m1, hlt, ixD, atI_map ns k hk hlt]
  · obtain ⟨a, b, h1, h2, h3, h4⟩ := fin (7 * (ns.take (min 63 ns.length)).sum + k)
    refine ⟨a, b, h1, h2, h3, ?_⟩
    rw [← h4]
    simp [slD, sumD, cutD, HT.sIx, ← List.map_take, allI_map, m1, hlt]
end Lw
namespace Lw
open PySem PySem.Spec L2 Ev
/-! ### bounds -/
def Typed (S : Store) (d : D) : Prop := ∃ t, tyD S d = some t
def isW : D → Bool
  | .int _ => true
  | _ => false
theorem isi_loc_int {S : Store} {n : Nat} (h : Typed S (.loc n)) : isiD "int" S (.loc n) = some (.bl false) := by
  obtain ⟨t, h⟩ := h
  have h2 := h
  simp only [tyD] at h2
  split at h2 <;> cases h2
  · exact isiD_of h (by decide +kernel)
  · exact isiD_of h (by decide +kernel)
theorem is_whole_eq {S : Store} {d : D} (h : Typed S d) : g_is_whole [d] S = .ok (.bl (isW d)) S := by
  unfold g_is_whole runDef m_is_whole
  cases d with
  | loc n => simp [isi_loc_int h, isW]
  | exn c ns xs => obtain ⟨t, h⟩ := h; cases h
  | _ => simp [isW]
/-- two ints that are bounds -/
def bnd : D → D → Option (Int × Int)
  | .int l, .int h => if 0 ≤ l ∧ l < h ∧ h ≤ 4096 then some (l, h) else none
  | _, _ => none
theorem bnd_some {a b : D} {l h : Int} (e : bnd a b = some (l, h)) : a = .int l ∧ b = .int h ∧ 0 ≤ l ∧ l < h ∧ h ≤ 4096 := by
  unfold bnd at e
  split at e
  · split at e
    · rename_i hh
      cases e
      exact ⟨rfl, rfl, hh⟩
    · cases e
  · cases e
/-! the least bounds in bits -/
/-- h / 2^s, rounded up -/
def cdv (h : Int) (s : Nat) : Int := -(-h / 2 ^ s)
def cnt (l h : Int) (s : Nat) : Int := cdv h s - l / 2 ^ s
/-- the first step from s on, at most n further, at which count is at most 16 -/
def fstep (l h : Int) : Nat → Nat → Nat
  | 0, s => s
  | n + 1, s => if 16 < cnt l h s then fstep l h n (s + 1) else s
def stp (l h : Int) : Nat := fstep l h 8 0
theorem cdv_mono (h : Int) (s : Nat) : True := trivial
theorem cnt8 {l h : Int} (h0 : 0 ≤ l) (h2 : h ≤ 4096) : cnt l h 8 ≤ 16 := by
  unfold cnt cdv
  have e : (2 : Int) ^ 8 = 256 := by decide
  rw [e]
  omega
theorem fstep_spec (l h : Int) : ∀ (n s : Nat), cnt l h (s + n) ≤ 16 → cnt l h (fstep l h n s) ≤ 16 ∧ s ≤ fstep l h n s ∧ fstep l h n s ≤ s + n ∧ ∀ t, s ≤ t → t < fstep l h n s → 16 < cnt l h t
  | 0, s, hc => ⟨hc, Nat.le_refl _, Nat.le_refl _, fun t h1 h2 => absurd h2 (by simp only [fstep]; omega)⟩
  | n + 1, s, hc => by
    unfold fstep
    split
    · rename_i hs
      obtain ⟨h1, h2, h3, h4⟩ := fstep_spec l h n (s + 1) (by rw [show s + 1 + n = s + (n + 1) by omega]; exact hc)
      exact ⟨h1, by omega, by omega, fun t a b => by
        by_cases e : t = s
        · subst e; exact hs
        · exact h4 t (by omega) b⟩
    · rename_i hs
      exact ⟨by omega, Nat.le_refl _, by omega, fun t a b => by omega⟩
theorem stp_spec {l h : Int} (h0 : 0 ≤ l) (h2 : h ≤ 4096) : cnt l h (stp l h) ≤ 16 ∧ stp l h ≤ 8 ∧ ∀ t, t < stp l h → 16 < cnt l h t := by
  obtain ⟨h1, _, h3, h4⟩ := fstep_spec l h 8 0 (cnt8 h0 h2)
  exact ⟨h1, by unfold stp; omega, fun t a => h4 t (Nat.zero_le _) a⟩
def lib (l h : Int) : D := .tup [.int (stp l h), .int (l / 2 ^ stp l h), .int (cnt l h (stp l h))]
theorem lib_loop {l h : Int} {S : Store} {x : Option D} (tc : RT) (hb : RS)
    (ht : tc = rTest (rBin gtD (rBin subD (rUn negD (rBin shrD (rUn negD (rVar 1)) (rVar 2))) (rBin shrD (rVar 0) (rVar 2))) (rCon (.int 16))))
    (hbd : hb = sAug 2 (i2 (fun _ _ => true) fun i j => .int (i + j)) (rCon (.int 1))) :
    ∀ (n s m : Nat), cnt l h (s + n) ≤ 16 → n < m → whileN tc hb m [some (.int l), some (.int h), some (.int s), x] S = .nx [some (.int l), some (.int h), some (.int (fstep l h n s)), x] S
  | 0, s, 0, hc, hm => by omega
  | n + 1, s, 0, hc, hm => by omega
  | 0, s, m + 1, hc, hm => by
    have hs : ¬ 16 < cnt l h s := by have : cnt l h s ≤ 16 := hc; omega
    unfold cnt cdv at hs
    simp [whileN, ht, fstep, hs]
  | n + 1, s, m + 1, hc, hm => by
    by_cases hs : 16 < cnt l h s
    · have ih := lib_loop (S := S) (x := x) tc hb ht hbd n (s + 1) m (by rw [show s + 1 + n = s + (n + 1) by omega]; exact hc) (by omega)
      have e : fstep l h (n + 1) s = fstep l h n (s + 1) := by simp [fstep, hs]
      rw [e, ← ih]
      have hs' := hs
      unfold cnt cdv at hs'
      simp [whileN]
      subst ht hbd
      simp [hs']
    · have e : fstep l h (n + 1) s = s := by simp [fstep, hs]
      have hs' := hs
      unfold cnt cdv at hs'
      simp [whileN, ht, e, hs']
end Lw
namespace Lw
open PySem PySem.Spec L2 Ev
def lhl (l h : Int) : Int := l / 2 ^ stp l h * 2 ^ stp l h
def lhh (l h : Int) : Int := cdv h (stp l h) * 2 ^ stp l h
theorem pow_pos (s : Nat) : (0 : Int) < 2 ^ s := Int.pow_pos (by decide)
theorem div_bnd {l : Int} (s : Nat) (h0 : 0 ≤ l) (h1 : l ≤ 4096) : 0 ≤ l / 2 ^ s ∧ l / 2 ^ s ≤ 4096 := by
  have p := pow_pos s
  refine ⟨Int.ediv_nonneg h0 (by omega), Int.le_trans (Int.ediv_le_self _ h0) h1⟩
theorem cdv_le {h : Int} (s : Nat) : h ≤ cdv h s * 2 ^ s := by
  unfold cdv
  have p := pow_pos s
  have := Int.ediv_mul_le (-h) (Int.ne_of_gt p)
  rw [Int.neg_mul]
  omega
theorem cdv_lt {h : Int} (s : Nat) : cdv h s * 2 ^ s < h + 2 ^ s := by
  unfold cdv
  have p := pow_pos s
  have := Int.lt_ediv_add_one_mul_self (-h) p
  rw [Int.neg_mul]
  rw [Int.add_mul, Int.one_mul] at this
  omega
theorem cdv_pos {h : Int} (s : Nat) (h0 : 0 < h) : 0 < cdv h s := by
  have p := pow_pos s
  have a := cdv_le (h := h) s
  by_cases z : 0 < cdv h s
  · exact z
  · have : cdv h s * 2 ^ s ≤ 0 := Int.mul_nonpos_of_nonpos_of_nonneg (by omega) (by omega)
    omega
theorem cdv_bnd {h : Int} (s : Nat) (h0 : 0 < h) (h1 : h ≤ 4096) : 0 < cdv h s ∧ cdv h s ≤ 4096 := by
  refine ⟨cdv_pos s h0, ?_⟩
  have p := pow_pos s
  have b := cdv_lt (h := h) s
  by_cases z : cdv h s ≤ h
  · omega
  · have : (h + 1) * 2 ^ s ≤ cdv h s * 2 ^ s := Int.mul_le_mul_of_nonneg_right (by omega) (by omega)
    rw [Int.add_mul, Int.one_mul] at this
    have : h * 1 ≤ h * 2 ^ s := Int.mul_le_mul_of_nonneg_left (by omega) (by omega)
    omega
def exb (l h : Int) : Bool := lhl l h == l && lhh l h == h
/-- the greatest high from f down -/
@[irreducible] def gh (l : Int) : Nat → Int → Int
  | 0, f => f
  | n + 1, f => if exb l f = true then f else gh l n (f - 1)
theorem stp_one {l : Int} : stp l (l + 1) = 0 := by
  unfold stp fstep
  have : ¬ 16 < cnt l (l + 1) 0 := by unfold cnt cdv; simp; omega
  simp [this]
theorem ex_one {l : Int} : exb l (l + 1) = true := by
  unfold exb lhl lhh
  rw [stp_one]
  simp [cdv]
/-! rooms -/
def rm (m : Int) : D := .tup [.int (cdv m (stp 0 m) * 2 ^ stp 0 m), .int (stp 0 m)]
theorem rm_loop {m : Int} {S : Store} (tc : RT) (hb : RS)
    (ht : tc = rTest (rBin gtD (rUn negD (rBin shrD (rUn negD (rVar 0)) (rVar 1))) (rCon (.int 16))))
    (hbd : hb = sAug 1 (i2 (fun _ _ => true) fun i j => .int (i + j)) (rCon (.int 1))) :
    ∀ (n s k : Nat), cnt 0 m (s + n) ≤ 16 → n < k → whileN tc hb k [some (.int m), some (.int s)] S = .nx [some (.int m), some (.int (fstep 0 m n s))] S
  | 0, s, 0, hc, hm => by omega
  | n + 1, s, 0, hc, hm => by omega
  | 0, s, k + 1, hc, hm => by
    have hs : ¬ 16 < cnt 0 m s := by have : cnt 0 m s ≤ 16 := hc; omega
    unfold cnt cdv at hs
    rw [Int.zero_ediv, Int.sub_zero] at hs
    simp [whileN, ht, fstep, hs]
  | n + 1, s, k + 1, hc, hm => by
    by_cases hs : 16 < cnt 0 m s
    · have ih := rm_loop (S := S) tc hb ht hbd n (s + 1) k (by rw [show s + 1 + n = s + (n + 1) by omega]; exact hc) (by omega)
      have e : fstep 0 m (n + 1) s = fstep 0 m n (s + 1) := by simp [fstep, hs]
      rw [e, ← ih]
      have hs' := hs
      unfold cnt cdv at hs'
      simp at hs'
      simp [whileN]
      subst ht hbd
      simp [hs']
    · have e : fstep 0 m (n + 1) s = s := by simp [fstep, hs]
      have hs' := hs
      unfold cnt cdv at hs'
      rw [Int.zero_ediv, Int.sub_zero] at hs'
      simp [whileN, ht, e, hs']
def isR : D → Option Int
  | .int m => if 1 ≤ m ∧ m ≤ 4096 then some m else none
  | _ => none
end Lw
namespace Lw
open PySem PySem.Spec L2 Ev
/-! ### loops that search -/
def fnd (c : Nat → Bool) : Nat → Nat → Nat
  | 0, s => s
  | n + 1, s => if c s = true then fnd c n (s + 1) else s
theorem while_fnd {tc : RT} {body : RS} {E : Nat → Ev.Env} {S : Store} {c : Nat → Bool} (N : Nat) (ht : ∀ s, s ≤ N → tc (E s) S = .ok (c s) S) (hb : ∀ s, s < N → body (E s) S = .nx (E (s + 1)) S) :
    ∀ (n s m : Nat), s + n ≤ N → c (s + n) = false → n < m → whileN tc body m (E s) S = .nx (E (fnd c n s)) S
  | 0, s, 0, _, hc, hm => by omega
  | n + 1, s, 0, _, hc, hm => by omega
  | 0, s, m + 1, hN, hc, hm => by
    have h0 : c s = false := hc
    simp [whileN, ht s (by omega), h0, fnd]
  | n + 1, s, m + 1, hN, hc, hm => by
    simp only [whileN, ht s (by omega), fl_ok]
    cases h0 : c s with
    | false => simp [fnd, h0]
    | true =>
      have ih := while_fnd N ht hb n (s + 1) m (by omega) (by rw [show s + 1 + n = s + (n + 1) by omega]; exact hc) (by omega)
      simp [hb s (by omega), fnd, h0, ih]
theorem fnd_all (c : Nat → Bool) : ∀ (n s : Nat), (∀ t, s ≤ t → t < s + n → c t = true) → fnd c n s = s + n
  | 0, s, _ => rfl
  | n + 1, s, h => by
    rw [fnd, if_pos (h s (Nat.le_refl _) (by omega)), fnd_all c n (s + 1) fun t h1 h2 => h t (by omega) (by omega)]
    omega
theorem fnd_congr {c c' : Nat → Bool} : ∀ (n s : Nat), (∀ t, s ≤ t → t < s + n → c t = c' t) → fnd c n s = fnd c' n s
  | 0, s, _ => rfl
  | n + 1, s, h => by
    rw [fnd, fnd, h s (Nat.le_refl _) (by omega), fnd_congr n (s + 1) fun t h1 h2 => h t (by omega) (by omega)]
theorem fstep_fnd (l h : Int) : ∀ (n s : Nat), fstep l h n s = fnd (fun s => decide (16 < cnt l h s)) n s
  | 0, s => rfl
  | n + 1, s => by simp only [fstep, fnd, decide_eq_true_eq, fstep_fnd l h n (s + 1)]
/-! ### the theory of bounds -/
theorem uniqW {a b p h : Int} (hp : 0 < p) (h1 : h ≤ a * p) (h2 : a * p < h + p) (h3 : h ≤ b * p) (h4 : b * p < h + p) : a = b := by
  have e1 : a * p < (b + 1) * p := by rw [Int.add_mul, Int.one_mul]; omega
  have e2 : b * p < (a + 1) * p := by rw [Int.add_mul, Int.one_mul]; omega
  have f1 := Int.lt_of_mul_lt_mul_right e1 (by omega)
  have f2 := Int.lt_of_mul_lt_mul_right e2 (by omega)
  omega
theorem cdv_pred {h : Int} (s : Nat) : (h - 1) / 2 ^ s + 1 = cdv h s := by
  have p := pow_pos s
  have a := cdv_le (h := h) s
  have b := cdv_lt (h := h) s
  have c := Int.ediv_mul_le (h - 1) (Int.ne_of_gt p)
  have d := Int.lt_ediv_add_one_mul_self (h - 1) p
  have e : ((h - 1) / 2 ^ s + 1) * 2 ^ s = (h - 1) / 2 ^ s * 2 ^ s + 2 ^ s := by rw [Int.add_mul, Int.one_mul]
  exact uniqW (h := h) p (by omega) (by omega) a b
theorem cdv_gt {m : Int} (s : Nat) (k : Int) : k < cdv m s ↔ k * 2 ^ s < m := by
  have p := pow_pos s
  have a := cdv_le (h := m) s
  have b := cdv_lt (h := m) s
  constructor
  · intro h
    have : (k + 1) * 2 ^ s ≤ cdv m s * 2 ^ s := Int.mul_le_mul_of_nonneg_right (by omega) (by omega)
    rw [Int.add_mul, Int.one_mul] at this
    omega
  · intro h
    exact Int.lt_of_mul_lt_mul_right (Int.lt_of_lt_of_le h a) (by omega)
theorem cdv_le_iff {m : Int} (s : Nat) (k : Int) : cdv m s ≤ k ↔ m ≤ k * 2 ^ s := by
  have := cdv_gt (m := m) s k
  omega
theorem le_div_iff {l : Int} (s : Nat) (k : Int) : k ≤ l / 2 ^ s ↔ k * 2 ^ s ≤ l := Int.le_ediv_iff_mul_le (pow_pos s)
theorem cdv_mul (k : Int) (s : Nat) : cdv (k * 2 ^ s) s = k := by
  have p := pow_pos s
  exact uniqW (h := k * 2 ^ s) p (cdv_le s) (cdv_lt s) (Int.le_refl _) (by omega)
theorem div_mul' (k : Int) (s : Nat) : k * 2 ^ s / 2 ^ s = k := Int.mul_ediv_cancel _ (Int.ne_of_gt (pow_pos s))
theorem stp_le {l h : Int} {s : Nat} (h0 : 0 ≤ l) (h2 : h ≤ 4096) (hc : cnt l h s ≤ 16) : stp l h ≤ s := by
  obtain ⟨_, _, c⟩ := stp_spec h0 h2
  by_cases z : stp l h ≤ s
  · exact z
  · have := c s (by omega)
    omega
theorem cnt_le {l h a b : Int} {s : Nat} (h1 : a * 2 ^ s ≤ l) (h2 : h ≤ b * 2 ^ s) : cnt l h s ≤ b - a := by
  unfold cnt
  have e1 := (le_div_iff (l := l) s a).mpr h1
  have e2 := (cdv_le_iff (m := h) s b).mpr h2
  omega
theorem pow_split {t s : Nat} (h : t ≤ s) : (2 : Int) ^ s = 2 ^ (s - t) * 2 ^ t := by rw [← Int.pow_add]; congr 1; omega
/-- the least told ones lie within all told ones that hold -/
theorem held_within {l h a b : Int} {s : Nat} (h0 : 0 ≤ l) (h2 : h ≤ 4096) (h3 : a * 2 ^ s ≤ l) (h4 : h ≤ b * 2 ^ s) (h5 : b - a ≤ 16) : a * 2 ^ s ≤ lhl l h ∧ lhh l h ≤ b * 2 ^ s := by
  have hs := stp_le (s := s) h0 h2 (Int.le_trans (cnt_le h3 h4) h5)
  unfold lhl lhh
  generalize stp l h = t at *
  have p := pow_pos t
  rw [pow_split hs] at *
  constructor
  · rw [← Int.mul_assoc] at h3 ⊢
    exact Int.mul_le_mul_of_nonneg_right ((le_div_iff t _).mpr h3) (by omega)
  · rw [← Int.mul_assoc] at h4 ⊢
    exact Int.mul_le_mul_of_nonneg_right ((cdv_le_iff t _).mpr h4) (by omega)
theorem held_holds (l h : Int) : lhl l h ≤ l ∧ h ≤ lhh l h := by
  unfold lhl lhh
  exact ⟨Int.ediv_mul_le _ (Int.ne_of_gt (pow_pos _)), cdv_le _⟩
theorem exact_of {a b : Int} {s : Nat} (h0 : 0 ≤ a * 2 ^ s) (h2 : b * 2 ^ s ≤ 4096) (h5 : b - a ≤ 16) : lhl (a * 2 ^ s) (b * 2 ^ s) = a * 2 ^ s ∧ lhh (a * 2 ^ s) (b * 2 ^ s) = b * 2 ^ s := by
  obtain ⟨e1, e2⟩ := held_within (l := a * 2 ^ s) (h := b * 2 ^ s) h0 h2 (Int.le_refl _) (Int.le_refl _) h5
  obtain ⟨e3, e4⟩ := held_holds (a * 2 ^ s) (b * 2 ^ s)
  omega
theorem exb_of {a b : Int} {s : Nat} (h0 : 0 ≤ a * 2 ^ s) (h2 : b * 2 ^ s ≤ 4096) (h5 : b - a ≤ 16) : exb (a * 2 ^ s) (b * 2 ^ s) = true := by
  obtain ⟨e1, e2⟩ := exact_of h0 h2 h5
  unfold exb
  simp [e1, e2]
theorem top_mul {s : Nat} (h : s ≤ 8) : ∃ k : Int, 4096 = k * 2 ^ s := by
  refine ⟨2 ^ (12 - s), ?_⟩
  rw [← Int.pow_add, show 12 - s + s = 12 by omega]
  decide
theorem lhh_le {l h : Int} (h0 : 0 ≤ l) (h2 : h ≤ 4096) : lhh l h ≤ 4096 := by
  obtain ⟨_, s2, _⟩ := stp_spec h0 h2
  obtain ⟨k, hk⟩ := top_mul s2
  unfold lhh
  have := (cdv_le_iff (m := h) (stp l h) k).mpr (by rw [← hk]; exact h2)
  rw [hk]
  exact Int.mul_le_mul_of_nonneg_right this (Int.le_of_lt (pow_pos _))
theorem lhl_nn {l h : Int} (h0 : 0 ≤ l) : 0 ≤ lhl l h := Int.mul_nonneg (Int.ediv_nonneg h0 (Int.le_of_lt (pow_pos _))) (Int.le_of_lt (pow_pos _))
/-- what is told is told exactly -/
theorem held_exact {l h : Int} (h0 : 0 ≤ l) (h2 : h ≤ 4096) : exb (lhl l h) (lhh l h) = true := by
  obtain ⟨s1, s2, _⟩ := stp_spec h0 h2
  exact exb_of (lhl_nn h0) (lhh_le h0 h2) s1
theorem exb_iff {l h : Int} : exb l h = true ↔ lhl l h = l ∧ lhh l h = h := by unfold exb; simp
/-- of one of the plain kinds -/
def plainK : D → Bool
  | .loc _ => false
  | .exn _ _ _ => false
  | _ => true
theorem typed_of {d : D} (h : plainK d = true) (S : Store) : Typed S d := by
  cases d <;> first | exact ⟨_, rfl⟩ | simp [plainK] at h
/-! of numbers -/
theorem bnd_int {l h : Int} (h0 : 0 ≤ l) (h1 : l < h) (h2 : h ≤ 4096) : bnd (.int l) (.int h) = some (l, h) := by simp [bnd, h0, h1, h2]
end Lw
namespace Lw
open PySem PySem.Spec L2 Ev
/-! ### texts of rights, by a mask of nine places -/
def RG : List Nat := [114, 119, 108, 115, 110, 102, 120, 99, 111]
def rg (i : Nat) : Nat := RG.getD i 0
def sC (l : List Nat) : Str := ⟨l.toArray⟩
def pk (p : Nat → Bool) : List Nat := ((List.range 9).filter p).map rg
def rc (m : Nat) : List Nat := pk m.testBit
@[irreducible] def rs (m : Nat) : Str := sC (rc m)
theorem rs_eq (m : Nat) : rs m = sC (rc m) := by unfold rs; rfl
theorem lit_RG : (Str.ofString "rwlsnfxco") = sC RG := by decide +kernel
theorem lit_cell : (Str.ofString "rwlsn") = sC [114, 119, 108, 115, 110] := by decide +kernel
theorem lit_nil : (Str.ofString "") = sC [] := by decide +kernel
theorem sC_inj {a b : List Nat} : sC a = sC b ↔ a = b := by
  constructor
  · intro h
    have := congrArg (fun x : Str => x.cps.toList) h
    simpa [sC] using this
  · rintro rfl; rfl
theorem sC_eta (x : Str) : sC x.cps.toList = x := by
  cases x
  simp [sC]
theorem signs_sC (l : List Nat) : signsD (sC l) = l.map fun c => D.str (sC [c]) := by simp [signsD, sC]
theorem in_one (c : Nat) (l : List Nat) : strIn (sC [c]) (sC l) = decide (c ∈ l) := by
  have h := StrLaws.found_one (sC l) c
  unfold strIn
  refine Eq.trans h ?_
  rw [decide_eq_decide]
  simp [sC]
theorem strsD_map (l : List Nat) : strsD (l.map fun c => D.str (sC [c])) = some (l.map fun c => sC [c]) := by
  induction l with
  | nil => rfl
  | cons c r ih => simp [strsD, ih]
theorem join_ones (l : List Nat) : Txt.join (sC []) (l.map fun c => sC [c]) = sC l := by
  unfold PySem.Txt.join
  rw [StrLaws.glued_eq_join]
  refine TL.ext_tl ?_
  rw [TL.tl_join]
  induction l with
  | nil => rfl
  | cons c r ih =>
    cases r with
    | nil => rfl
    | cons d r => 
      simp only [List.map_cons, TL.joinL] at ih ⊢
      rw [ih]
      rfl
end Lw
namespace Lw
open PySem PySem.Spec L2 Ev
/-! ### comprehensions -/
theorem lcL_map {α : Type} {t : Tg} {c : RT} {elt : RE} {e0 : Ev.Env} {S : Store} (h : α → D) (E : α → Ev.Env) (p : α → Bool) (f : α → D) : ∀ (xs : List α), (∀ x ∈ xs, bindT S (h x) e0 t = some (E x) ∧ c (E x) S = .ok (p x) S ∧ (p x = true → elt (E x) S = .ok (f x) S)) →
    lcL t c elt e0 (xs.map h) S = .ok ((xs.filter p).map f) S
  | [], _ => rfl
  | x :: xs, hx => by
    obtain ⟨h1, h2, h3⟩ := hx x List.mem_cons_self
    have ih := lcL_map (t := t) (c := c) (elt := elt) (e0 := e0) (S := S) h E p f xs fun y hy => hx y (List.mem_cons_of_mem _ hy)
    simp only [List.map_cons, lcL, h1, h2, bind_ok]
    cases hp : p x with
    | false => simp [hp, ih]
    | true => simp [hp, h3 hp, ih]
theorem rLc_map {α : Type} {it : RA} {t : Tg} {vs : List Nat} {c : RT} {elt : RE} {e : Ev.Env} {S : Store} {h : α → D} {xs : List α} (E : α → Ev.Env) (p : α → Bool) (f : α → D) (hi : it e S = .ok (xs.map h) S) (hl : xs.length ≤ sizeLine)
    (hx : ∀ x ∈ xs, bindT S (h x) (wipeE e vs) t = some (E x) ∧ c (E x) S = .ok (p x) S ∧ (p x = true → elt (E x) S = .ok (f x) S)) : rLc frzL it t vs c elt e S = .ok (.lst ((xs.filter p).map f)) S := by
  unfold rLc
  rw [hi, bind_ok, if_pos (by rw [List.length_map]; exact hl), lcL_map h E p f xs hx]
  rfl
theorem len_small {n : Nat} (h : n ≤ 1000000) : n ≤ sizeLine := Nat.le_trans h (by decide)
/-! ### bits -/
def bAt (b : Int) : Int := b % 4096
def bFst (b : Int) : Int := b / 4096 % 4096
def bCnt (b : Int) : Int := b / 16777216 % 16 + 1
def bStp (b : Int) : Nat := (b / 268435456 % 16).toNat
def bMsk (b : Int) : Nat := (b / 4294967296 % 512).toNat
def bKnd (b : Int) : Int := b / 2199023255552
def tells (b : Int) : Bool := decide (bStp b ≤ 8) && ((bStp b == 0) || decide (8 < bCnt b)) && decide ((bFst b + bCnt b) * 2 ^ bStp b ≤ 4096)
def bLow (b : Int) : Int := bFst b * 2 ^ bStp b
def bHigh (b : Int) : Int := (bFst b + bCnt b) * 2 ^ bStp b
/-- the fields that bits tell -/
def fD (b : Int) : D := if tells b = true then .tup [.int (bLow b), .int (bHigh b), .int (bAt b), .str (rs (bMsk b)), .int (bKnd b)] else .non
theorem and_4095 (x : Int) : Builtin.bitAnd x 4095 = x % 4096 := PySem.W.kbt_mask x 12
theorem and_15 (x : Int) : Builtin.bitAnd x 15 = x % 16 := PySem.W.kbt_mask x 4
theorem and_1 (x : Int) : Builtin.bitAnd x 1 = x % 2 := PySem.W.kbt_mask x 1
theorem and_511 (x : Int) : Builtin.bitAnd x 511 = x % 512 := PySem.W.kbt_mask x 9
theorem msk_bit {b : Int} (h : 0 ≤ b) (i : Nat) (hi : i < 9) : (bMsk b).testBit i = decide (b / 2 ^ (32 + i) % 2 = 1) := by
  obtain ⟨n, rfl⟩ := Int.eq_ofNat_of_zero_le h
  have e : bMsk (n : Int) = n / 2 ^ 32 % 2 ^ 9 := by
    unfold bMsk
    have : ((n : Int) / 4294967296 % 512) = ((n / 4294967296 % 512 : Nat) : Int) := by omega
    rw [this]
    rfl
  rw [e, Nat.testBit_mod_two_pow, Nat.testBit_div_two_pow, Nat.testBit_eq_decide_div_mod_eq]
  simp only [hi, decide_true, Bool.true_and]
  rw [decide_eq_decide]
  have : ((n : Int) / 2 ^ (32 + i) % 2) = ((n / 2 ^ (32 + i) % 2 : Nat) : Int) := by
    rw [Int.natCast_emod, Int.natCast_ediv, Int.natCast_pow]
    rfl
  rw [this, Nat.add_comm i 32]
  omega
theorem enum_RG : enumD [.str (sC RG)] = some ((List.range 9).map fun i => D.tup [.int (i : Nat), .str (sC [rg i])]) := by
  show some (List.mapIdx (fun i d => D.tup [D.int (i : Nat), d]) (signsD (sC RG))) = _
  rw [signs_sC]
  rfl
theorem pk_map (p : Nat → Bool) : ((List.range 9).filter p).map (fun i => D.str (sC [rg i])) = (pk p).map fun c => D.str (sC [c]) := by
  unfold pk
  rw [List.map_map]
  rfl
theorem pk_congr {p q : Nat → Bool} (h : ∀ i, i < 9 → p i = q i) : pk p = pk q := by
  unfold pk
  congr 1
  exact List.filter_congr fun i hi => h i (List.mem_range.mp hi)
theorem pk_len (p : Nat → Bool) : (pk p).length ≤ 9 := by
  unfold pk
  rw [List.length_map]
  exact Nat.le_trans (List.length_filter_le _ _) (by simp)
theorem joinOk_ones (l : List Nat) (h : l.length ≤ 1000000) : joinOk (sC []) (l.map fun c => sC [c]) = true := by
  unfold joinOk
  rw [decide_eq_true_eq, List.map_map]
  have e : (l.map ((fun x : Str => x.length) ∘ fun c => sC [c])).sum = l.length := by
    induction l with
    | nil => rfl
    | cons c r ih =>
      rw [List.map_cons, List.sum_cons, ih (by simp at h; omega), List.length_cons]
      show 1 + r.length = r.length + 1
      omega
  rw [e]
  show l.length + _ * 0 ≤ _
  omega
theorem joinD_ones {S : Store} (l : List Nat) (h : l.length ≤ 1000000) : joinD S (.str (sC [])) [.lst (l.map fun c => D.str (sC [c]))] = some (.str (sC l), S) := by
  unfold joinD
  simp only [seqD, asL, Option.bind_some, strsD_map, joinOk_ones l h, if_true, join_ones]
theorem rMth_join {o : RE} {as : RA} {e : Ev.Env} {S S1 : Store} {l : List Nat} (ho : o e S = .ok (.str (sC [])) S) (ha : as e S = .ok [.lst (l.map fun c => D.str (sC [c]))] S1) (h : l.length ≤ 1000000) : rMth "str" joinD o as e S = .ok (.str (sC l)) S1 := by
  unfold rMth
  rw [ho, bind_ok, if_pos (show tyM S (D.str (sC [])) = some "str" from rfl), ha, bind_ok, joinD_ones l h]
  rfl
theorem p2 (s : Nat) : (2 : Int) ^ s = ((2 ^ s : Nat) : Int) := by rw [Int.natCast_pow]; rfl
end Lw
namespace Lw
open PySem PySem.Spec L2 Ev
/-! ### rights -/
/-- the mask of a text -/
def mskL (l : List Nat) : Nat := ((List.range 9).map fun i => if rg i ∈ l then 2 ^ i else 0).sum
theorem mskL_bits (f : Nat → Bool) : ∀ i, i < 9 → (((List.range 9).map fun i => if f i = true then 2 ^ i else 0).sum).testBit i = f i := by
  intro i hi
  have e : ((List.range 9).map fun i => if f i = true then 2 ^ i else 0).sum = (if f 0 = true then 1 else 0) + ((if f 1 = true then 2 else 0) + ((if f 2 = true then 4 else 0) + ((if f 3 = true then 8 else 0) + ((if f 4 = true then 16 else 0) + ((if f 5 = true then 32 else 0) + ((if f 6 = true then 64 else 0) + ((if f 7 = true then 128 else 0) + (if f 8 = true then 256 else 0)))))))) := by
    simp [List.range_succ, List.map_append, List.sum_append]
  rw [e]
  have d : ∀ (a0 a1 a2 a3 a4 a5 a6 a7 a8 : Bool), ∀ j : Fin 9, ((if a0 = true then 1 else 0) + ((if a1 = true then 2 else 0) + ((if a2 = true then 4 else 0) + ((if a3 = true then 8 else 0) + ((if a4 = true then 16 else 0) + ((if a5 = true then 32 else 0) + ((if a6 = true then 64 else 0) + ((if a7 = true then 128 else 0) + (if a8 = true then 256 else 0)))))))) : Nat).testBit j.val = [a0, a1, a2, a3, a4, a5, a6, a7, a8].getD j.val false := by decide +kernel
  rw [d _ _ _ _ _ _ _ _ _ ⟨i, hi⟩]
  rcases i with _ | _ | _ | _ | _ | _ | _ | _ | _ | i <;> first | rfl | omega
theorem mskL_bit (l : List Nat) (i : Nat) (hi : i < 9) : (mskL l).testBit i = decide (rg i ∈ l) := by
  have := mskL_bits (fun i => decide (rg i ∈ l)) i hi
  simpa [mskL] using this
theorem RG_nd : ∀ i j : Fin 9, rg i.val = rg j.val → i = j := by decide
theorem mem_pk {p : Nat → Bool} {i : Nat} (hi : i < 9) : rg i ∈ pk p ↔ p i = true := by
  unfold pk
  rw [List.mem_map]
  constructor
  · rintro ⟨j, hj, e⟩
    rw [List.mem_filter, List.mem_range] at hj
    have := RG_nd ⟨j, hj.1⟩ ⟨i, hi⟩ e
    cases this
    exact hj.2
  · intro h
    exact ⟨i, List.mem_filter.mpr ⟨List.mem_range.mpr hi, h⟩, rfl⟩
theorem mem_pk' {p : Nat → Bool} {c : Nat} (h : c ∈ pk p) : ∃ i, i < 9 ∧ p i = true ∧ c = rg i := by
  unfold pk at h
  obtain ⟨j, hj, e⟩ := List.mem_map.mp h
  rw [List.mem_filter, List.mem_range] at hj
  exact ⟨j, hj.1, hj.2, e.symm⟩
theorem mem_rc {m i : Nat} (hi : i < 9) : rg i ∈ rc m ↔ m.testBit i = true := mem_pk hi
theorem rc_msk (m : Nat) : rc (mskL (rc m)) = rc m := pk_congr fun i hi => by
  rw [mskL_bit _ i hi, Bool.eq_iff_iff, decide_eq_true_eq, mem_rc hi]
theorem RG_map : RG = (List.range 9).map rg := by decide
/-- "".join([right for right in RIGHTS if right in thing]) -/
theorem rights_join {p : RT} {S : Store} {e : Ev.Env} {x : Str} {i : Nat} {vs : List Nat} (hs : it = rIt (rCon (.str "rwlsnfxco"))) (q : Nat → Bool)
    (hx : ∀ c ∈ RG, p ((wipeE e vs).set i (some (.str (sC [c])))) S = .ok (q c) S ∧ rVar i ((wipeE e vs).set i (some (.str (sC [c])))) S = .ok (.str (sC [c])) S) :
    rMth "str" joinD (rCon (.str "")) (rCons (rLc frzL it (.nm i) vs p (rVar i)) rNil) e S = .ok (.str (sC (RG.filter q))) S := by
  subst hs
  have lc := rLc_map (it := rIt (rCon (.str "rwlsnfxco"))) (t := .nm i) (vs := vs) (c := p) (elt := rVar i) (e := e) (S := S) (h := fun c => D.str (sC [c])) (xs := RG)
    (fun c => (wipeE e vs).set i (some (.str (sC [c])))) q (fun c => .str (sC [c]))
    (by simp only [rIt_eq, rCon_eq, bind_ok, lit_RG, itemsD, signs_sC, ofO_some]) (by decide)
    (fun c hc => ⟨rfl, (hx c hc).1, fun _ => (hx c hc).2⟩)
  exact rMth_join (by rw [rCon_eq, lit_nil]) (by rw [rCons_eq, lc, bind_ok, rNil_eq, bind_ok]) (Nat.le_trans (List.length_filter_le _ _) (by decide))
theorem filter_RG (q : Nat → Bool) : RG.filter q = pk fun i => q (rg i) := by
  conv => lhs; rw [RG_map]
  unfold pk
  rw [List.filter_map]
  rfl
theorem inD_one {S : Store} (c : Nat) (l : List Nat) : inD S (.str (sC [c])) (.str (sC l)) = some (.bl (decide (c ∈ l))) := by
  unfold inD inB
  rw [Option.bind_some, in_one]
theorem ninD_one {S : Store} (c : Nat) (l : List Nat) : ninD S (.str (sC [c])) (.str (sC l)) = some (.bl (!decide (c ∈ l))) := by
  unfold ninD inB
  rw [Option.bind_some, in_one]
/-- whether a text is rights -/
def isRs (x : Str) : Bool := x == rs (mskL x.cps.toList)
theorem rs_isRs (m : Nat) : isRs (rs m) = true := by
  unfold isRs
  rw [beq_iff_eq]
  conv => lhs; rw [rs_eq]
  rw [rs_eq, sC_inj]
  have : (rs m).cps.toList = rc m := by rw [rs_eq]; simp [sC]
  rw [this, rc_msk]
def isStr : D → Option Str
  | .str x => some x
  | _ => none
theorem is_rights_str {x : Str} {S : Store} : g_is_rights [.str x] S = .ok (.bl (isRs x)) S := by
  obtain ⟨l, rfl⟩ : ∃ l, x = sC l := ⟨x.cps.toList, (sC_eta x).symm⟩
  have rj := rights_join (p := rTest (rBin inD (rVar 1) (rVar 0))) (S := S) (e := [some (.str (sC l)), none]) (x := sC l) (i := 1) (vs := [1]) (it := _) rfl (fun c => decide (c ∈ l))
    (fun c hc => ⟨by simp [wipeE, inD_one], by simp [wipeE]⟩)
  rw [filter_RG] at rj
  have e : (pk fun i => decide (rg i ∈ l)) = rc (mskL l) := pk_congr fun i hi => (mskL_bit l i hi).symm
  rw [e, ← rs_eq] at rj
  unfold g_is_rights runDef m_is_rights
  have e2 : (sC l).cps.toList = l := by simp [sC]
  simp [rj, isRs, e2]
theorem is_rights_other {d : D} {S : Store} (h : plainK d = true) (h2 : isStr d = none) : g_is_rights [d] S = .ok (.bl false) S := by
  unfold g_is_rights runDef m_is_rights
  cases d <;> first | (simp [plainK] at h; done) | (simp [isStr] at h2; done) | simp
/-! ### lawful rights -/
def lawM (m : Nat) : Bool := decide (((if m % 32 ≠ 0 then 1 else 0) + (if m.testBit 6 = true then 1 else 0) + (if (m.testBit 7 || m.testBit 8) = true then 1 else 0)) ≤ 1)
def cellC (c : Nat) : Bool := decide (c ∈ [114, 119, 108, 115, 110])
theorem inD_cell {S : Store} (c : Nat) : inD S (.str (sC [c])) (.str (Str.ofString "rwlsn")) = some (.bl (cellC c)) := by rw [lit_cell, inD_one]; rfl
theorem cell_any (m : Nat) : (rc m).any cellC = decide (m % 32 ≠ 0) := by
  have h1 : rc m = rc (m % 512) := pk_congr fun i hi => by
    rw [show 512 = 2 ^ 9 by rfl, Nat.testBit_mod_two_pow]
    simp [hi]
  have h2 : m % 32 = m % 512 % 32 := by omega
  rw [h1, h2]
  have d : ∀ k : Fin 512, (rc k.val).any cellC = decide (k.val % 32 ≠ 0) := by decide +kernel
  exact d ⟨m % 512, Nat.mod_lt _ (by decide)⟩
theorem allB_map' {α : Type} (f : α → Bool) (l : List α) : allB (l.map fun c => D.bl (f c)) = some (l.map f) := by
  have := allB_map (l.map f)
  rw [List.map_map] at this
  exact this
theorem lit_x : (Str.ofString "x") = sC [rg 6] := by decide +kernel
theorem lit_c : (Str.ofString "c") = sC [rg 7] := by decide +kernel
theorem lit_o : (Str.ofString "o") = sC [rg 8] := by decide +kernel
theorem mem_rs {m i : Nat} (hi : i < 9) {S : Store} : inD S (.str (sC [rg i])) (.str (rs m)) = some (.bl (m.testBit i)) := by
  rw [rs_eq, inD_one]
  congr 2
  rw [Bool.eq_iff_iff, decide_eq_true_eq, mem_rc hi]
theorem nmem_rs {m i : Nat} (hi : i < 9) {S : Store} : ninD S (.str (sC [rg i])) (.str (rs m)) = some (.bl (!m.testBit i)) := by
  rw [rs_eq, ninD_one]
  congr 3
  rw [Bool.eq_iff_iff, decide_eq_true_eq, mem_rc hi]
theorem rc_len (m : Nat) : (rc m).length ≤ 9 := pk_len _
end Lw
namespace Lw
open PySem PySem.Spec L2 Ev
/-! ### fields and words -/
structure Fd where
  low : Int
  high : Int
  at_ : Int
  m : Nat
  k : Int
def Fd.good (f : Fd) : Prop := 0 ≤ f.low ∧ f.low < f.high ∧ f.high ≤ 4096 ∧ exb f.low f.high = true ∧ 0 ≤ f.at_ ∧ f.at_ < 4096 ∧ f.m < 512 ∧ 0 ≤ f.k ∧ f.k < 16
def Fd.ok (f : Fd) : Prop := f.good ∧ lawM f.m = true
def Fd.D (f : Fd) : D := .tup [.int f.low, .int f.high, .int f.at_, .str (rs f.m), .int f.k]
def Fd.stp (f : Fd) : Nat := Lw.stp f.low f.high
def Fd.bits (f : Fd) : Int := f.at_ + f.low / 2 ^ f.stp * 4096 + (cnt f.low f.high f.stp - 1) * 16777216 + (f.stp : Nat) * 268435456 + (f.m : Nat) * 4294967296 + f.k * 2199023255552
theorem pow_le8 {s : Nat} (h : s ≤ 8) : (1 : Int) ≤ 2 ^ s ∧ (2 : Int) ^ s ≤ 256 := by
  rcases s with _ | _ | _ | _ | _ | _ | _ | _ | _ | s <;> first | decide | omega
theorem cnt_pos {l h : Int} {s : Nat} (h1 : l < h) : 1 ≤ cnt l h s := by
  unfold cnt
  have p := pow_pos s
  have a := Int.ediv_mul_le l (Int.ne_of_gt p)
  have b := cdv_le (h := h) s
  have c : l / 2 ^ s * 2 ^ s < cdv h s * 2 ^ s := by omega
  have := Int.lt_of_mul_lt_mul_right c (by omega)
  omega
/-- above step 0 count is from 9 on -/
theorem cnt_from9 {l h : Int} (h0 : 0 ≤ l) (h2 : h ≤ 4096) (hs : 0 < stp l h) : 8 < cnt l h (stp l h) := by
  obtain ⟨s1, s2, s3⟩ := stp_spec h0 h2
  have hb := s3 (stp l h - 1) (by omega)
  generalize hz : stp l h = s at *
  obtain ⟨t, rfl⟩ : ∃ t, s = t + 1 := ⟨s - 1, by omega⟩
  rw [Nat.add_sub_cancel] at hb
  unfold cnt at hb ⊢
  have e : (2 : Int) ^ (t + 1) = 2 * 2 ^ t := by rw [Int.pow_succ]; omega
  have p := pow_pos t
  have p1 := pow_pos (t + 1)
  have a1 : cdv h t ≤ 2 * cdv h (t + 1) := by
    refine (cdv_le_iff t _).mpr ?_
    have := cdv_le (h := h) (t + 1)
    rw [e] at this
    rw [show 2 * cdv h (t + 1) * 2 ^ t = cdv h (t + 1) * (2 * 2 ^ t) by rw [Int.mul_comm 2 (cdv h (t + 1)), Int.mul_assoc]]
    exact this
  have a2 : 2 * (l / 2 ^ (t + 1)) ≤ l / 2 ^ t := by
    refine (le_div_iff t _).mpr ?_
    have := Int.ediv_mul_le l (Int.ne_of_gt p1)
    rw [e] at this ⊢
    rw [show 2 * (l / (2 * 2 ^ t)) * 2 ^ t = l / (2 * 2 ^ t) * (2 * 2 ^ t) by rw [Int.mul_comm 2 (l / (2 * 2 ^ t)), Int.mul_assoc]]
    exact this
  omega
theorem Fd.good.spec {f : Fd} (h : f.good) : f.stp ≤ 8 ∧ 1 ≤ cnt f.low f.high f.stp ∧ cnt f.low f.high f.stp ≤ 16 ∧ (0 < f.stp → 8 < cnt f.low f.high f.stp) ∧ 0 ≤ f.low / 2 ^ f.stp ∧ f.low / 2 ^ f.stp < 4096 ∧ f.low / 2 ^ f.stp * 2 ^ f.stp = f.low ∧ (f.low / 2 ^ f.stp + cnt f.low f.high f.stp) * 2 ^ f.stp = f.high := by
  obtain ⟨h0, h1, h2, h3, _⟩ := h
  obtain ⟨s1, s2, s3⟩ := stp_spec h0 h2
  obtain ⟨e1, e2⟩ := exb_iff.mp h3
  have d := div_bnd f.stp h0 (by omega : f.low ≤ 4096)
  have d2 : f.low / 2 ^ f.stp ≤ f.low := Int.ediv_le_self _ h0
  refine ⟨s2, cnt_pos h1, s1, fun h => cnt_from9 h0 h2 h, d.1, by omega, e1, ?_⟩
  have : f.low / 2 ^ f.stp + cnt f.low f.high f.stp = cdv f.high f.stp := by unfold cnt; omega
  rw [this]
  exact e2
theorem Fd.good.range {f : Fd} (h : f.good) : 0 ≤ f.bits ∧ f.bits < 35184372088832 := by
  obtain ⟨a1, a2, a3, a4, a5, a6, a7, a8⟩ := h.spec
  obtain ⟨_, _, _, _, b1, b2, b3, b4, b5⟩ := h
  unfold Fd.bits
  omega
theorem Fd.good.parts {f : Fd} (h : f.good) : bAt f.bits = f.at_ ∧ bFst f.bits = f.low / 2 ^ f.stp ∧ bCnt f.bits = cnt f.low f.high f.stp ∧ bStp f.bits = f.stp ∧ bMsk f.bits = f.m ∧ bKnd f.bits = f.k := by
  obtain ⟨a1, a2, a3, a4, a5, a6, a7, a8⟩ := h.spec
  obtain ⟨_, _, _, _, b1, b2, b3, b4, b5⟩ := h
  unfold bAt bFst bCnt bStp bMsk bKnd Fd.bits
  generalize f.low / 2 ^ f.stp = x at *
  generalize cnt f.low f.high f.stp = y at *
  generalize f.stp = z at *
  refine ⟨?_, ?_, ?_, ?_, ?_, ?_⟩ <;> omega
theorem Fd.good.tells {f : Fd} (h : f.good) : Lw.tells f.bits = true := by
  obtain ⟨a1, a2, a3, a4, a5, a6, a7, a8⟩ := h.spec
  obtain ⟨p1, p2, p3, p4, p5, p6⟩ := h.parts
  unfold Lw.tells
  rw [p2, p3, p4, a8]
  by_cases z : f.stp = 0
  · simp [z, h.2.2.1]
  · simp [a1, a4 (by omega), h.2.2.1]
theorem Fd.good.low {f : Fd} (h : f.good) : bLow f.bits = f.low ∧ bHigh f.bits = f.high := by
  obtain ⟨a1, a2, a3, a4, a5, a6, a7, a8⟩ := h.spec
  obtain ⟨p1, p2, p3, p4, p5, p6⟩ := h.parts
  unfold bLow bHigh
  rw [p2, p3, p4]
  exact ⟨a7, a8⟩
theorem fD_bits {f : Fd} (h : f.good) : fD f.bits = f.D := by
  obtain ⟨p1, p2, p3, p4, p5, p6⟩ := h.parts
  unfold fD Fd.D
  rw [if_pos h.tells, h.low.1, h.low.2, p1, p5, p6]
/-- what bits tell are fields -/
def fdOf (b : Int) : Fd := ⟨bLow b, bHigh b, bAt b, bMsk b, bKnd b⟩
theorem stp_of {a c : Int} {s : Nat} (h0 : 0 ≤ a) (hs : s ≤ 8) (h1 : 1 ≤ c) (h2 : c ≤ 16) (h3 : 0 < s → 8 < c) (h4 : (a + c) * 2 ^ s ≤ 4096) : stp (a * 2 ^ s) ((a + c) * 2 ^ s) = s := by
  have p := pow_pos s
  have hl : 0 ≤ a * 2 ^ s := Int.mul_nonneg h0 (by omega)
  have hc : ∀ t, t ≤ s → cnt (a * 2 ^ s) ((a + c) * 2 ^ s) t = c * 2 ^ (s - t) := fun t ht => by
    unfold cnt
    rw [pow_split ht, ← Int.mul_assoc, ← Int.mul_assoc, cdv_mul, div_mul', ← Int.sub_mul]
    congr 1
    omega
  have l1 : stp (a * 2 ^ s) ((a + c) * 2 ^ s) ≤ s := stp_le hl h4 (by rw [hc s (Nat.le_refl _)]; simp; exact h2)
  obtain ⟨s1, _, _⟩ := stp_spec hl h4
  by_cases z : stp (a * 2 ^ s) ((a + c) * 2 ^ s) = s
  · exact z
  · exfalso
    have l2 : stp (a * 2 ^ s) ((a + c) * 2 ^ s) < s := by omega
    rw [hc _ l1] at s1
    generalize stp (a * 2 ^ s) ((a + c) * 2 ^ s) = t at *
    have e : s - t = (s - t - 1) + 1 := by omega
    rw [e, Int.pow_succ] at s1
    have p2 := pow_pos (s - t - 1)
    have c8 := h3 (by omega)
    have : 9 * (1 * 2) ≤ c * (2 ^ (s - t - 1) * 2) := Int.mul_le_mul (by omega) (by omega) (by omega) (by omega)
    omega
theorem fdOf_good {b : Int} (h : 0 ≤ b) (h2 : b < 35184372088832) (ht : tells b = true) : (fdOf b).good ∧ (fdOf b).bits = b := by
  have hs2 : bStp b < 16 := by unfold bStp; omega
  have f0 : 0 ≤ bFst b ∧ bFst b < 4096 := by unfold bFst; omega
  have c0 : 1 ≤ bCnt b ∧ bCnt b ≤ 16 := by unfold bCnt; omega
  unfold tells at ht
  simp only [Bool.and_eq_true, Bool.or_eq_true, decide_eq_true_eq, beq_iff_eq] at ht
  obtain ⟨⟨t1, t2⟩, t3⟩ := ht
  have p := pow_pos (bStp b)
  have hst := stp_of f0.1 t1 c0.1 c0.2 (by omega) t3
  have hl : 0 ≤ bFst b * 2 ^ bStp b := Int.mul_nonneg f0.1 (by omega)
  have hlt : bFst b * 2 ^ bStp b < (bFst b + bCnt b) * 2 ^ bStp b := Int.mul_lt_mul_of_pos_right (by omega) p
  have g : (fdOf b).good := ⟨hl, hlt, t3, exb_of hl t3 (by omega), by unfold fdOf bAt; simp; omega, by unfold fdOf bAt; simp; omega, by unfold fdOf bMsk; simp; omega, by unfold fdOf bKnd; simp; omega, by unfold fdOf bKnd; simp; omega⟩
  refine ⟨g, ?_⟩
  have e1 : (fdOf b).stp = bStp b := hst
  have e2 : (fdOf b).low / 2 ^ (fdOf b).stp = bFst b := by rw [e1]; exact div_mul' _ _
  have e3 : cnt (fdOf b).low (fdOf b).high (fdOf b).stp = bCnt b := by
    rw [e1]
    show cnt (bFst b * 2 ^ bStp b) ((bFst b + bCnt b) * 2 ^ bStp b) (bStp b) = bCnt b
    unfold cnt
    rw [cdv_mul, div_mul']
    omega
  unfold Fd.bits
  rw [e2, e3, e1]
  unfold fdOf bAt bFst bCnt bStp bMsk bKnd
  simp only
  omega
theorem Fd.good.inj {f g : Fd} (hf : f.good) (hg : g.good) (h : f.bits = g.bits) : f = g := by
  obtain ⟨p1, p2, p3, p4, p5, p6⟩ := hf.parts
  obtain ⟨q1, q2, q3, q4, q5, q6⟩ := hg.parts
  have a := hf.low
  have b := hg.low
  rw [h] at p1 p5 p6 a
  cases f; cases g
  simp only [Fd.mk.injEq] at *
  exact ⟨a.1.symm.trans b.1, a.2.symm.trans b.2, p1.symm.trans q1, p5.symm.trans q5, p6.symm.trans q6⟩
end Lw
namespace Lw
open PySem PySem.Spec L2 Ev
/-! ### are_fields, word_of -/
theorem four_whole {a b c d e : Ev.D} {S : Store} (h : ∀ x ∈ [a, b, c, e], Typed S x) (e0 : Ev.Env) (he : e0 = [some (.tup [a, b, c, d, e]), none, none, none, none, none, none]) :
    rLc frzL (rIt (rTup (rCons (rCon (.int 0)) (rCons (rCon (.int 1)) (rCons (rCon (.int 2)) (rCons (rCon (.int 4)) rNil)))))) (.nm 1) [1] rYes (rCall g_is_whole (rCons (rBin ixD (rVar 0) (rVar 1)) rNil)) e0 S = .ok (.lst [.bl (isW a), .bl (isW b), .bl (isW c), .bl (isW e)]) S := by
  subst he
  have wa := is_whole_eq (h a (by simp))
  have wb := is_whole_eq (h b (by simp))
  have wc := is_whole_eq (h c (by simp))
  have we := is_whole_eq (h e (by simp))
  have lc := rLc_map (it := rIt (rTup (rCons (rCon (.int 0)) (rCons (rCon (.int 1)) (rCons (rCon (.int 2)) (rCons (rCon (.int 4)) rNil)))))) (t := .nm 1) (vs := [1]) (c := rYes) (elt := rCall g_is_whole (rCons (rBin ixD (rVar 0) (rVar 1)) rNil))
    (e := [some (.tup [a, b, c, d, e]), none, none, none, none, none, none]) (S := S) (h := fun p : Int × Bool => .int p.1) (xs := [(0, isW a), (1, isW b), (2, isW c), (4, isW e)])
    (fun p => [some (.tup [a, b, c, d, e]), some (.int p.1), none, none, none, none, none]) (fun _ => true) (fun p => .bl p.2) (by simp) (len_small (by simp))
    (fun p hp => ⟨by simp [wipeE], rfl, fun _ => by
      simp only [List.mem_cons, List.not_mem_nil, or_false] at hp
      rcases hp with rfl | rfl | rfl | rfl <;> simp [ixD, atI, ixN, wa, wb, wc, we]⟩)
  rw [List.filter_eq_self.mpr (fun _ _ => rfl)] at lc
  exact lc
theorem index_RG {S : Store} {i : Nat} (hi : i < 9) : indexS S (.str (sC RG)) [.str (sC [rg i])] = some (.int (i : Nat), S) := by
  have d : ∀ j : Fin 9, Builtin.Str.occurrences (sC RG) (sC [rg j.val]) 0 (sC RG).length 1 = [j.val] := by decide +kernel
  have e := d ⟨i, hi⟩
  unfold indexS
  simp only [e]
theorem sum_bits {m : Nat} (hm : m < 512) : (((List.range 9).filter m.testBit).map fun i => (2 : Int) ^ (32 + i)).sum = (m : Int) * 4294967296 := by
  have d : ∀ j : Fin 512, (((List.range 9).filter j.val.testBit).map fun i => (2 : Int) ^ (32 + i)).sum = (j.val : Int) * 4294967296 := by decide +kernel
  exact d ⟨m, hm⟩
theorem rights_sum {m : Nat} {S : Store} {e : Ev.Env} (hm : m < 512) (he : e[5]? = some (some (.str (rs m)))) (hl : e.length = 12) :
    rLc frzL (rIt (rVar 5)) (.nm 11) [11] rYes (rBin shlD (rCon (.int 1)) (rBin addD (rCon (.int 32)) (rMth "str" indexS (rCon (.str "rwlsnfxco")) (rCons (rVar 11) rNil)))) e S = .ok (.lst (((List.range 9).filter m.testBit).map fun i => D.int (2 ^ (32 + i)))) S := by
  have lc := rLc_map (it := rIt (rVar 5)) (t := .nm 11) (vs := [11]) (c := rYes) (elt := rBin shlD (rCon (.int 1)) (rBin addD (rCon (.int 32)) (rMth "str" indexS (rCon (.str "rwlsnfxco")) (rCons (rVar 11) rNil))))
    (e := e) (S := S) (h := fun i => .str (sC [rg i])) (xs := (List.range 9).filter m.testBit) (fun i => (e.set 11 none).set 11 (some (.str (sC [rg i])))) (fun _ => true) (fun i => .int (2 ^ (32 + i)))
    (by simp only [rIt_eq, rVar_eq, he, bind_ok, rs_eq, itemsD, signs_sC, ofO_some]; rw [pk_map]; rfl) (len_small (Nat.le_trans (List.length_filter_le _ _) (by simp)))
    (fun i hi => ⟨by simp [wipeE], rfl, fun _ => by
      have hi9 := List.mem_range.mp (List.mem_filter.mp hi).1
      have e1 : ((32 : Int) + (i : Nat)).toNat = 32 + i := by omega
      have p : powOk 1 (32 + (i : Nat)) = true := by unfold powOk; simp; omega
      simp [rMth, tyM, lit_RG, hl, index_RG hi9, ofP, p, e1]⟩)
  rw [List.filter_eq_self.mpr (fun _ _ => rfl)] at lc
  exact lc
theorem sumD_bits {m : Nat} {S : Store} (hm : m < 512) : sumD S [.lst (((List.range 9).filter m.testBit).map fun i => D.int (2 ^ (32 + i)))] = some (.int ((m : Int) * 4294967296)) := by
  have al := allI_map (((List.range 9).filter m.testBit).map fun i => (2 : Int) ^ (32 + i))
  rw [List.map_map] at al
  have al2 : allI (((List.range 9).filter m.testBit).map fun i => D.int (2 ^ (32 + i))) = _ := al
  simp only [sumD, asL, Option.bind_some, al2, sum_bits hm]
theorem rs_r : Str.ofString "r" = rs 1 := by rw [rs_eq]; decide +kernel
end Lw
namespace Lw
open PySem PySem.Spec L2 Ev
/-! ### is_word, is_lawful -/
def asW : Ev.D → Option (Bool × Int)
  | .tup [.bl m, .int b] => if 0 ≤ b ∧ b < 35184372088832 then some (m, b) else none
  | _ => none
def isBl : Ev.D → Bool
  | .bl _ => true
  | _ => false
theorem isi_loc_bool {S : Store} {n : Nat} (h : Typed S (.loc n)) : isiD "bool" S (.loc n) = some (.bl false) := by
  obtain ⟨t, h⟩ := h
  have h2 := h
  simp only [tyD] at h2
  split at h2 <;> cases h2
  · exact isiD_of h (by decide +kernel)
  · exact isiD_of h (by decide +kernel)
theorem isi_bool {S : Store} {d : Ev.D} (h : Typed S d) : isiD "bool" S d = some (.bl (isBl d)) := by
  cases d with
  | loc n => rw [isi_loc_bool h]; rfl
  | exn c ns xs => obtain ⟨t, h⟩ := h; cases h
  | _ => simp [isBl]
theorem isi_loc_tuple {S : Store} {n : Nat} (h : Typed S (.loc n)) : isiD "tuple" S (.loc n) = some (.bl false) := by
  obtain ⟨t, h⟩ := h
  have h2 := h
  simp only [tyD] at h2
  split at h2 <;> cases h2
  · exact isiD_of h (by decide +kernel)
  · exact isiD_of h (by decide +kernel)
def lawB (m : Bool) (b : Int) : Bool := !m || (tells b && lawM (bMsk b))
theorem rs_inj {m n : Nat} (hm : m < 512) (hn : n < 512) (h : rs m = rs n) : m = n := by
  rw [rs_eq, rs_eq, sC_inj] at h
  apply Nat.eq_of_testBit_eq
  intro i
  by_cases hi : i < 9
  · have a := mem_rc (m := m) hi
    have b := mem_rc (m := n) hi
    rw [h] at a
    rw [Bool.eq_iff_iff]
    exact a.symm.trans b
  · have e1 : m.testBit i = false := Nat.testBit_lt_two_pow (Nat.lt_of_lt_of_le hm (by
      have : 2 ^ 9 ≤ 2 ^ i := Nat.pow_le_pow_right (by decide) (by omega)
      omega))
    have e2 : n.testBit i = false := Nat.testBit_lt_two_pow (Nat.lt_of_lt_of_le hn (by
      have : 2 ^ 9 ≤ 2 ^ i := Nat.pow_le_pow_right (by decide) (by omega)
      omega))
    rw [e1, e2]
end Lw
namespace Lw
open PySem PySem.Spec L2 Ev
/-! ### are_fields of anything -/
def areF : Ev.D → Bool
  | .tup [.int l, .int h, .int a, .str x, .int k] => decide (0 ≤ l) && (decide (l < h) && (decide (h ≤ 4096) && (decide (0 ≤ a) && (decide (a < 4096) && (decide (0 ≤ k) && (decide (k < 16) && (isRs x && (lawM (mskL x.cps.toList) && exb l h))))))))
  | _ => false
/-- plain, and so are its parts -/
def plain2 : Ev.D → Bool
  | .tup xs => xs.all plainK
  | d => plainK d
theorem isRs_eq {x : Str} (h : isRs x = true) : x = rs (mskL x.cps.toList) := by unfold isRs at h; simpa using h
theorem mskL_lt (l : List Nat) : mskL l < 512 := by
  have e : mskL l = ((List.range 9).map fun i => if (fun i => decide (rg i ∈ l)) i = true then 2 ^ i else 0).sum := by
    unfold mskL
    congr 1
    apply List.map_congr_left
    intro i _
    simp
  rw [e]
  generalize (fun i => decide (rg i ∈ l)) = f
  have e : ((List.range 9).map fun i => if f i = true then 2 ^ i else 0).sum = (if f 0 = true then 1 else 0) + ((if f 1 = true then 2 else 0) + ((if f 2 = true then 4 else 0) + ((if f 3 = true then 8 else 0) + ((if f 4 = true then 16 else 0) + ((if f 5 = true then 32 else 0) + ((if f 6 = true then 64 else 0) + ((if f 7 = true then 128 else 0) + (if f 8 = true then 256 else 0)))))))) := by
    simp [List.range_succ, List.map_append, List.sum_append]
  rw [e]
  have d : ∀ (a0 a1 a2 a3 a4 a5 a6 a7 a8 : Bool), ((if a0 = true then 1 else 0) + ((if a1 = true then 2 else 0) + ((if a2 = true then 4 else 0) + ((if a3 = true then 8 else 0) + ((if a4 = true then 16 else 0) + ((if a5 = true then 32 else 0) + ((if a6 = true then 64 else 0) + ((if a7 = true then 128 else 0) + (if a8 = true then 256 else 0)))))))) : Nat) < 512 := by decide +kernel
  exact d _ _ _ _ _ _ _ _ _
theorem areF_fd {d : Ev.D} (h : areF d = true) : ∃ f : Fd, f.ok ∧ d = f.D := by
  unfold areF at h
  split at h
  · rename_i l hh a x k
    simp only [Bool.and_eq_true, decide_eq_true_eq] at h
    obtain ⟨h0, h1, h2, h3, h4, h5, h6, h7, h8, h9⟩ := h
    refine ⟨⟨l, hh, a, mskL x.cps.toList, k⟩, ⟨⟨h0, h1, h2, h9, h3, h4, mskL_lt _, h5, h6⟩, h8⟩, ?_⟩
    unfold Fd.D
    simp only
    rw [← isRs_eq h7]
  · cases h
end Lw
namespace Lw
open PySem PySem.Spec L2 Ev
/-! ### repr: how long it may be -/
mutual
def bnR : PyData → Nat
  | .none => 4
  | .bool _ => 5
  | .int _ => 1921
  | .str x => 10 * x.length + 2
  | .list xs => 2 + bnRs xs
  | .tuple xs => 3 + bnRs xs
  | .dict _ => 0
def bnRs : List PyData → Nat
  | [] => 0
  | x :: xs => bnR x + 2 + bnRs xs
end
mutual
/-- what may be shown -/
def okR : PyData → Bool
  | .none => true
  | .bool _ => true
  | .int i => decide (i.natAbs.log2 < 1920)
  | .str x => x.cps.toList.all fun c => decide (c < 1114112)
  | .list xs => okRs xs
  | .tuple xs => okRs xs
  | .dict _ => false
def okRs : List PyData → Bool
  | [] => true
  | x :: xs => okR x && okRs xs
end
theorem textFrom_le : ∀ (ts : List Str) (k : Nat) (acc : Str), (textFrom k acc ts).length ≤ acc.length + (ts.map fun t => t.length + 2).sum
  | [], k, acc => by simp [textFrom]
  | t :: ts, k, acc => by
    have ih := textFrom_le ts (k + 1)
    simp only [textFrom, List.map_cons, List.sum_cons]
    refine Nat.le_trans (ih _) ?_
    have e : (Str.ofString ", ").length = 2 := by rw [ofString_length]; rfl
    have e0 : (Str.ofString "").length = 0 := by rw [ofString_length]; rfl
    split <;> simp only [Str.length_append, e, e0] <;> omega
mutual
theorem shown_le : ∀ d : PyData, okR d = true → d.shown.length ≤ bnR d
  | .none, _ => by decide
  | .bool b, _ => by cases b <;> decide
  | .int i, h => by
    simp only [okR, decide_eq_true_eq] at h
    have := int_text_length_le (k := 1920) (by decide) h
    show (Str.ofString (toString i)).length ≤ 1921
    rw [ofString_length]
    exact this
  | .str x, h => by
    simp only [okR, List.all_eq_true, decide_eq_true_eq] at h
    exact StrLaws.reprText_len x fun c hc => Nat.lt_trans (h c hc) (by decide)
  | .list xs, h => by
    have ih := shownAll_le xs h
    show (textFrom 0 (Str.ofString "[") (PyData.shownAll xs) ++ Str.ofString "]").length ≤ 2 + bnRs xs
    have a := textFrom_le (PyData.shownAll xs) 0 (Str.ofString "[")
    have e1 : (Str.ofString "[").length = 1 := by rw [ofString_length]; rfl
    have e2 : (Str.ofString "]").length = 1 := by rw [ofString_length]; rfl
    rw [Str.length_append, e2]
    omega
  | .tuple xs, h => by
    have ih := shownAll_le xs h
    show (Str.ofString "(" ++ Str.join (Str.ofString ", ") (PyData.shownAll xs) ++ Str.ofString (if (PyData.shownAll xs).length == 1 then ",)" else ")")).length ≤ 3 + bnRs xs
    have a := StrLaws.join_length_le (Str.ofString ", ") (PyData.shownAll xs)
    have e0 : (Str.ofString ", ").length = 2 := by rw [ofString_length]; rfl
    have e1 : (Str.ofString "(").length = 1 := by rw [ofString_length]; rfl
    have e2 : (Str.ofString (if (PyData.shownAll xs).length == 1 then ",)" else ")")).length ≤ 2 := by rw [ofString_length]; split <;> decide
    rw [Str.length_append, Str.length_append, e1]
    rw [e0] at a
    have s : ((PyData.shownAll xs).map fun t => t.length + 2).sum = ((PyData.shownAll xs).map fun t => t.length).sum + (PyData.shownAll xs).length * 2 := by
      generalize PyData.shownAll xs = l
      induction l with
      | nil => rfl
      | cons t l ih => simp only [List.map_cons, List.sum_cons, List.length_cons, ih]; omega
    omega
  | .dict _, h => by cases h
theorem shownAll_le : ∀ xs : List PyData, okRs xs = true → ((PyData.shownAll xs).map fun t => t.length + 2).sum ≤ bnRs xs
  | [], _ => Nat.le_refl _
  | x :: xs, h => by
    simp only [okRs, Bool.and_eq_true] at h
    have a := shown_le x h.1
    have b := shownAll_le xs h.2
    simp only [PyData.shownAll, List.map_cons, List.sum_cons, bnRs]
    omega
end
mutual
theorem okR_show : ∀ d : PyData, okR d = true → d.showable = true ∧ d.hasDict = false
  | .none, _ => ⟨rfl, rfl⟩
  | .bool _, _ => ⟨rfl, rfl⟩
  | .int i, h => ⟨h, rfl⟩
  | .str _, _ => ⟨rfl, rfl⟩
  | .list xs, h => okRs_show xs h
  | .tuple xs, h => okRs_show xs h
  | .dict _, h => by cases h
theorem okRs_show : ∀ xs : List PyData, okRs xs = true → PyData.showableAll xs = true ∧ PyData.hasDictAll xs = false
  | [], _ => ⟨rfl, rfl⟩
  | x :: xs, h => by
    simp only [okRs, Bool.and_eq_true] at h
    have a := okR_show x h.1
    have b := okRs_show xs h.2
    simp only [PyData.showableAll, PyData.hasDictAll, a.1, b.1, a.2, b.2]
    exact ⟨rfl, rfl⟩
end
theorem reprD_of {S : Store} {d : D} {p : PyData} (h : pyD S deepN d = some p) (ho : okR p = true) (hb : bnR p ≤ 16777216) : reprD S [d] = some (.str p.shown) := by
  obtain ⟨a, b⟩ := okR_show p ho
  have c := shown_le p ho
  have sl : sizeLine = 16777216 := by decide
  simp only [reprD, h, Option.bind_some]
  rw [if_pos]
  simp only [showOk, a, b, Bool.not_false, Bool.true_and, decide_eq_true_eq]
  omega
theorem log2_lt {i : Int} {k : Nat} (h : i.natAbs < 2 ^ k) (hk : 0 < k) : i.natAbs.log2 < k := by
  by_cases z : i.natAbs = 0
  · rw [z]; simpa using hk
  · exact (Nat.log2_lt z).mpr h
theorem okR_int {i : Int} (h : -(2 ^ 200) < i) (h2 : i < 2 ^ 200) : okR (.int i) = true := by
  simp only [okR, decide_eq_true_eq]
  refine Nat.lt_trans (log2_lt (k := 200) ?_ (by decide)) (by decide)
  omega
end Lw
namespace Lw
open PySem PySem.Spec L2 Ev
/-! ### things that can be shown -/
def okD : Nat → D → Bool
  | _, .non => true
  | _, .bl _ => true
  | _, .int i => decide (-(2 ^ 200) < i) && decide (i < 2 ^ 200)
  | _, .str x => decide (x.length ≤ 100) && x.cps.toList.all fun c => decide (c < 1114112)
  | n + 1, .tup xs => decide (xs.length ≤ 20) && xs.all (okD n)
  | n + 1, .lst xs => decide (xs.length ≤ 20) && xs.all (okD n)
  | _, _ => false
def bdD : Nat → Nat
  | 0 => 1921
  | n + 1 => 3 + 20 * (bdD n + 2)
theorem bdD_ge (n : Nat) : 1921 ≤ bdD n := by
  induction n with
  | zero => exact Nat.le_refl _
  | succ n ih => simp only [bdD]; omega
theorem okD_all {n k : Nat} (hf : ∀ d, okD n d = true → ∃ p, (∀ S : Store, pyD S k d = some p) ∧ okR p = true ∧ bnR p ≤ bdD n) : ∀ xs : List D, xs.all (okD n) = true → ∃ ps, (∀ S : Store, pyAll (pyD S k) xs = some ps) ∧ okRs ps = true ∧ bnRs ps ≤ xs.length * (bdD n + 2)
  | [], _ => ⟨[], fun _ => rfl, rfl, by simp [bnRs]⟩
  | x :: xs, h => by
    rw [List.all_cons, Bool.and_eq_true] at h
    obtain ⟨p, h1, h2, h3⟩ := hf x h.1
    obtain ⟨ps, h4, h5, h6⟩ := okD_all hf xs h.2
    refine ⟨p :: ps, fun S => by simp [h1 S, h4 S], by simp [okRs, h2, h5], ?_⟩
    simp only [bnRs, List.length_cons, Nat.succ_mul]
    omega
theorem okD_py : ∀ (n k : Nat) (d : D), n ≤ k → okD n d = true → ∃ p, (∀ S : Store, pyD S k d = some p) ∧ okR p = true ∧ bnR p ≤ bdD n := by
  intro n
  induction n with
  | zero =>
    intro k d hk h
    cases d with
    | non => exact ⟨.none, fun S => by simp, rfl, by decide⟩
    | bl b => exact ⟨.bool b, fun S => by simp, rfl, by simp [bnR, bdD]⟩
    | int i =>
      simp only [okD, Bool.and_eq_true, decide_eq_true_eq] at h
      exact ⟨.int i, fun S => by simp, okR_int h.1 h.2, by simp [bnR, bdD]⟩
    | str x =>
      simp only [okD, Bool.and_eq_true, decide_eq_true_eq] at h
      exact ⟨.str x, fun S => by simp, h.2, by simp only [bnR, bdD]; omega⟩
    | _ => simp [okD] at h
  | succ n ih =>
    intro k d hk h
    have bg := bdD_ge n
    obtain ⟨k, rfl⟩ : ∃ j, k = j + 1 := ⟨k - 1, by omega⟩
    cases d with
    | non => exact ⟨.none, fun S => by simp, rfl, by simp only [bnR, bdD]; omega⟩
    | bl b => exact ⟨.bool b, fun S => by simp, rfl, by simp only [bnR, bdD]; omega⟩
    | int i =>
      simp only [okD, Bool.and_eq_true, decide_eq_true_eq] at h
      exact ⟨.int i, fun S => by simp, okR_int h.1 h.2, by simp only [bnR, bdD]; omega⟩
    | str x =>
      simp only [okD, Bool.and_eq_true, decide_eq_true_eq] at h
      exact ⟨.str x, fun S => by simp, h.2, by simp only [bnR, bdD]; omega⟩
    | tup xs =>
      simp only [okD, Bool.and_eq_true, decide_eq_true_eq] at h
      obtain ⟨ps, h1, h2, h3⟩ := okD_all (ih k · (by omega)) xs h.2
      refine ⟨.tuple ps, fun S => by simp [pyD, h1 S], h2, ?_⟩
      have : xs.length * (bdD n + 2) ≤ 20 * (bdD n + 2) := Nat.mul_le_mul_right _ h.1
      simp only [bnR, bdD]
      omega
    | lst xs =>
      simp only [okD, Bool.and_eq_true, decide_eq_true_eq] at h
      obtain ⟨ps, h1, h2, h3⟩ := okD_all (ih k · (by omega)) xs h.2
      refine ⟨.list ps, fun S => by simp [pyD, h1 S], h2, ?_⟩
      have : xs.length * (bdD n + 2) ≤ 20 * (bdD n + 2) := Nat.mul_le_mul_right _ h.1
      simp only [bnR, bdD]
      omega
    | _ => simp [okD] at h
theorem okD_repr {d : D} (h : okD 3 d = true) : ∃ x, ∀ S : Store, reprD S [d] = some (.str x) := by
  obtain ⟨p, h1, h2, h3⟩ := okD_py 3 deepN d (by decide) h
  exact ⟨p.shown, fun S => reprD_of (h1 S) h2 (Nat.le_trans h3 (by decide))⟩
end Lw
namespace Lw
open PySem PySem.Spec L2 Ev
/-! ### texts as lists of signs -/
theorem len_sC (l : List Nat) : (sC l).length = l.length := by simp [sC, Str.length]
theorem sC_add (a b : List Nat) : sC a ++ sC b = sC (a ++ b) := by
  show (⟨(sC a).cps ++ (sC b).cps⟩ : Str) = _
  simp [sC]
theorem len_line {n : Nat} (h : n ≤ 1000000) : n ≤ sizeLine := Nat.le_trans h (by decide)
theorem lenD_sC {S : Store} {l : List Nat} (h : l.length ≤ 1000000) : lenD S [.str (sC l)] = some (.int l.length) := by
  simp [lenD, len_sC, len_line h]
/-- figures -/
def isDg (c : Nat) : Bool := decide (48 ≤ c) && decide (c ≤ 57)
theorem lit_dg : Str.ofString "0123456789" = sC [48, 49, 50, 51, 52, 53, 54, 55, 56, 57] := by decide +kernel
theorem lit_0 : Str.ofString "0" = sC [48] := by decide +kernel
theorem dg_mem (c : Nat) : decide (c ∈ [48, 49, 50, 51, 52, 53, 54, 55, 56, 57]) = isDg c := by
  unfold isDg
  rw [Bool.eq_iff_iff]
  simp
  omega
theorem inD_dg {S : Store} (c : Nat) : inD S (.str (sC [c])) (.str (Str.ofString "0123456789")) = some (.bl (isDg c)) := by rw [lit_dg, inD_one, dg_mem]
theorem ninD_dg {S : Store} (c : Nat) : ninD S (.str (sC [c])) (.str (Str.ofString "0123456789")) = some (.bl (!isDg c)) := by rw [lit_dg, ninD_one, dg_mem]
theorem starts_one (l : List Nat) (c : Nat) : Txt.startswith (sC l) (sC [c]) = decide (l.head? = some c) := by
  have e := StrLaws.subAt_one (sC l) c 0
  have e2 : (sC l).cps.toList[0]? = l.head? := by
    rw [List.head?_eq_getElem?]
    simp [sC]
  rw [e2] at e
  unfold Txt.startswith
  rw [Bool.eq_iff_iff, decide_eq_true_eq, Bool.and_eq_true, decide_eq_true_eq]
  exact e
/-- a whole number in figures, at most so many, no nought ahead -/
def figs (most : Nat) (l : List Nat) : Option Nat := if l ≠ [] ∧ l.length ≤ most ∧ l.all isDg = true ∧ (l.head? = some 48 → l.length = 1) then some (NumText.digitsVal l) else none
def figD : Option Nat → Ev.D
  | some n => .int n
  | none => .non
theorem int_figs {l : List Nat} (h : l.all isDg = true) (hne : l ≠ []) (hl : l.length ≤ 640) : intText? (sC l) = some ((NumText.digitsVal l : Nat) : Int) := SX.int_S (a := l) h hne (by omega)
theorem figures_eq {S : Store} {l : List Nat} {most : Nat} (hm : most ≤ 640) (hl : l.length ≤ 1000000) : g_figures_in [.str (sC l), .int most] S = .ok (figD (figs most l)) S := by
  have ln := lenD_sC (S := S) hl
  have it : rIt (rVar 0) [some (.str (sC l)), some (.int most), none] S = .ok (l.map fun c => Ev.D.str (sC [c])) S := by simp [itemsD, signs_sC]
  have lc := rLc_map (it := rIt (rVar 0)) (t := .nm 2) (vs := [2]) (c := rYes) (elt := rBin inD (rVar 2) (rCon (.str "0123456789"))) (e := [some (.str (sC l)), some (.int most), none]) (S := S) (h := fun c => Ev.D.str (sC [c])) (xs := l)
    (fun c => [some (.str (sC l)), some (.int most), some (.str (sC [c]))]) (fun _ => true) (fun c => .bl (isDg c)) it (len_line hl)
    (fun c hc => ⟨by simp [wipeE], rfl, fun _ => by simp [inD_dg]⟩)
  rw [List.filter_eq_self.mpr (fun _ _ => rfl)] at lc
  have al : allD S [.lst (l.map fun c => .bl (isDg c))] = some (.bl (l.all isDg)) := by
    unfold allD
    simp only [asL, Option.bind_some, allB_map']
    rw [List.all_map]
    rfl
  have sw := starts_one l 48
  have sz : (sC l).length ≤ 640 ↔ l.length ≤ 640 := by rw [len_sC]
  unfold g_figures_in runDef m_figures_in figs
  by_cases c1 : l = []
  · subst c1
    have ln0 : lenD S [.str (sC [])] = some (.int 0) := ln
    simp [ln0, figD]
  have l1 : 1 ≤ l.length := by
    cases l with
    | nil => exact absurd rfl c1
    | cons _ _ => simp
  have l1' : (1 : Int) ≤ (l.length : Int) := by omega
  by_cases c2 : l.length ≤ most
  rotate_left
  · have c2' : ¬ ((l.length : Int) ≤ (most : Int)) := by omega
    simp [ln, c1, c2, c2', figD]
  have c2' : (l.length : Int) ≤ (most : Int) := by omega
  cases c3 : l.all isDg with
  | false => simp [ln, c2', lc, al, c3, figD, l1']
  | true =>
    have hi := int_figs c3 c1 (by omega)
    have sz' : (sC l).length ≤ 640 := by rw [len_sC]; omega
    by_cases c4 : l.head? = some 48
    · by_cases c5 : l.length = 1
      · have m1 : ¬ ((most : Int) < 1) := by omega
        have m2 : 1 ≤ most := by omega
        simp [ln, lc, al, c3, figD, c1, c2, c4, c5, hi, sz', m1, m2]
      · have c5' : (1 : Int) < (l.length : Int) := by omega
        simp [ln, c2', lc, al, c3, figD, l1', c1, c2, c4, c5, c5', rMth, tyM, startsS, lit_0, sw, ofP]
    · by_cases c5' : (1 : Int) < (l.length : Int)
      · simp [ln, c2', lc, al, c3, figD, l1', c1, c2, c4, c5', rMth, tyM, startsS, lit_0, sw, ofP, hi, sz']
      · simp [ln, c2', lc, al, c3, figD, l1', c1, c2, c4, c5', hi, sz']
/-! values of figures -/
theorem dv_app (a : List Nat) (c : Nat) : NumText.digitsVal (a ++ [c]) = NumText.digitsVal a * 10 + (c - 48) := by
  unfold NumText.digitsVal
  rw [List.foldl_append]
  rfl
theorem rev_ind {P : List Nat → Prop} (h0 : P []) (h1 : ∀ l c, P l → P (l ++ [c])) (l : List Nat) : P l := by
  have : ∀ n (l : List Nat), l.length = n → P l := by
    intro n
    induction n with
    | zero => intro l h; rw [List.length_eq_zero_iff.mp h]; exact h0
    | succ n ih =>
      intro l h
      have hne : l ≠ [] := fun e => by rw [e] at h; cases h
      have e := List.dropLast_concat_getLast hne
      rw [← e]
      exact h1 _ _ (ih _ (by rw [List.length_dropLast, h]; rfl))
  exact this _ l rfl
/-- no nought ahead: as great as its length says -/
theorem dv_ge {c : Nat} (hc : 49 ≤ c ∧ c ≤ 57) (r : List Nat) : 10 ^ r.length ≤ NumText.digitsVal (c :: r) := by
  refine rev_ind (P := fun r => 10 ^ r.length ≤ NumText.digitsVal (c :: r)) ?_ (fun l d ih => ?_) r
  · show 1 ≤ (0 * 10 + (c - 48))
    omega
  · rw [← List.cons_append, dv_app, List.length_append, Nat.pow_add]
    simp only [List.length_cons, List.length_nil]
    omega
theorem dv_lt {l : List Nat} (h : l.all isDg = true) : NumText.digitsVal l < 10 ^ l.length := by
  revert h
  refine rev_ind (P := fun l => l.all isDg = true → NumText.digitsVal l < 10 ^ l.length) (fun _ => by decide) (fun l d ih h => ?_) l
  rw [List.all_append, Bool.and_eq_true] at h
  have h1 := ih h.1
  have h2 : isDg d = true := by simpa using h.2
  unfold isDg at h2
  simp at h2
  rw [dv_app, List.length_append, Nat.pow_add]
  simp only [List.length_cons, List.length_nil]
  omega
/-- fewer figures will do where the number is small -/
theorem figs_less {m k : Nat} {l : List Nat} {n : Nat} (h : figs m l = some n) (hn : n < 10 ^ k) (hk : 1 ≤ k) : figs k l = some n := by
  unfold figs at h ⊢
  split at h
  · rename_i hc
    obtain ⟨h1, h2, h3, h4⟩ := hc
    injection h with h
    rw [if_pos, h]
    refine ⟨h1, ?_, h3, h4⟩
    cases l with
    | nil => exact absurd rfl h1
    | cons c r =>
      by_cases c0 : c = 48
      · have := h4 (by rw [c0]; rfl)
        omega
      · have hd : isDg c = true := by
          rw [List.all_cons, Bool.and_eq_true] at h3
          exact h3.1
        unfold isDg at hd
        simp at hd
        have g := dv_ge (c := c) (by omega) r
        rw [h] at g
        have lt : 10 ^ r.length < 10 ^ k := by omega
        have := (Nat.pow_lt_pow_iff_right (by omega : 1 < 10)).mp lt
        simp
        omega
  · cases h
theorem figs_more {m k : Nat} {l : List Nat} {n : Nat} (h : figs m l = some n) (hk : m ≤ k) : figs k l = some n := by
  unfold figs at h ⊢
  split at h
  · rename_i hc
    obtain ⟨h1, h2, h3, h4⟩ := hc
    rw [if_pos ⟨h1, by omega, h3, h4⟩]
    exact h
  · cases h
theorem figs_dg {m : Nat} {l : List Nat} {n : Nat} (h : figs m l = some n) : l.all isDg = true ∧ l ≠ [] := by
  unfold figs at h
  split at h
  · rename_i hc; exact ⟨hc.2.2.1, hc.1⟩
  · cases h
theorem figs_lt {m : Nat} {l : List Nat} {n : Nat} (h : figs m l = some n) : n < 10 ^ m := by
  unfold figs at h
  split at h
  · rename_i hc
    cases h
    exact Nat.lt_of_lt_of_le (dv_lt hc.2.2.1) (Nat.pow_le_pow_right (by omega) hc.2.1)
  · cases h
/-! a text cut at a sign -/
def cutL (c : Nat) (l : List Nat) : Option (List Nat × List Nat) := if c ∈ l then some (l.takeWhile (· != c), (l.dropWhile (· != c)).tail) else none
theorem cut_app (c : Nat) : ∀ (l : List Nat), c ∈ l → l = l.takeWhile (· != c) ++ c :: (l.dropWhile (· != c)).tail ∧ c ∉ l.takeWhile (· != c)
  | x :: l, h => by
    by_cases e : x = c
    · subst e
      simp
    · have h' : c ∈ l := by
        rcases List.mem_cons.mp h with q | q
        · exact absurd q.symm e
        · exact q
      obtain ⟨h1, h2⟩ := cut_app c l h'
      have e' : (x != c) = true := by simpa using e
      rw [List.takeWhile_cons, List.dropWhile_cons, if_pos e', if_pos e']
      refine ⟨?_, fun z => ?_⟩
      · rw [List.cons_append, ← h1]
      · rcases List.mem_cons.mp z with q | q
        · exact e q.symm
        · exact h2 q
theorem cut_some {c : Nat} {l p q : List Nat} (h : cutL c l = some (p, q)) : l = p ++ c :: q ∧ c ∉ p := by
  unfold cutL at h
  split at h
  · rename_i hc
    cases h
    exact cut_app c l hc
  · cases h
theorem cut_none {c : Nat} {l : List Nat} (h : cutL c l = none) : c ∉ l := by
  unfold cutL at h
  split at h
  · cases h
  · assumption
theorem cut_of {c : Nat} {p q : List Nat} (h : c ∉ p) : cutL c (p ++ c :: q) = some (p, q) := by
  have hm : c ∈ p ++ c :: q := by simp
  obtain ⟨h1, h2⟩ := cut_app c _ hm
  unfold cutL
  rw [if_pos hm]
  have e1 : (p ++ c :: q).takeWhile (· != c) = p := by
    rw [List.takeWhile_append_of_pos fun x hx => by
      have : x ≠ c := fun e => h (e ▸ hx)
      simpa using this]
    simp
  rw [e1] at h1 ⊢
  have := List.append_cancel_left h1
  injection this with _ h3
  rw [← h3]
theorem cut_len {c : Nat} {l p q : List Nat} (h : cutL c l = some (p, q)) : p.length + q.length + 1 = l.length := by
  rw [(cut_some h).1]
  simp
  omega
theorem part_eq {S : Store} {l : List Nat} {c : Nat} (hl : l.length ≤ 1000000) : partS S (.str (sC l)) [.str (sC [c])] = some (match cutL c l with
    | some (p, q) => .tup [.str (sC p), .str (sC [c]), .str (sC q)]
    | none => .tup [.str (sC l), .str (sC []), .str (sC [])], S) := by
  have h1 : ((sC [c]).length == 0) = false ∧ (sC l).length ≤ sizeLine := ⟨rfl, by rw [len_sC]; exact len_line hl⟩
  unfold partS
  dsimp only
  rw [if_pos h1]
  cases e : cutL c l with
  | some p =>
    obtain ⟨p, q⟩ := p
    obtain ⟨h2, h3⟩ := cut_some e
    have := SX.partition_some (a := l) (b := [c]) (p := p) (q := q) (by simp) (by
      have z := SX.par_head (c := c) (sep := []) (p := p) q h3
      rw [h2]
      simpa using z)
    rw [show Txt.partition (sC l) (sC [c]) = (sC p, sC [c], sC q) from this]
  | none =>
    have := SX.partition_none (a := l) (b := [c]) (by simp) (SX.par_head_none (cut_none e))
    rw [show Txt.partition (sC l) (sC [c]) = (sC l, sC [], sC []) from this]
theorem splitMax_eq {S : Store} {l p q : List Nat} {c : Nat} (hc : c < 256) (hl : l.length ≤ 999000) (h : cutL c l = some (p, q)) : splitMaxS S (.str (sC l)) [.str (sC [c]), .int 1] = some (.lst [.str (sC p), .str (sC q)], S) := by
  obtain ⟨h2, h3⟩ := cut_some h
  have h1 : ((sC [c]).length == 0) = false ∧ -(2 ^ 63) ≤ (1 : Int) ∧ (1 : Int) < 2 ^ 63 ∧ (sC l).length + 2 ≤ sizeLine := ⟨rfl, by decide, by decide, by rw [len_sC]; exact len_line (n := l.length + 2) (by omega)⟩
  unfold splitMaxS
  dsimp only
  rw [if_pos h1]
  have pt := SX.partition_some (a := l) (b := [c]) (p := p) (q := q) (by simp) (by
      have z := SX.par_head (c := c) (sep := []) (p := p) q h3
      rw [h2]
      simpa using z)
  have kd : (decide ((sC l).length < (sC [c]).length) || decide (Builtin.Str.strKind (sC l) < Builtin.Str.strKind (sC [c]))) = false := by
    rw [Bool.or_eq_false_iff]
    refine ⟨decide_eq_false ?_, decide_eq_false (TL.kind_ok (SX.all256 (b := [c]) (by simp [hc])))⟩
    rw [len_sC, len_sC, h2]
    simp
  have sp : Txt.splitMax (sC l) (sC [c]) 1 = [sC p, sC q] := by
    have lim : limitOf (sC l) 1 = 1 := rfl
    have ol := StrLaws.occ_length_le (sC l) (sC [c]) 0 (sC l).length 1
    unfold Txt.splitMax
    rw [if_neg (by rw [kd]; decide), lim]
    have pt' : Txt.partition (sC l) (sC [c]) = (sC p, sC [c], sC q) := pt
    unfold Txt.partition at pt'
    cases ho : Builtin.Str.occurrences (sC l) (sC [c]) 0 (sC l).length 1 with
    | nil =>
      rw [ho] at pt'
      simp only [Prod.mk.injEq] at pt'
      have : (Str.empty).cps.toList = (sC [c]).cps.toList := by rw [pt'.2.1]
      simp [sC, Str.empty] at this
    | cons i r =>
      rw [ho] at pt' ol
      simp only [Prod.mk.injEq] at pt'
      have : r = [] := by
        cases r with
        | nil => rfl
        | cons _ _ => simp at ol
      subst this
      rw [if_neg (by simp)]
      unfold Builtin.Str.partsBetween
      simp [pt'.1, pt'.2.2]
  rw [sp]
  rfl
end Lw
namespace Lw
open PySem PySem.Spec L2 Ev
/-! ### words in texts: what the program reads -/
def Grow (S S' : Store) : Prop := ∃ T, S' = S ++ T
theorem Grow.refl (S : Store) : Grow S S := ⟨[], by simp⟩
theorem Grow.trans {S S1 S2 : Store} (a : Grow S S1) (b : Grow S1 S2) : Grow S S2 := by
  obtain ⟨T, rfl⟩ := a
  obtain ⟨U, rfl⟩ := b
  exact ⟨T ++ U, by rw [List.append_assoc]⟩
theorem Grow.pool {S S' : Store} {n : Nat} (g : Grow S S') (h : PoolAt S n) : PoolAt S' n := by
  obtain ⟨T, rfl⟩ := g
  obtain ⟨a, b, e, q⟩ := h
  exact ⟨a, b, by rw [List.getElem?_append_left (List.getElem?_eq_some_iff.mp e).1]; exact e, q⟩
theorem eq_sC (a b : List Nat) : (sC a == sC b) = decide (a = b) := by
  rw [Bool.eq_iff_iff, beq_iff_eq, sC_inj, decide_eq_true_eq]
theorem set_end {S : Store} (x y : MO) : (S ++ [x]).set S.length y = S ++ [y] := by simp
def cuts4 (l : List Nat) : Option (List Nat × List Nat × List Nat × List Nat × List Nat) :=
  (cutL 45 l).bind fun p => (cutL 64 p.2).bind fun q => (cutL 58 q.2).bind fun r => (cutL 47 r.2).bind fun t => some (p.1, q.1, r.1, t.1, t.2)
theorem lit_signs : signsD (Str.ofString "-@:/") = [.str (sC [45]), .str (sC [64]), .str (sC [58]), .str (sC [47])] := by
  have e : Str.ofString "-@:/" = sC [45, 64, 58, 47] := by decide +kernel
  rw [e, signs_sC]
  rfl
theorem lit_dash : Str.ofString "-" = sC [45] := by decide +kernel
theorem cuts4_len {l a b c r t : List Nat} (h : cuts4 l = some (a, b, c, r, t)) : a.length ≤ l.length ∧ b.length ≤ l.length ∧ c.length ≤ l.length ∧ r.length ≤ l.length ∧ t.length ≤ l.length := by
  unfold cuts4 at h
  obtain ⟨⟨p1, p2⟩, h1, h⟩ := bind_some' h
  obtain ⟨⟨q1, q2⟩, h2, h⟩ := bind_some' h
  obtain ⟨⟨r1, r2⟩, h3, h⟩ := bind_some' h
  obtain ⟨⟨t1, t2⟩, h4, h⟩ := bind_some' h
  cases h
  have l1 := cut_len h1
  have l2 := cut_len h2
  have l3 := cut_len h3
  have l4 := cut_len h4
  simp only at *
  omega
def fieldsD (l : List Nat) : Ev.D := match cuts4 l with
  | none => .non
  | some (a, b, c, r, t) => if r = [] ∨ (r ≠ [45] ∧ isRs (sC r) = false) then .non else .tup [figD (figs 4 a), figD (figs 4 b), figD (figs 4 c), .str (if r = [45] then sC [] else sC r), figD (figs 4 t)]
theorem figD_plain (o : Option Nat) : plainK (figD o) = true := by cases o <;> rfl
theorem fieldsD_plain (l : List Nat) : plain2 (fieldsD l) = true := by
  unfold fieldsD
  split
  · rfl
  · split
    · rfl
    · simp only [plain2, List.all_cons, List.all_nil, figD_plain, Bool.and_true]
      rfl
/-- the fields that are meant -/
def fdD : Ev.D → Fd
  | .tup [.int l, .int h, .int a, .str x, .int k] => ⟨l, h, a, mskL x.cps.toList, k⟩
  | _ => ⟨0, 1, 0, 0, 0⟩
theorem fdD_ok {d : Ev.D} (h : areF d = true) : (fdD d).ok ∧ d = (fdD d).D := by
  unfold areF at h
  split at h
  · rename_i l hh a x k
    simp only [Bool.and_eq_true, decide_eq_true_eq] at h
    obtain ⟨h0, h1, h2, h3, h4, h5, h6, h7, h8, h9⟩ := h
    refine ⟨⟨⟨h0, h1, h2, h9, h3, h4, mskL_lt _, h5, h6⟩, h8⟩, ?_⟩
    unfold Fd.D fdD
    simp only
    rw [← isRs_eq h7]
  · cases h
def wdD (m : Bool) (b : Int) : Ev.D := .tup [.bl m, .int b]
/-- what a text is read to -/
def rdW (l : List Nat) : Option (Bool × Int) := match figs 14 l with
  | some n => if n < 35184372088832 then some (false, (n : Int)) else none
  | none => if areF (fieldsD l) = true then some (true, (fdD (fieldsD l)).bits) else none
def noT : Exn := ⟨cl_NoText, ["number"], [.int 0]⟩
theorem digits_no_cut {l : List Nat} (h : l.all isDg = true) : fieldsD l = .non := by
  unfold fieldsD cuts4
  have : (45 : Nat) ∉ l := fun hm => by
    have := List.all_eq_true.mp h 45 hm
    simp [isDg] at this
  unfold cutL
  rw [if_neg this]
  rfl
/-! ### what is shown -/
theorem num_sC (n : Nat) : Str.ofString (toString ((n : Nat) : Int)) = sC (TL.numL n) := SX.num_S n
theorem num_int {i : Int} (h : 0 ≤ i) : Str.ofString (toString i) = sC (TL.numL i.toNat) := by
  have : i = ((i.toNat : Nat) : Int) := by omega
  rw [this]
  exact num_sC _
theorem num_repr {i : Int} (h : 0 ≤ i) : Str.ofString i.repr = sC (TL.numL i.toNat) := num_int h
theorem num_figs {n m : Nat} (hm : 1 ≤ m) (h : n < 10 ^ m) : figs m (TL.numL n) = some n := by
  unfold figs
  rw [if_pos, TL.numL_val]
  refine ⟨TL.numL_ne n, TL.numL_len (by omega) h, ?_, fun hh => ?_⟩
  · rw [List.all_eq_true]
    intro c hc
    have := TL.numL_digits n c hc
    unfold isDg
    simp
    exact this
  · by_cases h10 : n < 10
    · rw [TL.numL_lt h10]; rfl
    · exfalso
      -- no nought ahead
      have key : ∀ k, 1 ≤ k → (TL.numL k).head? ≠ some 48 := by
        intro k
        induction k using Nat.strongRecOn with
        | _ k ih =>
          intro hk
          by_cases hk10 : k < 10
          · rw [TL.numL_lt hk10]
            simp
            omega
          · rw [TL.numL_step (by omega), List.head?_append]
            have := ih (k / 10) (by omega) (by omega)
            cases hx : (TL.numL (k / 10)).head? with
            | none =>
              have := TL.numL_ne (k / 10)
              cases hl : TL.numL (k / 10) with
              | nil => exact absurd hl this
              | cons _ _ => rw [hl] at hx; cases hx
            | some c =>
              rw [hx] at this
              simpa using this
      exact key n (by omega) hh
def dashR (r : List Nat) : List Nat := if r = [] then [45] else r
/-- the text of a word -/
def shW (m : Bool) (b : Int) : List Nat := if m = false then TL.numL b.toNat else TL.numL (bLow b).toNat ++ 45 :: (TL.numL (bHigh b).toNat ++ 64 :: (TL.numL (bAt b).toNat ++ 58 :: (dashR (rc (bMsk b)) ++ 47 :: TL.numL (bKnd b).toNat)))
theorem lit_at : Str.ofString "@" = sC [64] := by decide +kernel
theorem lit_col : Str.ofString ":" = sC [58] := by decide +kernel
theorem lit_sl : Str.ofString "/" = sC [47] := by decide +kernel
theorem log_small {i : Int} (h : 0 ≤ i) (h2 : i < 35184372088832) : i.natAbs.log2 < 1920 := by
  by_cases c : i.natAbs = 0
  · rw [c]; decide
  · exact (Nat.log2_lt c).mpr (Nat.lt_of_lt_of_le (show i.natAbs < 2 ^ 45 by omega) (Nat.pow_le_pow_right (by decide) (by decide)))
theorem numL_len4 {i : Int} (h : 0 ≤ i) (h2 : i < 10000) : (TL.numL i.toNat).length ≤ 4 := TL.numL_len (by omega) (by omega)
theorem rJs_sC {e : Ev.Env} {S : Store} : ∀ (ps : List (RE × List Nat)) (acc : List Nat), (∀ p ∈ ps, p.1 e S = .ok (.str (sC p.2)) S) → acc.length + (ps.map fun p => p.2.length).sum ≤ 1000000 →
    rJs (ps.map (·.1)) (sC acc) e S = .ok (.str (sC (acc ++ (ps.map (·.2)).flatten))) S
  | [], acc, _, _ => by simp
  | (r, l) :: ps, acc, h, hl => by
    have h1 := h (r, l) List.mem_cons_self
    simp only [List.map_cons, List.sum_cons] at hl
    have ih := rJs_sC ps (acc ++ l) (fun p hp => h p (List.mem_cons_of_mem _ hp)) (by rw [List.length_append]; omega)
    have hz : (sC acc ++ sC l).length ≤ sizeLine := by
      rw [sC_add, len_sC, List.length_append]
      exact len_line (by omega)
    rw [List.map_cons, rJs_cons]
    dsimp only at h1 ⊢
    rw [h1, bind_ok]
    dsimp only
    rw [if_pos hz, sC_add, ih, List.map_cons, List.flatten_cons, List.append_assoc]
theorem addD_sC {S : Store} {a b : List Nat} (h : a.length + b.length ≤ 1000000) : addD S (.str (sC a)) (.str (sC b)) = some (.str (sC (a ++ b))) := by
  have : (sC a).length + (sC b).length ≤ sizeLine := by rw [len_sC, len_sC]; exact len_line h
  simp only [addD]
  rw [if_pos this, sC_add]
theorem empty_sC : Str.empty = sC [] := rfl
theorem truth_rs {S : Store} {r : List Nat} (h : r.length ≤ 1000000) : truthD S (.str (sC r)) = some (!decide (r = [])) := by
  have e : truthD S (.str (sC r)) = if (sC r).length ≤ sizeLine then some (((sC r).length : Int) != 0) else none := rfl
  rw [e, len_sC, if_pos (len_line h)]
  cases r with
  | nil => rfl
  | cons c r =>
    have : (((c :: r).length : Int) != 0) = true := by
      rw [bne_iff_ne]
      simp
      omega
    rw [this]
    rfl
/-- a lawful word: its fields are small -/
theorem law_parts {b : Int} (h0 : 0 ≤ b) (h1 : b < 35184372088832) (ht : tells b = true) : 0 ≤ bLow b ∧ bLow b < 10000 ∧ 0 ≤ bHigh b ∧ bHigh b < 10000 ∧ 0 ≤ bAt b ∧ bAt b < 10000 ∧ 0 ≤ bKnd b ∧ bKnd b < 10000 := by
  obtain ⟨⟨g0, g1, g2, g3, g4, g5, g6, g7, g8⟩, _⟩ := fdOf_good h0 h1 ht
  have e : (fdOf b).low = bLow b ∧ (fdOf b).high = bHigh b ∧ (fdOf b).at_ = bAt b ∧ (fdOf b).k = bKnd b := ⟨rfl, rfl, rfl, rfl⟩
  rw [e.1] at g0 g1
  rw [e.2.1] at g1 g2
  rw [e.2.2.1] at g4 g5
  rw [e.2.2.2] at g7 g8
  omega
theorem dashR_len (m : Nat) : (dashR (rc m)).length ≤ 9 := by
  unfold dashR
  split
  · simp
  · exact rc_len m
theorem msk_rs {m : Nat} (h : m < 512) : mskL (rs m).cps.toList = m := by
  have e := isRs_eq (rs_isRs m)
  exact rs_inj (mskL_lt _) h e.symm
theorem areF_of {f : Fd} (h : f.ok) : areF f.D = true := by
  obtain ⟨⟨g0, g1, g2, g3, g4, g5, g6, g7, g8⟩, gl⟩ := h
  unfold areF Fd.D
  simp only [Bool.and_eq_true, decide_eq_true_eq]
  exact ⟨g0, g1, g2, g4, g5, g7, g8, rs_isRs _, by rw [msk_rs g6]; exact gl, g3⟩
theorem fdD_D {f : Fd} (h : f.ok) : fdD f.D = f := by
  unfold fdD Fd.D
  simp only [msk_rs h.1.2.2.2.2.2.2.1]
theorem rc_sign {m c : Nat} (h : c ∈ rc m) : 97 ≤ c := by
  obtain ⟨i, hi, _, rfl⟩ := mem_pk' h
  have d : ∀ j : Fin 9, 97 ≤ rg j.val := by decide
  exact d ⟨i, hi⟩
/-- THE READ-BACK -/
theorem read_shown {m : Bool} {b : Int} (h0 : 0 ≤ b) (h1 : b < 35184372088832) (ht : m = true → tells b = true ∧ lawM (bMsk b) = true) : rdW (shW m b) = some (m, b) := by
  unfold shW
  cases m with
  | false =>
    rw [if_pos rfl]
    unfold rdW
    rw [num_figs (by omega) (show b.toNat < 10 ^ 14 by omega)]
    dsimp only
    rw [if_pos (by omega)]
    congr 2
    omega
  | true =>
    obtain ⟨t, lm⟩ := ht rfl
    rw [if_neg (by decide)]
    obtain ⟨a0, a1, b0, b1, c0, c1, k0, k1⟩ := law_parts h0 h1 t
    obtain ⟨gd, eb⟩ := fdOf_good h0 h1 t
    have ok : (fdOf b).ok := ⟨gd, lm⟩
    have c4 : cuts4 (TL.numL (bLow b).toNat ++ 45 :: (TL.numL (bHigh b).toNat ++ 64 :: (TL.numL (bAt b).toNat ++ 58 :: (dashR (rc (bMsk b)) ++ 47 :: TL.numL (bKnd b).toNat)))) = some (TL.numL (bLow b).toNat, TL.numL (bHigh b).toNat, TL.numL (bAt b).toNat, dashR (rc (bMsk b)), TL.numL (bKnd b).toNat) := by
      have n47 : (47 : Nat) ∉ dashR (rc (bMsk b)) := by
        unfold dashR
        split
        · simp
        · intro hm
          have := rc_sign hm
          omega
      unfold cuts4
      rw [cut_of (TL.numL_free (by omega)), Option.bind_some, cut_of (TL.numL_free (by omega)), Option.bind_some, cut_of (TL.numL_free (by omega)), Option.bind_some, cut_of n47, Option.bind_some]
    have fe : fieldsD (TL.numL (bLow b).toNat ++ 45 :: (TL.numL (bHigh b).toNat ++ 64 :: (TL.numL (bAt b).toNat ++ 58 :: (dashR (rc (bMsk b)) ++ 47 :: TL.numL (bKnd b).toNat)))) = (fdOf b).D := by
      unfold fieldsD
      rw [c4]
      dsimp only
      rw [num_figs (by omega) (show (bLow b).toNat < 10 ^ 4 by omega), num_figs (by omega) (show (bHigh b).toNat < 10 ^ 4 by omega), num_figs (by omega) (show (bAt b).toNat < 10 ^ 4 by omega), num_figs (by omega) (show (bKnd b).toNat < 10 ^ 4 by omega)]
      have e1 : ((bLow b).toNat : Int) = bLow b := by omega
      have e2 : ((bHigh b).toNat : Int) = bHigh b := by omega
      have e3 : ((bAt b).toNat : Int) = bAt b := by omega
      have e4 : ((bKnd b).toNat : Int) = bKnd b := by omega
      simp only [figD, e1, e2, e3, e4]
      have fD' : (fdOf b).D = .tup [.int (bLow b), .int (bHigh b), .int (bAt b), .str (rs (bMsk b)), .int (bKnd b)] := rfl
      rw [fD']
      by_cases cr : rc (bMsk b) = []
      · have dr : dashR (rc (bMsk b)) = [45] := by unfold dashR; rw [if_pos cr]
        rw [dr, if_neg (by simp), if_pos rfl, rs_eq, cr]
      · have dr : dashR (rc (bMsk b)) = rc (bMsk b) := by unfold dashR; rw [if_neg cr]
        have n45 : rc (bMsk b) ≠ [45] := fun e => by
          have : (45 : Nat) ∈ rc (bMsk b) := by rw [e]; simp
          have := rc_sign this
          omega
        have ir := rs_isRs (bMsk b)
        rw [rs_eq] at ir
        rw [dr, if_neg (by simp [cr, ir]), if_neg n45, rs_eq]
    have nf : figs 14 (TL.numL (bLow b).toNat ++ 45 :: (TL.numL (bHigh b).toNat ++ 64 :: (TL.numL (bAt b).toNat ++ 58 :: (dashR (rc (bMsk b)) ++ 47 :: TL.numL (bKnd b).toNat)))) = none := by
      cases e : figs 14 (TL.numL (bLow b).toNat ++ 45 :: (TL.numL (bHigh b).toNat ++ 64 :: (TL.numL (bAt b).toNat ++ 58 :: (dashR (rc (bMsk b)) ++ 47 :: TL.numL (bKnd b).toNat)))) with
      | none => rfl
      | some n =>
        have := List.all_eq_true.mp (figs_dg e).1 45 (by simp)
        simp [isDg] at this
    unfold rdW
    rw [nf]
    dsimp only
    rw [fe, areF_of ok, if_pos rfl, fdD_D ok, eb]
theorem shW_len {m : Bool} {b : Int} (h0 : 0 ≤ b) (h1 : b < 35184372088832) (ht : m = true → tells b = true) : (shW m b).length ≤ 100 := by
  unfold shW
  cases m with
  | false =>
    rw [if_pos rfl]
    exact Nat.le_trans (TL.numL_len (k := 14) (by omega) (by omega)) (by omega)
  | true =>
    rw [if_neg (by decide)]
    obtain ⟨a0, a1, b0, b1, c0, c1, k0, k1⟩ := law_parts h0 h1 (ht rfl)
    have la := numL_len4 a0 a1
    have lb := numL_len4 b0 b1
    have lc := numL_len4 c0 c1
    have lk := numL_len4 k0 k1
    have lr := dashR_len (bMsk b)
    simp
    omega
end Lw
namespace Lw
open PySem PySem.Spec L2 Ev
/-! ### rows: what is one -/
def DEE : List Str := [Str.ofString "plus", Str.ofString "minus", Str.ofString "times", Str.ofString "and", Str.ofString "or", Str.ofString "either"]
def ASK : List Str := [Str.ofString "same", Str.ofString "unlike", Str.ofString "under", Str.ofString "from"]
def WHA : List Str := [Str.ofString "mark", Str.ofString "bits", Str.ofString "at", Str.ofString "low", Str.ofString "high", Str.ofString "rights", Str.ofString "kind"]
def FRM : List (Str × List Nat) := [(Str.ofString "set", [98, 110]), (Str.ofString "move", [98, 98]), (Str.ofString "do", [100, 98, 121]), (Str.ofString "walk", [98, 121]), (Str.ofString "narrow", [98, 121]), (Str.ofString "exact", [98, 121]), (Str.ofString "less", [98, 114]), (Str.ofString "seal", [98, 98]), (Str.ofString "open", [98, 98]), (Str.ofString "entry", [98]), (Str.ofString "ask", [98, 107, 98]), (Str.ofString "here", [98]), (Str.ofString "load", [98, 98, 111]), (Str.ofString "store", [98, 111, 98]), (Str.ofString "poke", [98, 111, 98]), (Str.ofString "jump", [106, 98, 121, 116]), (Str.ofString "go", [116]), (Str.ofString "enter", [98]), (Str.ofString "call", [98]), (Str.ofString "back", []), (Str.ofString "room", [98, 121]), (Str.ofString "give", [98])]
def SRT : List Nat := [98, 110, 111, 116, 121, 114, 100, 106, 107]
def frm (w : Str) : Option (List Nat) := (FRM.find? fun p => decide (p.1 = w)).map (·.2)
theorem frm_all : ∀ p ∈ FRM, frm p.1 = some p.2 ∧ p.2.length ≤ 4 ∧ ∀ c ∈ p.2, c ∈ SRT := by decide +kernel
theorem frm_mem {w : Str} {s : List Nat} (h : frm w = some s) : (w, s) ∈ FRM := by
  unfold frm at h
  obtain ⟨p, h1, h2⟩ := Option.map_eq_some_iff.mp h
  have m := List.mem_of_find?_eq_some h1
  have e := List.find?_some h1
  simp only [decide_eq_true_eq] at e
  subst e h2
  exact m
def okN (lo hi : Int) : Ev.D → Bool
  | .int i => decide (lo ≤ i) && decide (i ≤ hi)
  | _ => false
def okBy : Ev.D → Bool
  | .tup [.str w, x] => if w = Str.ofString "box" then okN 0 7 x else decide (w = Str.ofString "worth") && okN 0 65535 x
  | _ => false
def okRt : Ev.D → Bool
  | .str x => isRs x
  | _ => false
def okW (l : List Str) : Ev.D → Bool
  | .str x => decide (x ∈ l)
  | _ => false
def okP (c : Nat) (d : Ev.D) : Bool :=
  if c = 98 then okN 0 7 d else if c = 110 then okN 0 65535 d else if c = 111 then okN (-8) 15 d else if c = 116 then okN 0 4095 d else
  if c = 121 then okBy d else if c = 114 then okRt d else if c = 100 then okW DEE d else if c = 106 then okW ASK d else okW WHA d
def okPs : List Nat → List Ev.D → Bool
  | [], [] => true
  | c :: cs, d :: ds => okP c d && okPs cs ds
  | _, _ => false
def okRow : Ev.D → Bool
  | .tup (.str w :: ps) => match frm w with
    | some s => okPs s ps
    | none => false
  | _ => false
/-- no store object, no exception, no dict; not deep -/
def nice : Nat → Ev.D → Bool
  | _, .non => true
  | _, .bl _ => true
  | _, .int _ => true
  | _, .str _ => true
  | n + 1, .tup xs => xs.all (nice n)
  | n + 1, .lst xs => xs.all (nice n)
  | _, _ => false
def pyOf : Nat → Ev.D → PyData
  | _, .bl b => .bool b
  | _, .int i => .int i
  | _, .str x => .str x
  | n + 1, .tup xs => .tuple (xs.map (pyOf n))
  | n + 1, .lst xs => .list (xs.map (pyOf n))
  | _, _ => .none
theorem py_nice (S : Store) : ∀ (n : Nat) {m : Nat} {d : Ev.D}, n ≤ m → nice n d = true → pyD S m d = some (pyOf n d)
  | n, m, .non, _, _ => by cases m <;> cases n <;> rfl
  | n, m, .bl _, _, _ => by cases m <;> cases n <;> rfl
  | n, m, .int _, _, _ => by cases m <;> cases n <;> rfl
  | n, m, .str _, _, _ => by cases m <;> cases n <;> rfl
  | n + 1, 0, .tup xs, h, _ => by omega
  | n + 1, m + 1, .tup xs, h, q => by
    have e : pyAll (pyD S m) xs = some (xs.map (pyOf n)) := pyAll_of fun x hx => py_nice S n (by omega) (by simp only [nice, List.all_eq_true] at q; exact q x hx)
    show (pyAll (pyD S m) xs).bind _ = _
    rw [e]; rfl
  | n + 1, 0, .lst xs, h, _ => by omega
  | n + 1, m + 1, .lst xs, h, q => by
    have e : pyAll (pyD S m) xs = some (xs.map (pyOf n)) := pyAll_of fun x hx => py_nice S n (by omega) (by simp only [nice, List.all_eq_true] at q; exact q x hx)
    show (pyAll (pyD S m) xs).bind _ = _
    rw [e]; rfl
  | 0, m, .tup xs, _, q => by simp [nice] at q
  | 0, m, .lst xs, _, q => by simp [nice] at q
  | n, m, .dct _ _, _, q => by cases n <;> simp [nice] at q
  | n, m, .loc _, _, q => by cases n <;> simp [nice] at q
  | n, m, .exn _ _ _, _, q => by cases n <;> simp [nice] at q
where pyAll_of {f : Ev.D → Option PyData} {g : Ev.D → PyData} : ∀ {xs : List Ev.D}, (∀ x ∈ xs, f x = some (g x)) → pyAll f xs = some (xs.map g)
  | [], _ => rfl
  | x :: xs, h => by
    have h1 := h x List.mem_cons_self
    have h2 := pyAll_of (xs := xs) fun y hy => h y (List.mem_cons_of_mem _ hy)
    simp only [pyAll, h1, h2, List.map_cons]
    try rfl
theorem nice_plain {n : Nat} {d : Ev.D} (h : nice n d = true) : plainK d = true := by
  cases d <;> cases n <;> simp [nice, plainK] at h ⊢
theorem is_from_eq {S : Store} {d : Ev.D} {lo hi : Int} (h : plainK d = true) : g_is_from [d, .int lo, .int hi] S = .ok (.bl (okN lo hi d)) S := by
  unfold g_is_from runDef m_is_from g_is_whole runDef m_is_whole
  cases d with
  | loc n => simp [plainK] at h
  | exn c ns xs => simp [plainK] at h
  | int i => by_cases c1 : lo ≤ i <;> by_cases c2 : i ≤ hi <;> simp [okN, c1, c2]
  | _ => simp [okN]
theorem lits9 : (Str.ofString "b" = sC [98] ∧ Str.ofString "n" = sC [110] ∧ Str.ofString "o" = sC [111] ∧ Str.ofString "t" = sC [116]) ∧ (Str.ofString "y" = sC [121] ∧ Str.ofString "r" = sC [114] ∧ Str.ofString "d" = sC [100] ∧ Str.ofString "j" = sC [106] ∧ Str.ofString "k" = sC [107]) := by decide +kernel
theorem is_by_eq {S : Store} {d : Ev.D} (h : plainK d = true) (h2 : ∀ xs, d = .tup xs → ∀ x ∈ xs, plainK x = true) : g_is_by [d] S = .ok (.bl (okBy d)) S := by
  unfold g_is_by runDef m_is_by
  cases d with
  | loc n => simp [plainK] at h
  | exn c ns xs => simp [plainK] at h
  | tup xs =>
    have hx := h2 xs rfl
    match xs, hx with
    | [], _ => simp [lenD, okBy]
    | [_], _ => simp [lenD, okBy]
    | _ :: _ :: _ :: _, _ => simp [lenD, okBy]; try omega
    | [a, x], hx =>
      have f1 := is_from_eq (S := S) (lo := 0) (hi := 7) (hx x (by simp))
      have f2 := is_from_eq (S := S) (lo := 0) (hi := 65535) (hx x (by simp))
      have i0 : ixD S (.tup [a, x]) (.int 0) = some a := by simp [ixD, atI, ixN]
      have i1 : ixD S (.tup [a, x]) (.int 1) = some x := by simp [ixD, atI, ixN]
      have ha := hx a (by simp)
      cases a with
      | loc n => simp [plainK] at ha
      | exn c ns xs => simp [plainK] at ha
      | str w =>
        by_cases c1 : w = Str.ofString "box"
        · subst c1
          simp [lenD, okBy, i0, i1, f1]
        · by_cases c2 : w = Str.ofString "worth"
          · subst c2
            simp [lenD, okBy, i0, i1, f2, c1]
          · simp [lenD, okBy, i0, i1, c1, c2]
      | _ => simp [lenD, okBy, i0, i1]
  | _ => simp [okBy]
theorem inD_strs {S : Store} {w : Str} {l : List Str} : inD S (.str w) (.lst (l.map Ev.D.str)) = some (.bl (decide (w ∈ l))) ∧ inD S (.str w) (.tup (l.map Ev.D.str)) = some (.bl (decide (w ∈ l))) := by
  have e1 : pyAll (pyD S 59) (l.map Ev.D.str) = some (l.map PyData.str) := by
    induction l with
    | nil => rfl
    | cons x l ih => simp only [List.map_cons, pyAll]; rw [ih]; rfl
  have e2 : inAny (l.map PyData.str) (.str w) = decide (w ∈ l) := by
    unfold inAny
    rw [List.any_map, Bool.eq_iff_iff, List.any_eq_true, decide_eq_true_eq]
    constructor
    · rintro ⟨y, hy, e⟩
      have : y = w := by simpa [PyData.eqv] using e
      exact this ▸ hy
    · intro hw
      exact ⟨w, hw, by simp [PyData.eqv]⟩
  have p0 : pyD S deepN (.str w) = some (.str w) := rfl
  have p1 : pyD S deepN (.lst (l.map Ev.D.str)) = some (.list (l.map PyData.str)) := by
    show (pyAll (pyD S 59) (l.map Ev.D.str)).bind _ = _
    rw [e1]; rfl
  have p2 : pyD S deepN (.tup (l.map Ev.D.str)) = some (.tuple (l.map PyData.str)) := by
    show (pyAll (pyD S 59) (l.map Ev.D.str)).bind _ = _
    rw [e1]; rfl
  constructor
  · show ((inB S (.str w) (.lst (l.map Ev.D.str))).bind _) = _
    have q : inB S (.str w) (.lst (l.map Ev.D.str)) = some (decide (w ∈ l)) := by
      show ((pyD S deepN (.str w)).bind fun x => (pyD S deepN (.lst (l.map Ev.D.str))).bind fun y => (seqP y).bind fun ps => some (inAny ps x)) = _
      rw [p0, Option.bind_some, p1, Option.bind_some, ← e2]; rfl
    rw [q]; rfl
  · show ((inB S (.str w) (.tup (l.map Ev.D.str))).bind _) = _
    have q : inB S (.str w) (.tup (l.map Ev.D.str)) = some (decide (w ∈ l)) := by
      show ((pyD S deepN (.str w)).bind fun x => (pyD S deepN (.tup (l.map Ev.D.str))).bind fun y => (seqP y).bind fun ps => some (inAny ps x)) = _
      rw [p0, Option.bind_some, p2, Option.bind_some, ← e2]; rfl
    rw [q]; rfl
theorem is_one_eq {S : Store} {d t : Ev.D} {l : List Str} (h : plainK d = true) (ht : t = .lst (l.map Ev.D.str) ∨ t = .tup (l.map Ev.D.str)) : g_is_one_of [d, t] S = .ok (.bl (okW l d)) S := by
  unfold g_is_one_of runDef m_is_one_of
  cases d with
  | loc n => simp [plainK] at h
  | exn c ns xs => simp [plainK] at h
  | str w =>
    have q : inD S (.str w) t = some (.bl (decide (w ∈ l))) := by
      rcases ht with rfl | rfl
      · exact inD_strs.1
      · exact inD_strs.2
    simp [q, okW]
  | _ => simp [okW]
theorem okRt_eq {S : Store} {d : Ev.D} (h : plainK d = true) : g_is_rights [d] S = .ok (.bl (okRt d)) S := by
  cases d with
  | str x => exact is_rights_str
  | _ => exact is_rights_other h rfl
theorem is_sort_eq {S : Store} {c : Nat} {d : Ev.D} (hc : c ∈ SRT) (h : plainK d = true) (h2 : ∀ xs, d = .tup xs → ∀ x ∈ xs, plainK x = true) : g_is_sort [.str (sC [c]), d] S = .ok (.bl (okP c d)) S := by
  have f : ∀ lo hi, g_is_from [d, .int lo, .int hi] S = .ok (.bl (okN lo hi d)) S := fun lo hi => is_from_eq h
  have f1 := is_by_eq (S := S) h h2
  have f2 := okRt_eq (S := S) h
  have f3 := is_one_eq (S := S) (d := d) (l := DEE) h (.inr rfl)
  have f4 := is_one_eq (S := S) (d := d) (l := ASK) h (.inr rfl)
  have f5 := is_one_eq (S := S) (d := d) (l := WHA) h (.inr rfl)
  obtain ⟨⟨l1, l2, l3, l4⟩, l5, l6, l7, l8, l9⟩ := lits9
  have dx : ∀ (k : Str) (t : Ev.D), dixD S (.dct [.inr (Str.ofString "d"), .inr (Str.ofString "j"), .inr (Str.ofString "k")] [.tup (DEE.map Ev.D.str), .tup (ASK.map Ev.D.str), .tup (WHA.map Ev.D.str)]) (.str k) = lkK [.inr (Str.ofString "d"), .inr (Str.ofString "j"), .inr (Str.ofString "k")] [.tup (DEE.map Ev.D.str), .tup (ASK.map Ev.D.str), .tup (WHA.map Ev.D.str)] (.inr k) := fun k t => rfl
  unfold g_is_sort runDef m_is_sort
  have dis : rDispF [(Str.ofString "d", (rCon (.tup [.str "plus", .str "minus", .str "times", .str "and", .str "or", .str "either"]))), (Str.ofString "j", (rCon (.tup [.str "same", .str "unlike", .str "under", .str "from"]))), (Str.ofString "k", (rCon (.tup [.str "mark", .str "bits", .str "at", .str "low", .str "high", .str "rights", .str "kind"])))]
      [some (.str (sC [c])), some d] S = .ok (.dct [.inr (Str.ofString "d"), .inr (Str.ofString "j"), .inr (Str.ofString "k")] [.tup (DEE.map Ev.D.str), .tup (ASK.map Ev.D.str), .tup (WHA.map Ev.D.str)]) S := by kernel_rfl
  simp only [SRT, List.mem_cons, List.not_mem_nil, or_false] at hc
  rcases hc with rfl | rfl | rfl | rfl | rfl | rfl | rfl | rfl | rfl
  · simp [l1, eq_sC, f, okP]
  · simp [l1, l2, eq_sC, f, okP]
  · simp [l1, l2, l3, eq_sC, f, okP]
  · simp [l1, l2, l3, l4, eq_sC, f, okP]
  · simp [l1, l2, l3, l4, l5, eq_sC, f1, okP]
  · simp [l1, l2, l3, l4, l5, l6, eq_sC, f2, okP]
  · have e : dixD S (.dct [.inr (Str.ofString "d"), .inr (Str.ofString "j"), .inr (Str.ofString "k")] [.tup (DEE.map Ev.D.str), .tup (ASK.map Ev.D.str), .tup (WHA.map Ev.D.str)]) (.str (sC [100])) = some (.tup (DEE.map Ev.D.str)) := by rw [dx _ .non]; rfl
    simp [-rDispF_eq, dis, l1, l2, l3, l4, l5, l6, eq_sC, f3, okP, e]
  · have e : dixD S (.dct [.inr (Str.ofString "d"), .inr (Str.ofString "j"), .inr (Str.ofString "k")] [.tup (DEE.map Ev.D.str), .tup (ASK.map Ev.D.str), .tup (WHA.map Ev.D.str)]) (.str (sC [106])) = some (.tup (ASK.map Ev.D.str)) := by rw [dx _ .non]; rfl
    simp [-rDispF_eq, dis, l1, l2, l3, l4, l5, l6, eq_sC, f4, okP, e]
  · have e : dixD S (.dct [.inr (Str.ofString "d"), .inr (Str.ofString "j"), .inr (Str.ofString "k")] [.tup (DEE.map Ev.D.str), .tup (ASK.map Ev.D.str), .tup (WHA.map Ev.D.str)]) (.str (sC [107])) = some (.tup (WHA.map Ev.D.str)) := by rw [dx _ .non]; rfl
    simp [-rDispF_eq, dis, l1, l2, l3, l4, l5, l6, eq_sC, f5, okP, e]
end Lw
namespace Lw
open PySem PySem.Spec L2 Ev
/-! ### rows: is_row, look_at_rows -/
theorem kd_forms : kd_FORMS = FRM.map fun p => (p.1, sC p.2) := by decide +kernel
theorem kd_frm (w : Str) : kdAt kd_FORMS w = (frm w).map sC := by
  rw [kd_forms]
  unfold kdAt frm
  rw [List.find?_map]
  simp only [Function.comp_def, Option.map_map]
theorem frm_none {w : Str} : (frm w = none) ↔ w ∉ FRM.map (·.1) := by
  unfold frm
  rw [Option.map_eq_none_iff, List.find?_eq_none]
  simp only [decide_eq_true_eq, List.mem_map, not_exists, not_and]
theorem zip_signs : ∀ (s : List Nat) (ps : List Ev.D), List.zipWith (fun x y => Ev.D.tup [x, y]) (signsD (sC s)) ps = (s.zip ps).map fun p => Ev.D.tup [.str (sC [p.1]), p.2] := by
  intro s ps
  rw [signs_sC]
  induction s generalizing ps with
  | nil => rfl
  | cons c s ih => cases ps with
    | nil => rfl
    | cons d ps => simp only [List.map_cons, List.zipWith_cons_cons, List.zip_cons_cons, ih]
theorem okPs_zip : ∀ {s : List Nat} {ps : List Ev.D}, ps.length = s.length → okPs s ps = (s.zip ps).all fun p => okP p.1 p.2
  | [], [], _ => rfl
  | c :: s, d :: ps, h => by
    simp only [okPs, List.zip_cons_cons, List.all_cons, okPs_zip (show ps.length = s.length by simpa using h)]
theorem okPs_len : ∀ {s : List Nat} {ps : List Ev.D}, okPs s ps = true → ps.length = s.length
  | [], [], _ => rfl
  | [], _ :: _, h => by simp [okPs] at h
  | _ :: _, [], h => by simp [okPs] at h
  | c :: s, d :: ps, h => by
    simp only [okPs, Bool.and_eq_true] at h
    simp [okPs_len h.2]
theorem allD_bls {S : Store} {α : Type} (f : α → Bool) (l : List α) : allD S [.lst (l.map fun x => Ev.D.bl (f x))] = some (.bl (l.all f)) := by
  have := allB_map' f l
  simp [allD, this, List.all_map, Function.comp_def]
theorem frm_srt {w : Str} {s : List Nat} (h : frm w = some s) : s.length ≤ 4 ∧ ∀ c ∈ s, c ∈ SRT := (frm_all _ (frm_mem h)).2
def FKD : Ev.D := .lst ((FRM.map (·.1)).map Ev.D.str)
theorem is_row_eq {S : Store} {d : Ev.D} (h : plainK d = true) (h2 : ∀ xs, d = .tup xs → ∀ x ∈ xs, nice 6 x = true) (hz : ∀ xs, d = .tup xs → xs.length ≤ 1000) : g_is_row [d] S = .ok (.bl (okRow d)) S := by
  unfold g_is_row runDef m_is_row
  cases d with
  | loc n => simp [plainK] at h
  | exn c ns xs => simp [plainK] at h
  | tup xs =>
    have hx := h2 xs rfl
    have hzz := hz xs rfl
    cases xs with
    | nil => simp [okRow, pyAll, PyData.eqvAll]
    | cons a ps =>
      have ha := hx a List.mem_cons_self
      have hps : ∀ x ∈ ps, nice 6 x = true := fun x hm => hx x (List.mem_cons_of_mem _ hm)
      have i0 : ixD S (.tup (a :: ps)) (.int 0) = some a := by simp [ixD, atI, ixN]
      have py : pyAll (pyD S 59) (a :: ps) = some ((a :: ps).map (pyOf 6)) := py_nice.pyAll_of fun x hm => py_nice S 6 (by decide) (hx x hm)
      have f0 : g_is_one_of [a, FKD] S = .ok (.bl (okW (FRM.map (·.1)) a)) S := is_one_eq (nice_plain ha) (.inl rfl)
      have fe : (Ev.D.lst [.str "set", .str "move", .str "do", .str "walk", .str "narrow", .str "exact", .str "less", .str "seal", .str "open", .str "entry", .str "ask", .str "here", .str "load", .str "store", .str "poke", .str "jump", .str "go", .str "enter", .str "call", .str "back", .str "room", .str "give"]) = FKD := rfl
      have pn : pyAll (pyD S 59) [] = some [] := rfl
      have ev : PyData.eqvAll ((a :: ps).map (pyOf 6)) [] = false := by simp [PyData.eqvAll]
      have eq0 : eqB S (.tup (a :: ps)) (.tup []) = some false := by rw [eqB_tt, py, pn]; simp only [Option.bind_some, ev]
      by_cases hk : okW (FRM.map (·.1)) a = true
      · cases a with
        | str w =>
          have hw : w ∈ FRM.map (·.1) := by simpa [okW] using hk
          cases hf : frm w with
          | none => exact absurd hw (frm_none.mp hf)
          | some s =>
            obtain ⟨hs4, hsr⟩ := frm_srt hf
            have kx : kixD kd_FORMS S (.str w) = some (.str (sC s)) := by
              show (kdAt kd_FORMS w).map Ev.D.str = _
              rw [kd_frm, hf]; rfl
            have l1 : lenD S [.str (sC s)] = some (.int s.length) := lenD_sC (by omega)
            have l2 : lenD S [.tup (.str w :: ps)] = some (.int (ps.length + 1 : Nat)) := by simp [lenD]
            have sl : slD S (.tup (.str w :: ps)) (some 1) none = some (.tup ps) := by simp [slD, cutD, HT.sIx]
            simp only [List.length_cons] at hzz
            by_cases hl : ps.length = s.length
            · have lc := rLc_map (it := rRan zipD (rCons (rVar 1) (rCons (rSl (rVar 0) (rPart (rCon (.int 1))) rNoP) rNil))) (t := .tp [2, 3]) (vs := [2, 3]) (c := rYes) (elt := rCall g_is_sort (rCons (rVar 2) (rCons (rVar 3) rNil)))
                (e := [some (.tup (.str w :: ps)), some (.str (sC s)), none, none]) (S := S) (h := fun p : Nat × Ev.D => Ev.D.tup [.str (sC [p.1]), p.2]) (xs := s.zip ps)
                (fun p => [some (.tup (.str w :: ps)), some (.str (sC s)), some (.str (sC [p.1])), some p.2]) (fun _ => true) (fun p => .bl (okP p.1 p.2))
                (by simp [rRan, zipD, itemsD, sl, zip_signs]) (by simp only [List.length_zip]; exact len_line (by omega))
                (fun p hp => by
                  have m := List.of_mem_zip hp
                  have is := is_sort_eq (S := S) (hsr _ m.1) (nice_plain (hps _ m.2)) (fun xs e x hm => by
                    have q := hps _ m.2
                    rw [e] at q
                    simp only [nice, List.all_eq_true] at q
                    exact nice_plain (q x hm))
                  exact ⟨by simp [wipeE, bindT, parts, setAll], rfl, fun _ => by simp [is]⟩)
              have okr : okRow (.tup (.str w :: ps)) = (s.zip ps).all fun p => okP p.1 p.2 := by simp [okRow, hf, okPs_zip hl]
              rw [okr]
              simp [-eqB_tt, eq0, i0, fe, f0, hk, kx, l1, l2, lc, allD_bls, hl]
            · have okr : okRow (.tup (.str w :: ps)) = false := by
                simp only [okRow, hf]
                cases e : okPs s ps with
                | false => rfl
                | true => exact absurd (okPs_len e) hl
              rw [okr]
              have ne1 : ¬ ((ps.length : Int) = (s.length : Int)) := fun z => hl (by omega)
              have ne : ((ps.length : Int) + 1 == (s.length : Int) + 1) = false := by
                rw [beq_eq_false_iff_ne]
                intro z
                exact hl (by omega)
              simp [-eqB_tt, eq0, i0, fe, f0, hk, kx, l1, l2, ne1, ne]
        | _ => simp [okW] at hk
      · have hk' : okW (FRM.map (·.1)) a = false := by simpa using hk
        have okr : okRow (.tup (a :: ps)) = false := by
          cases a with
          | str w =>
            have hw : w ∉ FRM.map (·.1) := by simpa [okW] using hk'
            simp only [okRow, frm_none.mpr hw]
          | _ => rfl
        rw [okr]
        simp [-eqB_tt, eq0, i0, fe, f0, hk']
  | _ => simp [okRow]
/-- rows that are looked at -/
def NRow (d : Ev.D) : Prop := plainK d = true ∧ (∀ xs, d = .tup xs → ∀ x ∈ xs, nice 6 x = true) ∧ ∀ xs, d = .tup xs → xs.length ≤ 1000
end Lw
namespace Lw
open PySem PySem.Spec L2 Ev
/-! ### texts in parts -/
def splL (c : Nat) (l : List Nat) : List (List Nat) := TL.spl [c] 0 [] l
def wD (ws : List (List Nat)) : List Ev.D := ws.map fun w => Ev.D.str (sC w)
theorem map_sC (xs : List Str) : (xs.map TL.tl).map sC = xs := by
  rw [List.map_map]
  conv => rhs; rw [← List.map_id xs]
  apply List.map_congr_left
  intro x _
  exact sC_eta x
theorem split_eq {S : Store} {l : List Nat} {c : Nat} (hc : c < 256) (hl : l.length ≤ 900000) : splitS S (.str (sC l)) [.str (sC [c])] = some (.lst (wD (splL c l)), S) := by
  have h1 : ((sC [c]).length == 0) = false ∧ (sC l).length + 2 ≤ sizeLine := ⟨rfl, by rw [len_sC]; exact len_line (n := l.length + 2) (by omega)⟩
  have sp := TL.split_spl (sC l) (sC [c]) (by simp [TL.tl, sC]) (TL.kind_ok (SX.all256 (b := [c]) (by simp [hc])))
  have e : Txt.split (sC l) (sC [c]) = (splL c l).map sC := by
    rw [← map_sC (Txt.split (sC l) (sC [c])), sp]
    rfl
  unfold splitS
  dsimp only
  rw [if_pos h1, e]
  simp [wD, List.map_map, Function.comp_def]
theorem strsD_w (ws : List (List Nat)) : strsD (wD ws) = some (ws.map sC) := by
  induction ws with
  | nil => rfl
  | cons w ws ih =>
    show (strsD (wD ws)).bind _ = _
    rw [ih]; rfl
def lensum (ws : List (List Nat)) : Nat := (ws.map (·.length + 1)).sum
theorem join_w {S : Store} {c : Nat} {ws : List (List Nat)} (h : lensum ws ≤ 1000000) : joinD S (.str (sC [c])) [.lst (wD ws)] = some (.str (sC (TL.joinL [c] ws)), S) := by
  have ok : joinOk (sC [c]) (ws.map sC) = true := by
    unfold joinOk
    rw [decide_eq_true_eq, List.map_map, List.length_map, len_sC]
    have e : ∀ ws : List (List Nat), ((ws.map ((fun x : Str => x.length) ∘ sC)).sum + ws.length * [c].length) = lensum ws := by
      intro ws
      induction ws with
      | nil => rfl
      | cons w ws ih =>
        unfold lensum at ih ⊢
        simp only [List.map_cons, List.sum_cons, Function.comp, len_sC, List.length_cons, List.length_nil] at ih ⊢
        omega
    rw [e]
    omega
  have j : Txt.join (sC [c]) (ws.map sC) = sC (TL.joinL [c] ws) := by
    apply TL.ext_tl
    rw [TL.join_eq, TL.tl_join]
    have : (ws.map sC).map TL.tl = ws := by
      rw [List.map_map]
      conv => rhs; rw [← List.map_id ws]
      apply List.map_congr_left
      intro w _
      simp [TL.tl, sC]
    rw [this]
    simp [TL.tl, sC]
  show ((seqD S (.lst (wD ws))).bind fun ds => (strsD ds).bind fun ys => if joinOk (sC [c]) ys = true then some (Ev.D.str (Txt.join (sC [c]) ys), S) else none) = _
  have sq : seqD S (.lst (wD ws)) = some (wD ws) := rfl
  rw [sq, Option.bind_some, strsD_w, Option.bind_some, if_pos ok, j]
theorem spl_join {c : Nat} {ws : List (List Nat)} (hne : ws ≠ []) (h : ∀ w ∈ ws, c ∉ w) : splL c (TL.joinL [c] ws) = ws := TL.spl_join hne h
theorem joinL_len {c : Nat} : ∀ ws : List (List Nat), (TL.joinL [c] ws).length ≤ lensum ws
  | [] => by simp [TL.joinL]
  | [w] => by simp [TL.joinL, lensum]
  | w :: v :: ws => by
    have ih := joinL_len (c := c) (v :: ws)
    simp only [TL.joinL, lensum, List.map_cons, List.sum_cons, List.length_append, List.length_cons, List.length_nil] at ih ⊢
    omega
theorem sl_tail {S : Store} {l : List Nat} (h : l.length ≤ 1000000) : slD S (.str (sC l)) (some 1) none = some (.str (sC l.tail)) := by
  have e : cutS (sC l) (some 1) none = sC l.tail := by
    apply TL.ext_tl
    unfold cutS
    cases l with
    | nil => rfl
    | cons c l =>
      simp [TL.tl, sC, HT.sIx, Str.length]
  simp only [slD, len_sC]
  rw [if_pos (len_line h), e]
/-! ### numbers, parts, rows in texts -/
def numD (l : List Nat) : Ev.D := if l.head? = some 45 then (match figs 6 l.tail with
    | some n => if n = 0 then .non else .int (0 - (n : Int))
    | none => .non) else figD (figs 6 l)
theorem lit_hash : Str.ofString "#" = sC [35] := by decide +kernel
theorem number_in_eq {S : Store} {l : List Nat} (hl : l.length ≤ 900000) : g_number_in [.str (sC l)] S = .ok (numD l) S := by
  have f1 := figures_eq (S := S) (l := l) (most := 6) (by decide) (by omega)
  have f2 := figures_eq (S := S) (l := l.tail) (most := 6) (by decide) (by simp; omega)
  have sl := sl_tail (S := S) (l := l) (by omega)
  have sw := starts_one l 45
  have f1' : g_figures_in [.str (sC l), .int 6] S = .ok (figD (figs 6 l)) S := f1
  have f2' : g_figures_in [.str (sC l.tail), .int 6] S = .ok (figD (figs 6 l.tail)) S := f2
  unfold g_number_in runDef m_number_in numD
  by_cases h : l.head? = some 45
  · cases e : figs 6 l.tail with
    | none =>
      rw [e] at f2'
      simp [rMth, tyM, startsS, lit_dash, sw, ofP, h, sl, f2', figD]
    | some n =>
      rw [e] at f2'
      by_cases h0 : n = 0
      · subst h0
        have nn : isN S (.int 0) .non = some (.bl false) := rfl
        simp [rMth, tyM, startsS, lit_dash, sw, ofP, h, sl, f2', figD, nn]
      · have h0' : ¬ ((n : Int) = 0) := by omega
        have nn : isN S (.int (n : Int)) .non = some (.bl false) := rfl
        simp [rMth, tyM, startsS, lit_dash, sw, ofP, h, sl, f2', figD, h0, h0', nn]
  · simp [rMth, tyM, startsS, lit_dash, sw, ofP, h, f1']
def thD (c : Nat) (l : List Nat) : Ev.D :=
  if c = 100 ∨ c = 107 ∨ c = 106 then .str (sC l)
  else if c = 114 then (if l = [] then .non else if l = [45] then .str (sC []) else .str (sC l))
  else if c = 121 then .tup [.str (if l.head? = some 35 then Str.ofString "worth" else Str.ofString "box"), numD (if l.head? = some 35 then l.tail else l)]
  else numD l
theorem lit_dkj : Str.ofString "dkj" = sC [100, 107, 106] := by decide +kernel
theorem thing_in_eq {S : Store} {c : Nat} {l : List Nat} (hl : l.length ≤ 900000) : g_thing_in [.str (sC [c]), .str (sC l)] S = .ok (thD c l) S := by
  have n1 := number_in_eq (S := S) hl
  have n2 := number_in_eq (S := S) (l := l.tail) (by simp; omega)
  have sl := sl_tail (S := S) (l := l) (by omega)
  have sw := starts_one l 35
  have i1 : inD S (.str (sC [c])) (.str (Str.ofString "dkj")) = some (.bl (decide (c ∈ [100, 107, 106]))) := by rw [lit_dkj, inD_one]
  obtain ⟨⟨l1, l2, l3, l4⟩, l5, l6, l7, l8, l9⟩ := lits9
  unfold g_thing_in runDef m_thing_in thD
  by_cases c1 : c = 100 ∨ c = 107 ∨ c = 106
  · simp [i1, c1]
  · rw [if_neg c1]
    by_cases c2 : c = 114
    · subst c2
      by_cases h1 : l = []
      · subst h1
        simp [i1, l6, eq_sC, lit_nil]
      · by_cases h2 : l = [45]
        · subst h2
          simp [i1, l6, eq_sC, lit_nil, lit_dash]
        · simp [i1, l6, eq_sC, lit_nil, lit_dash, h1, h2]
    · rw [if_neg c2]
      by_cases c3 : c = 121
      · subst c3
        by_cases h : l.head? = some 35
        · simp [i1, l5, l6, eq_sC, rMth, tyM, startsS, lit_hash, sw, ofP, h, sl, n2]
        · simp [i1, l5, l6, eq_sC, rMth, tyM, startsS, lit_hash, sw, ofP, h, n1]
      · simp [i1, l5, l6, eq_sC, c1, c2, c3, n1]
theorem numD_nice (l : List Nat) (n : Nat) : nice n (numD l) = true := by
  unfold numD figD
  split
  · split
    · split <;> cases n <;> rfl
    · cases n <;> rfl
  · split <;> cases n <;> rfl
theorem thD_nice (c : Nat) (l : List Nat) : nice 6 (thD c l) = true := by
  unfold thD
  split
  · rfl
  · split
    · split
      · rfl
      · split <;> rfl
    · split
      · simp [nice, numD_nice]
      · exact numD_nice _ _
def rowW (w : List Nat) (ps : List (List Nat)) : Ev.D := match frm (sC w) with
  | none => .non
  | some s => if ps.length = s.length then (if okRow (.tup (.str (sC w) :: (s.zip ps).map fun p => thD p.1 p.2)) = true then .tup (.str (sC w) :: (s.zip ps).map fun p => thD p.1 p.2) else .non) else .non
def rowIn (l : List Nat) : Ev.D := match splL 32 l with
  | [] => .non
  | w :: ps => if sC w ∈ DEE then rowW [100, 111] (w :: ps) else if sC w = Str.ofString "do" then .non else rowW w ps
theorem lit_do : Str.ofString "do" = sC [100, 111] := by decide +kernel
theorem lit_sp : Str.ofString " " = sC [32] := by decide +kernel
theorem spl_ne (c : Nat) : ∀ (l acc : List Nat), TL.spl [c] 0 acc l ≠ []
  | [], acc => by rw [TL.spl_nil]; simp
  | x :: l, acc => by
    cases h : TL.pre [c] (x :: l) with
    | true => rw [TL.spl_hit h]; simp
    | false => rw [TL.spl_miss h]; exact spl_ne c l _
theorem zip_wD (s : List Nat) (ws : List (List Nat)) : List.zipWith (fun x y => Ev.D.tup [x, y]) (signsD (sC s)) (wD ws) = (s.zip ws).map fun p => Ev.D.tup [.str (sC [p.1]), .str (sC p.2)] := by
  rw [signs_sC]
  unfold wD
  induction s generalizing ws with
  | nil => rfl
  | cons c s ih => cases ws with
    | nil => rfl
    | cons w ws => simp only [List.map_cons, List.zipWith_cons_cons, List.zip_cons_cons, ih]
def rowTail : RS := (sSeq (sSet 2 (rUn (kgetD kd_FORMS) (rBin ixD (rVar 1) (rCon (.int 0)))))
    (sSeq (sIf (rOrT (rTest (rBin isN (rVar 2) (rCon .non))) (rTest (rBin neD (rCal lenD (rCons (rVar 1) rNil)) (rBin addD (rCal lenD (rCons (rVar 2) rNil)) (rCon (.int 1))))))
    (sRet (rCon .non))
    sNil)
    (sSeq (sSet 3 (rBin addD (rTup (rCons (rBin ixD (rVar 1) (rCon (.int 0))) rNil)) (rCal tupleT (rCons (rLc frzL (rRan zipD (rCons (rVar 2) (rCons (rSl (rVar 1) (rPart (rCon (.int 1))) rNoP) rNil))) (.tp [4, 5]) [4, 5] rYes (rCall g_thing_in (rCons (rVar 4) (rCons (rVar 5) rNil)))) rNil))))
    (sRet (rIf (rTruth (rCall g_is_row (rCons (rVar 3) rNil))) (rVar 3) (rCon .non))))))
/-- the rest of row_in, words found -/
theorem row_tail {S : Store} {t : Ev.D} {w : List Nat} {ps : List (List Nat)} (hp : ∀ p ∈ ps, p.length ≤ 900000) (hn : ps.length ≤ 900000) :
    (rowTail [some t, some (.lst (wD (w :: ps))), none, none, none, none] S).res = .ok (rowW w ps) S := by
  have i0 : ixD S (.lst (wD (w :: ps))) (.int 0) = some (.str (sC w)) := by simp [ixD, asL, wD, atI, ixN]
  have kg : kgetD kd_FORMS S (.str (sC w)) = some (((frm (sC w)).map fun s => Ev.D.str (sC s)).getD .non) := by
    show some (((kdAt kd_FORMS (sC w)).map Ev.D.str).getD .non) = _
    rw [kd_frm, Option.map_map]; rfl
  have l2 : lenD S [.lst (wD (w :: ps))] = some (.int ((ps.length : Int) + 1)) := by simp [lenD, asL, wD]
  have sl : slD S (.lst (wD (w :: ps))) (some 1) none = some (.lst (wD ps)) := by
    simp [slD, asL, wD, cutD, HT.sIx]
    exact List.take_of_length_le (by simp)
  have lw : (wD (w :: ps)).length = ps.length + 1 := by simp [wD]
  unfold rowTail rowW
  cases hf : frm (sC w) with
  | none =>
    rw [hf] at kg
    simp only [Option.map_none, Option.getD_none] at kg
    have nn : isN S .non .non = some (.bl true) := rfl
    simp [i0, kg, nn]
  | some s =>
    dsimp only
    rw [hf] at kg
    simp only [Option.map_some, Option.getD_some] at kg
    obtain ⟨hs4, hsr⟩ := frm_srt hf
    have l1 : lenD S [.str (sC s)] = some (.int s.length) := lenD_sC (by omega)
    have nn : isN S (.str (sC s)) .non = some (.bl false) := rfl
    by_cases hl : ps.length = s.length
    · have lc := rLc_map (it := rRan zipD (rCons (rVar 2) (rCons (rSl (rVar 1) (rPart (rCon (.int 1))) rNoP) rNil))) (t := .tp [4, 5]) (vs := [4, 5]) (c := rYes) (elt := rCall g_thing_in (rCons (rVar 4) (rCons (rVar 5) rNil)))
        (e := [some t, some (.lst (wD (w :: ps))), some (.str (sC s)), none, none, none]) (S := S) (h := fun p : Nat × List Nat => Ev.D.tup [.str (sC [p.1]), .str (sC p.2)]) (xs := s.zip ps)
        (fun p => [some t, some (.lst (wD (w :: ps))), some (.str (sC s)), none, some (.str (sC [p.1])), some (.str (sC p.2))]) (fun _ => true) (fun p => thD p.1 p.2)
        (by simp [zipD, itemsD, sl, zip_wD]) (by simp only [List.length_zip]; exact len_line (by omega))
        (fun p hpm => by
          have m := List.of_mem_zip hpm
          have is := thing_in_eq (S := S) (c := p.1) (hp _ m.2)
          exact ⟨by simp [wipeE, bindT, parts, setAll], rfl, fun _ => by simp [is]⟩)
      have lz : ((s.zip ps).map fun p => thD p.1 p.2).length ≤ 4 := by simp only [List.length_map, List.length_zip]; omega
      have ir := is_row_eq (S := S) (d := .tup (.str (sC w) :: (s.zip ps).map fun p => thD p.1 p.2)) rfl (fun xs e x hx => by
        cases e
        rcases List.mem_cons.mp hx with rfl | hx
        · rfl
        · obtain ⟨p, _, rfl⟩ := List.mem_map.mp hx
          exact thD_nice _ _) (fun xs e => by cases e; simp only [List.length_cons]; omega)
      have tt : ∀ xs : List Ev.D, tupleT S [.lst xs] = some (.tup xs) := fun xs => rfl
      have ad : ∀ xs : List Ev.D, xs.length ≤ 4 → addD S (.tup [.str (sC w)]) (.tup xs) = some (.tup (.str (sC w) :: xs)) := fun xs hx => by
        show (if [Ev.D.str (sC w)].length + xs.length ≤ sizeLine then _ else _) = _
        rw [if_pos (by rw [sizeLine_eq]; simp; omega)]; rfl
      have ad' := ad _ lz
      have hl' : (ps.length : Int) = (s.length : Int) := by omega
      rw [show (s.zip ps).filter (fun _ => true) = s.zip ps from List.filter_eq_self.mpr fun _ _ => rfl] at lc
      generalize (s.zip ps).map (fun p => thD p.1 p.2) = row at *
      cases hr : okRow (.tup (.str (sC w) :: row)) with
      | true =>
        rw [hr] at ir
        simp [i0, kg, nn, l1, lw, hl', lc, tt, ad', ir, hr, hl]
      | false =>
        rw [hr] at ir
        simp [i0, kg, nn, l1, lw, hl', lc, tt, ad', ir, hr, hl]
    · have hl' : ¬ ((ps.length : Int) = (s.length : Int)) := fun z => hl (by omega)
      simp [i0, kg, nn, l1, lw, hl', hl]
theorem row_in_eq {S : Store} {l : List Nat} (hl : l.length ≤ 800000) (hw : ∀ w ∈ splL 32 l, w.length ≤ 800000) (hn : (splL 32 l).length ≤ 800000) : g_row_in [.str (sC l)] S = .ok (rowIn l) S := by
  have sp := split_eq (S := S) (c := 32) (l := l) (by decide) (by omega)
  have mr : m_row_in = sSeq (sSet 1 (rMth "str" splitS (rVar 0) (rCons (rCon (.str " ")) rNil)))
    (sSeq (sIf (rTest (rBin inD (rBin ixD (rVar 1) (rCon (.int 0))) (rCon (.tup [.str "plus", .str "minus", .str "times", .str "and", .str "or", .str "either"]))))
    (sSet 1 (rBin addD (rLst (rCons (rCon (.str "do")) rNil)) (rVar 1)))
    (sIf (rTest (rBin eqD (rBin ixD (rVar 1) (rCon (.int 0))) (rCon (.str "do"))))
    (sRet (rCon .non))
    sNil)) rowTail) := rfl
  unfold rowIn g_row_in runDef
  rw [mr]
  cases e : splL 32 l with
  | nil => exact absurd e (spl_ne 32 l [])
  | cons w ps =>
    rw [e] at sp hw hn
    simp only [List.length_cons] at hn
    have i0 : ixD S (.lst (wD (w :: ps))) (.int 0) = some (.str (sC w)) := by simp [ixD, asL, wD, atI, ixN]
    have t1 := row_tail (S := S) (t := .str (sC l)) (w := w) (ps := ps) (fun p hp => by have := hw p (List.mem_cons_of_mem _ hp); omega) (by omega)
    have t2 := row_tail (S := S) (t := .str (sC l)) (w := [100, 111]) (ps := w :: ps) (fun p hp => by have := hw p hp; omega) (by simp only [List.length_cons]; omega)
    have dI : inD S (.str (sC w)) (.tup [.str "plus", .str "minus", .str "times", .str "and", .str "or", .str "either"]) = some (.bl (decide (sC w ∈ DEE))) := (inD_strs (l := DEE)).2
    have ad : addD S (.lst [.str (sC [100, 111])]) (.lst (wD (w :: ps))) = some (.lst (wD ([100, 111] :: w :: ps))) := by
      show (if [Ev.D.str (sC [100, 111])].length + (wD (w :: ps)).length ≤ sizeLine then some (Ev.D.lst ([Ev.D.str (sC [100, 111])] ++ wD (w :: ps))) else none) = _
      rw [if_pos (by rw [sizeLine_eq]; simp [wD]; omega)]; rfl
    dsimp only
    by_cases c1 : sC w ∈ DEE
    · simp [lit_sp, rMth, tyM, sp, ofP, i0, dI, c1, lit_do, ad, t2]
    · by_cases c2 : w = [100, 111]
      · subst c2
        simp [lit_sp, rMth, tyM, sp, ofP, i0, dI, c1, lit_do, eq_sC]
      · have c2' : ¬ (sC w = sC [100, 111]) := fun z => c2 (sC_inj.mp z)
        simp [lit_sp, rMth, tyM, sp, ofP, i0, dI, c1, lit_do, eq_sC, c2, c2', t1]
end Lw
namespace Lw
open PySem PySem.Spec L2 Ev
/-! ### rows of texts read -/
theorem spl_size (c : Nat) : ∀ (l acc : List Nat), (TL.spl [c] 0 acc l).length ≤ l.length + 1 ∧ ∀ w ∈ TL.spl [c] 0 acc l, w.length ≤ acc.length + l.length
  | [], acc => by rw [TL.spl_nil]; simp
  | x :: l, acc => by
    cases h : TL.pre [c] (x :: l) with
    | true =>
      rw [TL.spl_hit h]
      obtain ⟨h1, h2⟩ := spl_size c l []
      refine ⟨by simp only [List.length_cons, List.length_nil] at h1 ⊢; simpa using h1, fun w hw => ?_⟩
      rcases List.mem_cons.mp hw with rfl | hw
      · simp
      · have := h2 w (by simpa using hw)
        simp only [List.length_nil, List.length_cons] at this ⊢
        omega
    | false =>
      rw [TL.spl_miss h]
      obtain ⟨h1, h2⟩ := spl_size c l (acc ++ [x])
      refine ⟨by simp only [List.length_cons]; omega, fun w hw => ?_⟩
      have := h2 w hw
      simp only [List.length_append, List.length_cons, List.length_nil] at this ⊢
      omega
theorem row_in_eq' {S : Store} {l : List Nat} (hl : l.length ≤ 700000) : g_row_in [.str (sC l)] S = .ok (rowIn l) S := by
  obtain ⟨h1, h2⟩ := spl_size 32 l []
  exact row_in_eq (by omega) (fun w hw => by have := h2 w hw; simp only [List.length_nil] at this; omega) (by unfold splL; omega)
def isNo : Ev.D → Bool
  | .non => true
  | _ => false
theorem rowW_cases (w : List Nat) (ps : List (List Nat)) : rowW w ps = .non ∨ ∃ xs, rowW w ps = .tup xs ∧ okRow (.tup xs) = true ∧ ∀ x ∈ xs, nice 6 x = true := by
  unfold rowW
  split
  · exact .inl rfl
  · split
    · split
      · rename_i h
        refine .inr ⟨_, rfl, h, fun x hx => ?_⟩
        rcases List.mem_cons.mp hx with rfl | hx
        · rfl
        · obtain ⟨p, _, rfl⟩ := List.mem_map.mp hx
          exact thD_nice _ _
      · exact .inl rfl
    · exact .inl rfl
theorem rowIn_cases (l : List Nat) : rowIn l = .non ∨ ∃ xs, rowIn l = .tup xs ∧ okRow (.tup xs) = true ∧ ∀ x ∈ xs, nice 6 x = true := by
  unfold rowIn
  split
  · exact .inl rfl
  · split
    · exact rowW_cases _ _
    · split
      · exact .inl rfl
      · exact rowW_cases _ _
theorem low_nice (n : Nat) : ∀ (k : Nat) {d : Ev.D}, nice k d = true → D.low n d = true
  | _, .non, _ => rfl
  | _, .bl _, _ => rfl
  | _, .int _, _ => rfl
  | _, .str _, _ => rfl
  | k + 1, .tup xs, h => by
    simp only [nice, List.all_eq_true] at h
    show lows n xs = true
    exact lows_all fun x hx => low_nice n k (h x hx)
  | k + 1, .lst xs, h => by
    simp only [nice, List.all_eq_true] at h
    show lows n xs = true
    exact lows_all fun x hx => low_nice n k (h x hx)
  | 0, .tup xs, h => by simp [nice] at h
  | 0, .lst xs, h => by simp [nice] at h
  | k, .dct _ _, h => by cases k <;> simp [nice] at h
  | k, .loc _, h => by cases k <;> simp [nice] at h
  | k, .exn _ _ _, h => by cases k <;> simp [nice] at h
where lows_all {n : Nat} : ∀ {xs : List Ev.D}, (∀ x ∈ xs, D.low n x = true) → lows n xs = true
  | [], _ => rfl
  | x :: xs, h => by
    show (D.low n x && lows n xs) = true
    rw [h x List.mem_cons_self, lows_all fun y hy => h y (List.mem_cons_of_mem _ hy)]
    rfl
theorem rowIn_low (n : Nat) (l : List Nat) : D.low n (rowIn l) = true := by
  rcases rowIn_cases l with h | ⟨xs, h, _, h2⟩
  · rw [h]; rfl
  · rw [h]
    exact low_nice n 7 (by simp only [nice, List.all_eq_true]; exact h2)
theorem rows_low (n : Nat) (ls : List (List Nat)) : lows n (ls.map rowIn) = true := low_nice.lows_all fun x hx => by
  obtain ⟨l, _, rfl⟩ := List.mem_map.mp hx
  exact rowIn_low n l
theorem isN_row {S : Store} (l : List Nat) : isN S (rowIn l) .non = some (.bl (isNo (rowIn l))) := by
  rcases rowIn_cases l with h | ⟨xs, h, _⟩ <;> rw [h] <;> rfl
theorem read_loop {S : Store} {t : Ev.D} : ∀ (ls : List (List Nat)) (k : Nat) (acc : List Ev.D) (x2 x3 x4 : Option Ev.D), (∀ l ∈ ls, l.length ≤ 700000) → acc.length + ls.length ≤ 700000 →
    (ls.all (fun l => !isNo (rowIn l)) = true → ∃ y2 y3 y4, forL (.tp [2, 3]) lb1_read_rows ((wD ls).mapIdx fun i d => Ev.D.tup [.int ((k + i : Nat) : Int), d]) [some t, some (.loc S.length), x2, x3, x4] (S ++ [.lst acc]) = .nx [some t, some (.loc S.length), y2, y3, y4] (S ++ [.lst (acc ++ ls.map rowIn)])) ∧
    (ls.all (fun l => !isNo (rowIn l)) = false → ∃ e zs, forL (.tp [2, 3]) lb1_read_rows ((wD ls).mapIdx fun i d => Ev.D.tup [.int ((k + i : Nat) : Int), d]) [some t, some (.loc S.length), x2, x3, x4] (S ++ [.lst acc]) = .er ⟨cl_NoText, [Str.ofString "number"], [.int ((k + ls.findIdx (fun l => isNo (rowIn l)) : Nat) : Int)]⟩ e (S ++ [.lst zs]))
  | [], k, acc, x2, x3, x4, _, _ => ⟨fun _ => ⟨x2, x3, x4, by simp [wD, forL]⟩, fun h => by simp at h⟩
  | l :: ls, k, acc, x2, x3, x4, hl, hn => by
    have ri := row_in_eq' (S := S ++ [.lst acc]) (hl l List.mem_cons_self)
    have mi : ((wD (l :: ls)).mapIdx fun i d => Ev.D.tup [.int ((k + i : Nat) : Int), d]) = Ev.D.tup [.int (k : Nat), .str (sC l)] :: (wD ls).mapIdx fun i d => Ev.D.tup [.int ((k + 1 + i : Nat) : Int), d] := by
      show ((Ev.D.str (sC l) :: wD ls).mapIdx _) = _
      rw [List.mapIdx_cons]
      congr 1
      apply List.mapIdx_eq_mapIdx_iff.mpr
      intro i hi
      rw [show k + (i + 1) = k + 1 + i by omega]
    simp only [List.length_cons] at hn
    obtain ⟨a1, a2⟩ := read_loop (S := S) (t := t) ls (k + 1) (acc ++ [rowIn l]) (some (.int (k : Nat))) (some (.str (sC l))) (some (rowIn l)) (fun x hx => hl x (List.mem_cons_of_mem _ hx)) (by simp; omega)
    rw [mi]
    have bt : bindT (S ++ [.lst acc]) (.tup [.int (k : Nat), .str (sC l)]) [some t, some (.loc S.length), x2, x3, x4] (.tp [2, 3]) = some [some t, some (.loc S.length), some (.int (k : Nat)), some (.str (sC l)), x4] := by simp [bindT, parts, setAll]
    have hz : acc.length < sizeLine := by rw [sizeLine_eq]; omega
    cases hr : isNo (rowIn l) with
    | false =>
      have nn := isN_row (S := S ++ [.lst acc]) l
      rw [hr] at nn
      have st : lb1_read_rows [some t, some (.loc S.length), some (.int (k : Nat)), some (.str (sC l)), x4] (S ++ [.lst acc]) = .nx [some t, some (.loc S.length), some (.int (k : Nat)), some (.str (sC l)), some (rowIn l)] (S ++ [.lst (acc ++ [rowIn l])]) := by
        unfold lb1_read_rows
        simp [ri, nn, rMth, tyM, appendL, hz, ofP]
      refine ⟨fun h => ?_, fun h => ?_⟩
      · obtain ⟨y2, y3, y4, e⟩ := a1 (by simpa [hr] using h)
        refine ⟨y2, y3, y4, ?_⟩
        simp only [forL, bt, st, then_nx]
        rw [e]
        simp
      · obtain ⟨e, zs, q⟩ := a2 (by simpa [hr] using h)
        refine ⟨e, zs, ?_⟩
        simp only [forL, bt, st, then_nx]
        rw [q]
        congr 3
        rw [List.findIdx_cons, hr]
        simp only [cond_false]
        congr 2
        omega
    | true =>
      have nn := isN_row (S := S ++ [.lst acc]) l
      rw [hr] at nn
      refine ⟨fun h => by simp [hr] at h, fun h => ⟨[some t, some (.loc S.length), some (.int (k : Nat)), some (.str (sC l)), some (rowIn l)], acc, ?_⟩⟩
      have st : lb1_read_rows [some t, some (.loc S.length), some (.int (k : Nat)), some (.str (sC l)), x4] (S ++ [.lst acc]) = .er ⟨cl_NoText, [Str.ofString "number"], [.int (k : Nat)]⟩ [some t, some (.loc S.length), some (.int (k : Nat)), some (.str (sC l)), some (rowIn l)] (S ++ [.lst acc]) := by
        unfold lb1_read_rows
        simp [ri, nn]
      simp [forL, bt, st, List.findIdx_cons, hr]
def rdRows (l : List Nat) (S : Store) : Res Ev.D :=
  if (splL 10 l).all (fun l => !isNo (rowIn l)) = true then (if (splL 10 l).length ≤ 64 then .ok (.lst ((splL 10 l).map rowIn)) S else .err ⟨cl_NoText, [Str.ofString "number"], [.non]⟩ S)
  else .err ⟨cl_NoText, [Str.ofString "number"], [.int (((splL 10 l).findIdx (fun l => isNo (rowIn l)) : Nat) : Int)]⟩ S
theorem lit_nl : Str.ofString "\n" = sC [10] := by decide +kernel
theorem frz_err {S T : Store} {x : Exn} (h : lows S.length x.xs = true) (hS : lowS S.length S = true) : frz S.length (.err x (S ++ T)) = .err x S := by
  simp [frz, h, hS]
theorem read_rows_eq {S : Store} {l : List Nat} (hS : lowS S.length S = true) (hl : l.length ≤ 600000) : g_read_rows [.str (sC l)] S = rdRows l S := by
  obtain ⟨h1, h2⟩ := spl_size 10 l []
  have sp := split_eq (S := S ++ [.lst []]) (c := 10) (l := l) (by decide) (by omega)
  obtain ⟨a1, a2⟩ := read_loop (S := S) (t := .str (sC l)) (splL 10 l) 0 [] none none none (fun w hw => by have := h2 w hw; simp only [List.length_nil] at this; omega) (by simp only [List.length_nil]; unfold splL; omega)
  simp only [Nat.zero_add, List.nil_append] at a1 a2
  show frz S.length (gf_read_rows [.str (sC l)] S) = _
  unfold gf_read_rows runDef m_read_rows rdRows
  cases hr : (splL 10 l).all (fun l => !isNo (rowIn l)) with
  | true =>
    obtain ⟨y2, y3, y4, e⟩ := a1 hr
    have ln : lenD (S ++ [.lst ((splL 10 l).map rowIn)]) [.loc S.length] = some (.int (splL 10 l).length) := by simp [lenD, asL]
    by_cases c : (splL 10 l).length ≤ 64
    · have c' : ¬ (64 < ((splL 10 l).length : Int)) := by omega
      have := frz_lst (S := S) (T := []) (rows_low S.length (splL 10 l)) hS
      simp [lit_nl, rMth, tyM, sp, ofP, enumD, e, ln, c', c, this]
    · have c' : 64 < ((splL 10 l).length : Int) := by omega
      have := frz_err (S := S) (T := [.lst ((splL 10 l).map rowIn)]) (x := ⟨cl_NoText, [Str.ofString "number"], [.non]⟩) rfl hS
      simp [lit_nl, rMth, tyM, sp, ofP, enumD, e, ln, c', c, this]
  | false =>
    obtain ⟨e, zs, q⟩ := a2 hr
    have := frz_err (S := S) (T := [.lst zs]) (x := ⟨cl_NoText, [Str.ofString "number"], [.int (((splL 10 l).findIdx (fun l => isNo (rowIn l)) : Nat) : Int)]⟩) rfl hS
    simp [lit_nl, rMth, tyM, sp, ofP, enumD, q, this]
end Lw
namespace Lw
open PySem PySem.Spec L2 Ev
/-! ### rows written -/
def tI (i : Int) : List Nat := if 0 ≤ i then TL.numL i.toNat else 45 :: TL.numL (-i).toNat
theorem tI_str {i : Int} (h : -8 ≤ i) : Str.ofString (toString i) = sC (tI i) := by
  unfold tI
  by_cases c : 0 ≤ i
  · rw [if_pos c, num_int c]
  · rw [if_neg c]
    obtain ⟨n, rfl⟩ : ∃ n : Fin 8, i = -((n.val : Int) + 1) := ⟨⟨(-i - 1).toNat, by omega⟩, by simp only; omega⟩
    have d : ∀ n : Fin 8, Str.ofString (toString (-((n.val : Int) + 1))) = sC (45 :: TL.numL (-(-((n.val : Int) + 1))).toNat) := by decide +kernel
    exact d n
def shP (c : Nat) : Ev.D → List Nat
  | .int i => tI i
  | .tup [.str w, .int i] => if w = Str.ofString "worth" then 35 :: tI i else tI i
  | .str x => if c = 114 ∧ x.cps.toList = [] then [45] else x.cps.toList
  | _ => []
/-- the shapes of a row's parts -/
inductive Shape : Nat → Ev.D → Prop
  | num {c : Nat} {i : Int} : c = 98 ∨ c = 110 ∨ c = 111 ∨ c = 116 → -8 ≤ i → i ≤ 65535 → Shape c (.int i)
  | box {i : Int} : 0 ≤ i → i ≤ 65535 → Shape 121 (.tup [.str (Str.ofString "box"), .int i])
  | worth {i : Int} : 0 ≤ i → i ≤ 65535 → Shape 121 (.tup [.str (Str.ofString "worth"), .int i])
  | rts {m : Nat} : Shape 114 (.str (rs m))
  | word {c : Nat} {x : Str} : c = 100 ∨ c = 106 ∨ c = 107 → x ∈ DEE ++ (ASK ++ WHA) → Shape c (.str x)
theorem okN_int {lo hi : Int} {d : Ev.D} (h : okN lo hi d = true) : ∃ i, d = .int i ∧ lo ≤ i ∧ i ≤ hi := by
  cases d with
  | int i =>
    simp only [okN, Bool.and_eq_true, decide_eq_true_eq] at h
    exact ⟨i, rfl, h.1, h.2⟩
  | _ => simp [okN] at h
theorem okW_str {l : List Str} {d : Ev.D} (h : okW l d = true) : ∃ x, d = .str x ∧ x ∈ l := by
  cases d with
  | str x => exact ⟨x, rfl, by simpa [okW] using h⟩
  | _ => simp [okW] at h
theorem isRs_rs {x : Str} (h : isRs x = true) : ∃ m, x = rs m := ⟨_, by unfold isRs at h; exact beq_iff_eq.mp h⟩
theorem shape_of {c : Nat} {d : Ev.D} (hc : c ∈ SRT) (h : okP c d = true) : Shape c d := by
  unfold okP at h
  simp only [SRT, List.mem_cons, List.not_mem_nil, or_false] at hc
  rcases hc with rfl | rfl | rfl | rfl | rfl | rfl | rfl | rfl | rfl <;> simp only [reduceIte, Nat.reduceEqDiff] at h
  · obtain ⟨i, rfl, h1, h2⟩ := okN_int h; exact .num (.inl rfl) (by omega) (by omega)
  · obtain ⟨i, rfl, h1, h2⟩ := okN_int h; exact .num (.inr (.inl rfl)) (by omega) (by omega)
  · obtain ⟨i, rfl, h1, h2⟩ := okN_int h; exact .num (.inr (.inr (.inl rfl))) (by omega) (by omega)
  · obtain ⟨i, rfl, h1, h2⟩ := okN_int h; exact .num (.inr (.inr (.inr rfl))) (by omega) (by omega)
  · unfold okBy at h
    split at h
    · rename_i w x
      split at h
      · rename_i e
        obtain ⟨i, rfl, h1, h2⟩ := okN_int h
        subst e
        exact .box h1 (by omega)
      · simp only [Bool.and_eq_true, decide_eq_true_eq] at h
        obtain ⟨i, rfl, h1, h2⟩ := okN_int h.2
        rw [h.1]
        exact .worth h1 h2
    · cases h
  · cases d with
    | str x =>
      obtain ⟨m, rfl⟩ := isRs_rs (x := x) h
      exact .rts
    | _ => simp [okRt] at h
  · obtain ⟨x, rfl, h1⟩ := okW_str h; exact .word (.inl rfl) (List.mem_append_left _ h1)
  · obtain ⟨x, rfl, h1⟩ := okW_str h; exact .word (.inr (.inl rfl)) (List.mem_append_right _ (List.mem_append_left _ h1))
  · obtain ⟨x, rfl, h1⟩ := okW_str h; exact .word (.inr (.inr rfl)) (List.mem_append_right _ (List.mem_append_right _ h1))
theorem rc_signs {m c : Nat} (h : c ∈ rc m) : c ≠ 32 ∧ c ≠ 10 ∧ c ≠ 45 := by
  obtain ⟨i, hi, _, rfl⟩ := mem_pk' h
  have d : ∀ i : Fin 9, rg i.val ≠ 32 ∧ rg i.val ≠ 10 ∧ rg i.val ≠ 45 := by decide
  exact d ⟨i, hi⟩
theorem rs_list (m : Nat) : (rs m).cps.toList = rc m := by rw [rs_eq]; simp [sC]
theorem words_ok : ∀ x ∈ DEE ++ (ASK ++ WHA), 32 ∉ x.cps.toList ∧ 10 ∉ x.cps.toList ∧ x.cps.toList.length ≤ 9 := by decide +kernel
theorem tI_signs {i : Int} {s : Nat} (hs : s = 32 ∨ s = 10) : s ∉ tI i := by
  unfold tI
  split
  · exact TL.numL_free (by omega)
  · simp only [List.mem_cons, not_or]
    exact ⟨by omega, TL.numL_free (by omega)⟩
theorem tI_len {i : Int} (h1 : -8 ≤ i) (h2 : i ≤ 65535) : (tI i).length ≤ 6 := by
  unfold tI
  split
  · exact TL.numL_len (by omega) (by omega)
  · have := TL.numL_len (n := (-i).toNat) (k := 5) (by omega) (by omega)
    simp only [List.length_cons]; omega
theorem shP_ok {c : Nat} {d : Ev.D} (h : Shape c d) : 32 ∉ shP c d ∧ 10 ∉ shP c d ∧ (shP c d).length ≤ 10 := by
  cases h with
  | num hc h1 h2 =>
    have := tI_len h1 h2
    exact ⟨tI_signs (.inl rfl), tI_signs (.inr rfl), by simp only [shP]; omega⟩
  | @box i h1 h2 =>
    have ne : Str.ofString "box" ≠ Str.ofString "worth" := by decide +kernel
    have := tI_len (i := i) (by omega) h2
    simp only [shP, if_neg ne]
    exact ⟨tI_signs (.inl rfl), tI_signs (.inr rfl), by omega⟩
  | @worth i h1 h2 =>
    have := tI_len (i := i) (by omega) h2
    simp only [shP, if_true, List.mem_cons, not_or, List.length_cons]
    exact ⟨⟨by decide, tI_signs (.inl rfl)⟩, ⟨by decide, tI_signs (.inr rfl)⟩, by omega⟩
  | @rts m =>
    simp only [shP, rs_list]
    split
    · exact ⟨by decide, by decide, by simp⟩
    · have := rc_len m
      exact ⟨fun z => (rc_signs z).1 rfl, fun z => (rc_signs z).2.1 rfl, by omega⟩
  | @word c x hc hx =>
    obtain ⟨w1, w2, w3⟩ := words_ok x hx
    have : ¬ (c = 114 ∧ x.cps.toList = []) := fun z => by omega
    simp only [shP, if_neg this]
    exact ⟨w1, w2, by omega⟩
theorem thD_shP {c : Nat} {d : Ev.D} (h : Shape c d) : thD c (shP c d) = d := by
  have nD : ∀ i : Int, -8 ≤ i → i ≤ 65535 → numD (tI i) = .int i := fun i h1 h2 => by
    unfold numD tI
    by_cases c0 : 0 ≤ i
    · rw [if_pos c0, if_neg (fun z => TL.numL_free (n := i.toNat) (s := 45) (by omega) (List.mem_of_mem_head? (by rw [z]; rfl))), num_figs (by omega) (by omega)]
      show Ev.D.int ((i.toNat : Nat) : Int) = _
      rw [show ((i.toNat : Nat) : Int) = i by omega]
    · rw [if_neg c0]
      simp only [List.head?_cons, List.tail_cons, if_true]
      rw [num_figs (by omega) (by omega)]
      dsimp only
      rw [if_neg (by omega), show (0 : Int) - ((-i).toNat : Nat) = i by omega]
  have hd : ∀ i : Int, -8 ≤ i → (tI i).head? ≠ some 35 := fun i h1 z => by
    have m : 35 ∈ tI i := List.mem_of_mem_head? (by rw [z]; rfl)
    unfold tI at m
    split at m
    · exact TL.numL_free (by omega) m
    · rcases List.mem_cons.mp m with q | q
      · omega
      · exact TL.numL_free (by omega) q
  cases h with
  | @num c i hc h1 h2 =>
    unfold thD
    rw [if_neg (by omega), if_neg (by omega), if_neg (by omega)]
    exact nD i h1 h2
  | @box i h1 h2 =>
    have ne : Str.ofString "box" ≠ Str.ofString "worth" := by decide +kernel
    have e : shP 121 (.tup [.str (Str.ofString "box"), .int i]) = tI i := by simp only [shP, if_neg ne]
    rw [e]
    unfold thD
    rw [if_neg (by omega), if_neg (by omega), if_pos rfl, if_neg (hd i (by omega)), if_neg (hd i (by omega)), nD i (by omega) h2]
  | @worth i h1 h2 =>
    have e : shP 121 (.tup [.str (Str.ofString "worth"), .int i]) = 35 :: tI i := by simp only [shP, if_true]
    rw [e]
    unfold thD
    rw [if_neg (by omega), if_neg (by omega), if_pos rfl, if_pos (by rfl), if_pos (by rfl), List.tail_cons, nD i (by omega) h2]
  | @rts m =>
    unfold thD
    rw [if_neg (by omega), if_pos rfl]
    simp only [shP, rs_list, true_and]
    by_cases e : rc m = []
    · rw [if_pos e, if_neg (by simp), if_pos rfl, rs_eq, e]
    · rw [if_neg e, if_neg e, if_neg (fun z => by
        have : 45 ∈ rc m := by rw [z]; simp
        exact (rc_signs this).2.2 rfl), rs_eq]
  | @word c x hc hx =>
    have : ¬ (c = 114 ∧ x.cps.toList = []) := fun z => by omega
    unfold thD
    rw [if_pos (by omega)]
    simp only [shP, if_neg this, sC_eta]
theorem strT_int {S : Store} {i : Int} (h : -8 ≤ i) (h2 : i ≤ 65535) : strT S [.int i] = some (.str (sC (tI i))) := by
  show (if i.natAbs.log2 < 1920 then some (Ev.D.str (toString i)) else none) = _
  rw [if_pos (by
    by_cases c : i.natAbs = 0
    · rw [c]; decide
    · exact (Nat.log2_lt c).mpr (Nat.lt_of_lt_of_le (show i.natAbs < 2 ^ 45 by omega) (Nat.pow_le_pow_right (by decide) (by decide))))]
  rw [show ((toString i : String) : Str) = sC (tI i) from tI_str h]
/-! ### a row -/
def shR : Ev.D → List Nat
  | .tup (.str w :: ps) => match frm w with
    | some s => TL.joinL [32] (if w = Str.ofString "do" then (s.zip ps).map (fun p => shP p.1 p.2) else w.cps.toList :: (s.zip ps).map (fun p => shP p.1 p.2))
    | none => []
  | _ => []
theorem shR_eq {w : Str} {s : List Nat} {ps : List Ev.D} (hf : frm w = some s) : shR (.tup (.str w :: ps)) = TL.joinL [32] (if w = Str.ofString "do" then (s.zip ps).map (fun p => shP p.1 p.2) else w.cps.toList :: (s.zip ps).map (fun p => shP p.1 p.2)) := by
  simp only [shR, hf]
theorem row_parts {r : Ev.D} (h : okRow r = true) : ∃ w s ps, r = .tup (.str w :: ps) ∧ frm w = some s ∧ ps.length = s.length ∧ ∀ p ∈ s.zip ps, Shape p.1 p.2 := by
  unfold okRow at h
  split at h
  · rename_i w ps
    split at h
    · rename_i s e
      have hl := okPs_len h
      rw [okPs_zip hl, List.all_eq_true] at h
      exact ⟨w, s, ps, rfl, e, hl, fun p hp => shape_of ((frm_srt e).2 _ (List.of_mem_zip hp).1) (h p hp)⟩
    · cases h
  · cases h
theorem keys_ok : ∀ p ∈ FRM, p.1 ∉ DEE ∧ 32 ∉ p.1.cps.toList ∧ 10 ∉ p.1.cps.toList ∧ p.1.cps.toList.length ≤ 6 := by decide +kernel
theorem zip_th : ∀ {s : List Nat} {ps : List Ev.D}, ps.length = s.length → (∀ p ∈ s.zip ps, Shape p.1 p.2) → (s.zip ((s.zip ps).map fun p => shP p.1 p.2)).map (fun p => thD p.1 p.2) = ps
  | [], [], _, _ => rfl
  | c :: s, d :: ps, h, hs => by
    simp only [List.zip_cons_cons, List.map_cons]
    rw [thD_shP (hs (c, d) (by simp)), zip_th (by simpa using h) fun p hp => hs p (by simp [hp])]
theorem rowW_back {w : Str} {s : List Nat} {ps : List Ev.D} (hf : frm w = some s) (hl : ps.length = s.length) (hs : ∀ p ∈ s.zip ps, Shape p.1 p.2) (ok : okRow (.tup (.str w :: ps)) = true) : rowW w.cps.toList ((s.zip ps).map fun p => shP p.1 p.2) = .tup (.str w :: ps) := by
  unfold rowW
  rw [sC_eta, hf]
  dsimp only
  rw [if_pos (by simp only [List.length_map, List.length_zip]; omega), zip_th hl hs, if_pos ok]
theorem rowIn_shR {r : Ev.D} (ok : okRow r = true) : rowIn (shR r) = r := by
  obtain ⟨w, s, ps, rfl, hf, hl, hs⟩ := row_parts ok
  obtain ⟨k1, k2, k3, k4⟩ := keys_ok _ (frm_mem hf)
  have hsp : ∀ t ∈ (s.zip ps).map (fun p => shP p.1 p.2), 32 ∉ t := fun t ht => by
    obtain ⟨p, hp, rfl⟩ := List.mem_map.mp ht
    exact (shP_ok (hs p hp)).1
  rw [shR_eq hf]
  unfold rowIn
  dsimp only at k1 k2 k3 k4
  by_cases c : w = Str.ofString "do"
  · subst c
    have es : s = [100, 98, 121] := by
      have : frm (Str.ofString "do") = some [100, 98, 121] := by decide +kernel
      rw [this] at hf
      exact (Option.some.inj hf).symm
    subst es
    obtain ⟨a, b, c, rfl⟩ : ∃ a b c, ps = [a, b, c] := by
      match ps, hl with
      | [a, b, c], _ => exact ⟨a, b, c, rfl⟩
    rw [if_pos rfl, spl_join (by simp) hsp]
    simp only [List.zip_cons_cons, List.map_cons]
    have sa := hs (100, a) (by simp)
    have da : okP 100 a = true := by
      have q := ok
      simp only [okRow, hf, okPs, Bool.and_eq_true] at q
      exact q.1
    obtain ⟨x, rfl, hx⟩ := okW_str (l := DEE) (d := a) (by simpa [okP] using da)
    have e0 : shP 100 (.str x) = x.cps.toList := by simp [shP]
    rw [e0, sC_eta, if_pos hx]
    have rb := rowW_back hf hl hs ok
    have ed : (Str.ofString "do").cps.toList = [100, 111] := by decide +kernel
    rw [ed] at rb
    simp only [List.zip_cons_cons, List.map_cons] at rb
    rw [e0] at rb
    exact rb
  · rw [if_neg c, spl_join (by simp) (fun t ht => by
      rcases List.mem_cons.mp ht with rfl | ht
      · exact k2
      · exact hsp t ht)]
    dsimp only
    rw [sC_eta, if_neg k1, if_neg c]
    exact rowW_back hf hl hs ok
theorem shR_ok {r : Ev.D} (ok : okRow r = true) : 10 ∉ shR r ∧ (shR r).length ≤ 60 := by
  obtain ⟨w, s, ps, rfl, hf, hl, hs⟩ := row_parts ok
  obtain ⟨k1, k2, k3, k4⟩ := keys_ok _ (frm_mem hf)
  obtain ⟨h4, _⟩ := frm_srt hf
  have nj : ∀ ws : List (List Nat), (∀ t ∈ ws, 10 ∉ t) → 10 ∉ TL.joinL [32] ws := by
    intro ws
    induction ws with
    | nil => intro _; simp [TL.joinL]
    | cons a ws ih =>
      intro h
      cases ws with
      | nil => simpa [TL.joinL] using h a (by simp)
      | cons b ws =>
        simp only [TL.joinL, List.mem_append, List.mem_singleton, not_or]
        exact ⟨h a (by simp), by decide, ih fun t ht => h t (List.mem_cons_of_mem _ ht)⟩
  have hsp : ∀ t ∈ (s.zip ps).map (fun p => shP p.1 p.2), 10 ∉ t ∧ t.length ≤ 10 := fun t ht => by
    obtain ⟨p, hp, rfl⟩ := List.mem_map.mp ht
    exact (shP_ok (hs p hp)).2
  have ll : ∀ ws : List (List Nat), (∀ t ∈ ws, t.length ≤ 10) → lensum ws ≤ 11 * ws.length := by
    intro ws
    induction ws with
    | nil => intro _; simp [lensum]
    | cons a ws ih =>
      intro h
      have h1 := h a (by simp)
      have h2 := ih fun t ht => h t (List.mem_cons_of_mem _ ht)
      simp only [lensum, List.map_cons, List.sum_cons, List.length_cons] at h2 ⊢
      omega
  have z4 : ((s.zip ps).map (fun p => shP p.1 p.2)).length ≤ 4 := by simp only [List.length_map, List.length_zip]; omega
  rw [shR_eq hf]
  dsimp only at k1 k2 k3 k4
  split
  · refine ⟨nj _ fun t ht => (hsp t ht).1, ?_⟩
    have := joinL_len (c := 32) ((s.zip ps).map (fun p => shP p.1 p.2))
    have := ll _ fun t ht => (hsp t ht).2
    omega
  · refine ⟨nj _ fun t ht => ?_, ?_⟩
    · rcases List.mem_cons.mp ht with rfl | ht
      · exact k3
      · exact (hsp t ht).1
    · have := joinL_len (c := 32) (w.cps.toList :: (s.zip ps).map (fun p => shP p.1 p.2))
      have := ll (w.cps.toList :: (s.zip ps).map (fun p => shP p.1 p.2)) fun t ht => by
        rcases List.mem_cons.mp ht with rfl | ht
        · omega
        · exact (hsp t ht).2
      simp only [List.length_cons] at this
      omega
/-- what is written is read -/
def txR (rs : List Ev.D) : List Nat := TL.joinL [10] (rs.map shR)
theorem spl_txR {rs : List Ev.D} (hne : rs ≠ []) (h : ∀ r ∈ rs, okRow r = true) : splL 10 (txR rs) = rs.map shR := spl_join (by simpa using hne) fun w hw => by
  obtain ⟨r, hr, rfl⟩ := List.mem_map.mp hw
  exact (shR_ok (h r hr)).1
theorem rows_back {rs : List Ev.D} (h : ∀ r ∈ rs, okRow r = true) : (rs.map shR).map rowIn = rs := by
  rw [List.map_map]
  conv => rhs; rw [← List.map_id rs]
  apply List.map_congr_left
  intro r hr
  exact rowIn_shR (h r hr)
theorem rd_txR {S : Store} {rs : List Ev.D} (hne : rs ≠ []) (h : ∀ r ∈ rs, okRow r = true) (hl : rs.length ≤ 64) : rdRows (txR rs) S = .ok (.lst rs) S := by
  unfold rdRows
  rw [spl_txR hne h, rows_back h, List.length_map, if_pos hl, if_pos]
  rw [List.all_eq_true]
  intro l hm
  obtain ⟨r, hr, rfl⟩ := List.mem_map.mp hm
  rw [rowIn_shR (h r hr)]
  obtain ⟨w, s, ps, rfl, _⟩ := row_parts (h r hr)
  rfl
theorem txR_len {rs : List Ev.D} (h : ∀ r ∈ rs, okRow r = true) (hl : rs.length ≤ 1000) : (txR rs).length ≤ 61000 := by
  have ls : ∀ rs : List Ev.D, (∀ r ∈ rs, okRow r = true) → lensum (rs.map shR) ≤ 61 * rs.length := by
    intro rs
    induction rs with
    | nil => intro _; simp [lensum]
    | cons r rs ih =>
      intro h
      have h1 := (shR_ok (h r (by simp))).2
      have h2 := ih fun t ht => h t (List.mem_cons_of_mem _ ht)
      simp only [lensum, List.map_cons, List.sum_cons, List.length_cons] at h2 ⊢
      omega
  have := ls rs h
  have := joinL_len (c := 10) (rs.map shR)
  unfold txR
  omega
end Lw
namespace Lw
open PySem PySem.Spec L2 Ev
/-! ### rows drawn -/
/-- the pool at n, N things in the store, none with another within -/
def PL (N : Nat) (S : Store) (n : Nat) : Prop := PoolAt S n ∧ S.length = N ∧ ∀ m, lowS m S = true
theorem lowS_set {m : Nat} {o : MO} (ho : MO.low m o = true) : ∀ {S : Store} {n : Nat}, lowS m S = true → lowS m (S.set n o) = true
  | [], n, _ => by simp [lowS]
  | a :: S, 0, h => by
    simp only [lowS, Bool.and_eq_true, List.set_cons_zero] at h ⊢
    exact ⟨ho, h.2⟩
  | a :: S, n + 1, h => by
    simp only [lowS, Bool.and_eq_true, List.set_cons_succ] at h ⊢
    exact ⟨h.1, lowS_set ho h.2⟩
theorem lowS_app {m : Nat} : ∀ {S T : Store}, lowS m S = true → lowS m T = true → lowS m (S ++ T) = true
  | [], T, _, h => h
  | a :: S, T, h, h2 => by
    simp only [lowS, Bool.and_eq_true, List.cons_append] at h ⊢
    exact ⟨h.1, lowS_app h.2 h2⟩
theorem take_okL {N : Nat} {S : Store} {n : Nat} (many : Int) (h : PL N S n) (hm : 0 < many) (hm2 : many < 18446744073709551616) : ∃ r S', g_law_take [.loc n, .int many] S = .ok (.int r) S' ∧ 0 ≤ r ∧ r < many ∧ PL N S' n := by
  obtain ⟨r, S1, t1, a1, b1, p1, o, e⟩ := take_ok many h.1 hm hm2
  obtain ⟨a, b, hab, _⟩ := id p1
  have hl : n < S.length := by obtain ⟨a', b', q, _⟩ := h.1; exact (List.getElem?_eq_some_iff.mp q).1
  have ho : o = .lst [.int a, .int b] := by
    rw [e, List.getElem?_set_self hl] at hab
    exact Option.some.inj hab
  refine ⟨r, S1, t1, a1, b1, p1, by rw [e, List.length_set]; exact h.2.1, fun m => ?_⟩
  rw [e, ho]
  exact lowS_set rfl (h.2.2 m)
theorem lcL_rel {α : Type} {Inv : Store → Prop} {Q : α → Ev.D → Prop} {t : Tg} {elt : RE} {e0 : Ev.Env} (g : α → Ev.D) : ∀ (as : List α) (S : Store), Inv S →
    (∀ a ∈ as, ∀ S, Inv S → ∃ e1, bindT S (g a) e0 t = some e1 ∧ ∃ y S', elt e1 S = .ok y S' ∧ Q a y ∧ Inv S') →
    ∃ ys S', lcL t rYes elt e0 (as.map g) S = .ok ys S' ∧ Inv S' ∧ ys.length = as.length ∧ ∀ p ∈ as.zip ys, Q p.1 p.2
  | [], S, i, _ => ⟨[], S, rfl, i, rfl, fun p hp => by simp at hp⟩
  | a :: as, S, i, hd => by
    obtain ⟨e1, h1, y, S1, h2, q, i1⟩ := hd a List.mem_cons_self S i
    obtain ⟨ys, S2, h3, i2, hl, hq⟩ := lcL_rel g as S1 i1 fun d h => hd d (List.mem_cons_of_mem _ h)
    refine ⟨y :: ys, S2, ?_, i2, by simp [hl], fun p hp => ?_⟩
    · simp [lcL, h1, rYes, h2, h3]
    · simp only [List.zip_cons_cons, List.mem_cons] at hp
      rcases hp with rfl | hp
      · exact q
      · exact hq p hp
theorem lcL_drawY {Inv : Store → Prop} {t : Tg} {c : RT} {elt : RE} {e0 : Ev.Env} (h : Nat → Ev.D) (E : Nat → Ev.Env) (f : Nat → Ev.D) : ∀ (xs : List Nat) (S : Store), xs.Nodup → Inv S →
    (∀ x ∈ xs, ∀ S, Inv S → bindT S (h x) e0 t = some (E x) ∧ (∃ k S', c (E x) S = .ok k S' ∧ Inv S') ∧ elt (E x) S = .ok (f x) S) →
    ∃ p S', lcL t c elt e0 (xs.map h) S = .ok ((xs.filter p).map f) S' ∧ Inv S'
  | [], S, _, i, _ => ⟨fun _ => true, S, rfl, i⟩
  | x :: xs, S, nd, i, hx => by
    obtain ⟨h1, ⟨k, S1, h2, i1⟩, _⟩ := hx x List.mem_cons_self S i
    obtain ⟨p, S2, h4, i2⟩ := lcL_drawY h E f xs S1 (List.nodup_cons.mp nd).2 i1 fun y hy => hx y (List.mem_cons_of_mem _ hy)
    have hn := (List.nodup_cons.mp nd).1
    have fc : xs.filter (fun y => if y = x then k else p y) = xs.filter p := List.filter_congr fun y hy => by
      have : y ≠ x := fun e => hn (e ▸ hy)
      simp [this]
    refine ⟨fun y => if y = x then k else p y, S2, ?_, i2⟩
    have h3 := (hx x List.mem_cons_self S1 i1).2.2
    simp only [List.map_cons, lcL, h1, h2, bind_ok, List.filter_cons, if_true, fc]
    cases k with
    | true => simp [h3, h4]
    | false => simp [h4]
def FK (l : List (Str × List Nat)) : List Key := l.map fun p => Sum.inr p.1
def FX (l : List (Str × List Nat)) : List Ev.D := l.map fun p => Ev.D.str (sC p.2)
def formsD : Ev.D := .dct (FK FRM) (FX FRM)
theorem disp1 : dispF [Str.ofString "set", Str.ofString "move", Str.ofString "do", Str.ofString "walk", Str.ofString "narrow", Str.ofString "exact", Str.ofString "less"] [.str "bn", .str "bb", .str "dby", .str "by", .str "by", .str "by", .str "br"] ([], []) = (FK (FRM.take 7), FX (FRM.take 7)) := by kernel_rfl
theorem disp2 : dispF [Str.ofString "seal", Str.ofString "open", Str.ofString "entry", Str.ofString "ask", Str.ofString "here", Str.ofString "load", Str.ofString "store"] [.str "bb", .str "bb", .str "b", .str "bkb", .str "b", .str "bbo", .str "bob"] ([], []) = (FK ((FRM.drop 7).take 7), FX ((FRM.drop 7).take 7)) := by kernel_rfl
theorem disp3 : dispF [Str.ofString "poke", Str.ofString "jump", Str.ofString "go", Str.ofString "enter", Str.ofString "call", Str.ofString "back", Str.ofString "room"] [.str "bob", .str "jbyt", .str "t", .str "b", .str "b", .str "", .str "by"] ([], []) = (FK ((FRM.drop 14).take 7), FX ((FRM.drop 14).take 7)) := by kernel_rfl
theorem upd1 : updKs (FK ((FRM.drop 7).take 7)) (FX ((FRM.drop 7).take 7)) (FK (FRM.take 7), FX (FRM.take 7)) = (FK (FRM.take 14), FX (FRM.take 14)) := by kernel_rfl
theorem upd2 : updKs (FK ((FRM.drop 14).take 7)) (FX ((FRM.drop 14).take 7)) (FK (FRM.take 14), FX (FRM.take 14)) = (FK (FRM.take 21), FX (FRM.take 21)) := by kernel_rfl
theorem put1 : putKs (FK (FRM.take 21)) (FX (FRM.take 21)) (.inr (Str.ofString "give")) (.str (Str.ofString "b")) = (FK FRM, FX FRM) := by kernel_rfl
theorem fk_len (l : List (Str × List Nat)) : (FK l).length = l.length := by simp [FK]
theorem frm_len : (FRM.take 7).length = 7 ∧ ((FRM.drop 7).take 7).length = 7 ∧ ((FRM.drop 14).take 7).length = 7 ∧ (FRM.take 14).length = 14 ∧ (FRM.take 21).length = 21 ∧ FRM.length = 22 := by decide +kernel
theorem line_small {n : Nat} (h : n ≤ 1000) : n ≤ sizeLine ∧ n < sizeLine := by rw [sizeLine_eq]; omega
theorem gf_forms (S : Store) : gf_law_forms [] S = .ok (.loc S.length) (S ++ [.dK (FK FRM) (FX FRM)]) := by
  obtain ⟨n1, n2, n3, n4, n5, n6⟩ := frm_len
  have z1 : (FK (FRM.take 7)).length + (FK ((FRM.drop 7).take 7)).length ≤ sizeLine := by rw [fk_len, fk_len, n1, n2]; exact (line_small (by decide)).1
  have z2 : (FK (FRM.take 14)).length + (FK ((FRM.drop 14).take 7)).length ≤ sizeLine := by rw [fk_len, fk_len, n4, n3]; exact (line_small (by decide)).1
  have z3 : (FK (FRM.take 21)).length < sizeLine := by rw [fk_len, n5]; exact (line_small (by decide)).2
  have u1 : updDM (S ++ [.dK (FK (FRM.take 7)) (FX (FRM.take 7))]) (.loc S.length) [.dct (FK ((FRM.drop 7).take 7)) (FX ((FRM.drop 7).take 7))] = some (.non, S ++ [.dK (FK (FRM.take 14)) (FX (FRM.take 14))]) := by
    simp only [updDM, get_end, if_pos z1, upd1, Ev.set_end]
  have u2 : updDM (S ++ [.dK (FK (FRM.take 14)) (FX (FRM.take 14))]) (.loc S.length) [.dct (FK ((FRM.drop 14).take 7)) (FX ((FRM.drop 14).take 7))] = some (.non, S ++ [.dK (FK (FRM.take 21)) (FX (FRM.take 21))]) := by
    simp only [updDM, get_end, if_pos z2, upd2, Ev.set_end]
  have u3 : putD (S ++ [.dK (FK (FRM.take 21)) (FX (FRM.take 21))]) (.loc S.length) (.str (Str.ofString "give")) (.str (Str.ofString "b")) = some (S ++ [.dK (FK FRM) (FX FRM)]) := by
    simp only [putD, get_end, keyOf, Option.bind_some, if_pos z3, put1, Ev.set_end]
  have ty : ∀ ks xs, tyM (S ++ [.dK ks xs]) (.loc S.length) = some "dict" := fun ks xs => by simp [tyM]
  have r2 : rDispF [("seal", (rCon (.str "bb"))), ("open", (rCon (.str "bb"))), ("entry", (rCon (.str "b"))), ("ask", (rCon (.str "bkb"))), ("here", (rCon (.str "b"))), ("load", (rCon (.str "bbo"))), ("store", (rCon (.str "bob")))] [some (.loc S.length)] (S ++ [.dK (FK (FRM.take 7)) (FX (FRM.take 7))]) = .ok (.dct (FK ((FRM.drop 7).take 7)) (FX ((FRM.drop 7).take 7))) (S ++ [.dK (FK (FRM.take 7)) (FX (FRM.take 7))]) := by
    have : ∀ p : List Key × List Ev.D, p = (FK ((FRM.drop 7).take 7), FX ((FRM.drop 7).take 7)) → Res.ok (Ev.D.dct p.1 p.2) (S ++ [.dK (FK (FRM.take 7)) (FX (FRM.take 7))]) = .ok (.dct (FK ((FRM.drop 7).take 7)) (FX ((FRM.drop 7).take 7))) (S ++ [.dK (FK (FRM.take 7)) (FX (FRM.take 7))]) := fun p h => by rw [h]
    exact this _ disp2
  have r3 : rDispF [("poke", (rCon (.str "bob"))), ("jump", (rCon (.str "jbyt"))), ("go", (rCon (.str "t"))), ("enter", (rCon (.str "b"))), ("call", (rCon (.str "b"))), ("back", (rCon (.str ""))), ("room", (rCon (.str "by")))] [some (.loc S.length)] (S ++ [.dK (FK (FRM.take 14)) (FX (FRM.take 14))]) = .ok (.dct (FK ((FRM.drop 14).take 7)) (FX ((FRM.drop 14).take 7))) (S ++ [.dK (FK (FRM.take 14)) (FX (FRM.take 14))]) := by
    have : ∀ p : List Key × List Ev.D, p = (FK ((FRM.drop 14).take 7), FX ((FRM.drop 14).take 7)) → Res.ok (Ev.D.dct p.1 p.2) (S ++ [.dK (FK (FRM.take 14)) (FX (FRM.take 14))]) = .ok (.dct (FK ((FRM.drop 14).take 7)) (FX ((FRM.drop 14).take 7))) (S ++ [.dK (FK (FRM.take 14)) (FX (FRM.take 14))]) := fun p h => by rw [h]
    exact this _ disp3
  have r1 : rDispM [("set", (rCon (.str "bn"))), ("move", (rCon (.str "bb"))), ("do", (rCon (.str "dby"))), ("walk", (rCon (.str "by"))), ("narrow", (rCon (.str "by"))), ("exact", (rCon (.str "by"))), ("less", (rCon (.str "br")))] [none] S = .ok (.loc S.length) (S ++ [.dK (FK (FRM.take 7)) (FX (FRM.take 7))]) := by
    have : ∀ p : List Key × List Ev.D, p = (FK (FRM.take 7), FX (FRM.take 7)) → Res.ok (Ev.D.loc S.length) (S ++ [MO.dK p.1 p.2]) = .ok (.loc S.length) (S ++ [.dK (FK (FRM.take 7)) (FX (FRM.take 7))]) := fun p h => by rw [h]
    exact this _ disp1
  unfold gf_law_forms runDef m_law_forms
  simp [-rDispF_eq, -rDispM_eq, r1, r2, r3, rMth, ty, u1, u2, u3, ofP]
theorem forms_eq {S : Store} (h : lowS S.length S = true) : g_law_forms [] S = .ok formsD S := by
  show frz S.length (gf_law_forms [] S) = _
  rw [gf_forms]
  exact frz_dct (T := []) (by
    apply low_nice.lows_all
    intro x hx
    obtain ⟨p, _, rfl⟩ := List.mem_map.mp hx
    rfl) h
theorem keysS_FK : ∀ l : List (Str × List Nat), keysS (FK l) = some (l.map (·.1))
  | [] => rfl
  | p :: l => by
    show (keysS (FK l)).map (p.1 :: ·) = _
    rw [keysS_FK l]; rfl
theorem sort_forms (S : Store) : sortD S [formsD] = some (.lst ((isortS (FRM.map (·.1))).map Ev.D.str)) := by
  show ((keysS (FK FRM)).bind fun ks => if ks.length < 64 then some (Ev.D.lst ((isortS ks).map Ev.D.str)) else none) = _
  rw [keysS_FK, Option.bind_some, if_pos (by decide +kernel)]
theorem len_forms (S : Store) : lenK S [formsD] = some (.int 22) := by
  show some (Ev.D.int (FK FRM).length) = _
  rw [fk_len, frm_len.2.2.2.2.2]; rfl
theorem lkK_FK (w : Str) : ∀ l : List (Str × List Nat), lkK (FK l) (FX l) (.inr w) = ((l.find? fun p => decide (p.1 = w)).map (·.2)).map fun s => Ev.D.str (sC s)
  | [] => rfl
  | p :: l => by
    show (if (Sum.inr p.1 : Key) = Sum.inr w then some (Ev.D.str (sC p.2)) else lkK (FK l) (FX l) (.inr w)) = _
    by_cases e : p.1 = w
    · rw [if_pos (by rw [e]), List.find?_cons, decide_eq_true e]; rfl
    · rw [if_neg (fun z => e (Sum.inr.inj z)), lkK_FK w l, List.find?_cons, decide_eq_false e]
theorem dix_forms {S : Store} {w : Str} {s : List Nat} (h : frm w = some s) : dixD S formsD (.str w) = some (.str (sC s)) := by
  show lkK (FK FRM) (FX FRM) (.inr w) = _
  rw [lkK_FK]
  unfold frm at h
  rw [h]; rfl
theorem lists_eq {S : Store} {c : Nat} (hc : c = 100 ∨ c = 106 ∨ c = 107) : g_law_lists [.str (sC [c])] S = .ok (.lst ((if c = 100 then DEE else if c = 106 then ASK else WHA).map Ev.D.str)) S := by
  obtain ⟨⟨l1, l2, l3, l4⟩, l5, l6, l7, l8, l9⟩ := lits9
  unfold g_law_lists runDef m_law_lists
  rcases hc with rfl | rfl | rfl
  · simp [l7, eq_sC, DEE]
  · simp [l7, l8, eq_sC, ASK]
  · simp [l7, l8, eq_sC, WHA]
theorem part_n {N : Nat} {S : Store} {n : Nat} {gr : List Ev.D → Store → Res Ev.D} (hp : PL N S n) : ∃ i S', runDef 4 (m_law_part gr) [.loc n, .str (Str.ofString "n")] S = .ok (.int i) S' ∧ PL N S' n ∧ 0 ≤ i ∧ i ≤ 65535 := by
  obtain ⟨⟨l1, l2, l3, l4⟩, l5, l6, l7, l8, l9⟩ := lits9
  obtain ⟨r1, S1, t1, a1, b1, p1⟩ := take_okL 65536 hp (by omega) (by omega)
  obtain ⟨r2, S2, t2, a2, b2, p2⟩ := take_okL 20 p1 (by omega) (by omega)
  obtain ⟨r3, S3, t3, a3, b3, p3⟩ := take_okL 3 p2 (by omega) (by omega)
  obtain ⟨d, hd, hm⟩ := atI_mem (xs := [Ev.D.int r1, .int r2, .int 65535]) a3 (by simpa using b3)
  obtain ⟨i, rfl, i0, i1⟩ : ∃ i, d = .int i ∧ 0 ≤ i ∧ i ≤ 65535 := by
    simp only [List.mem_cons, List.not_mem_nil, or_false] at hm
    rcases hm with rfl | rfl | rfl
    · exact ⟨r1, rfl, a1, by omega⟩
    · exact ⟨r2, rfl, a2, by omega⟩
    · exact ⟨65535, rfl, by omega, by omega⟩
  refine ⟨i, S3, ?_, p3, i0, i1⟩
  unfold runDef m_law_part
  rw [l2]
  simp [l1, l2, eq_sC, t1, t2, t3, ixD, asL, hd]
theorem pk_rc (p : Nat → Bool) : ∃ m, ((List.range 9).filter p).map rg = rc m := ⟨_, pk_congr fun i hi => (mskL_bits p i hi).symm⟩
theorem part_ok {N : Nat} {S : Store} {n c : Nat} (hc : c ∈ SRT) (hp : PL N S n) : ∃ d S', g_law_part [.loc n, .str (sC [c])] S = .ok d S' ∧ PL N S' n ∧ okP c d = true := by
  obtain ⟨⟨l1, l2, l3, l4⟩, l5, l6, l7, l8, l9⟩ := lits9
  simp only [SRT, List.mem_cons, List.not_mem_nil, or_false] at hc
  rcases hc with rfl | rfl | rfl | rfl | rfl | rfl | hc
  · obtain ⟨r1, S1, t1, a1, b1, p1⟩ := take_okL 8 hp (by omega) (by omega)
    refine ⟨.int r1, S1, ?_, p1, by simp [okP, okN]; omega⟩
    unfold g_law_part runDef m_law_part
    simp [l1, eq_sC, t1]
  · obtain ⟨i, S1, h, p1, i0, i1⟩ := part_n (gr := gz_law_part) hp
    rw [l2] at h
    exact ⟨.int i, S1, h, p1, by simp [okP, okN]; omega⟩
  · obtain ⟨r1, S1, t1, a1, b1, p1⟩ := take_okL 24 hp (by omega) (by omega)
    refine ⟨.int (r1 - 8), S1, ?_, p1, by simp [okP, okN]; omega⟩
    unfold g_law_part runDef m_law_part
    simp [l1, l2, l3, eq_sC, t1]
  · obtain ⟨r1, S1, t1, a1, b1, p1⟩ := take_okL 4096 hp (by omega) (by omega)
    obtain ⟨r2, S2, t2, a2, b2, p2⟩ := take_okL 9 p1 (by omega) (by omega)
    obtain ⟨r3, S3, t3, a3, b3, p3⟩ := take_okL 3 p2 (by omega) (by omega)
    obtain ⟨d, hd, hm⟩ := atI_mem (xs := [Ev.D.int r1, .int r2, .int 4095]) a3 (by simpa using b3)
    obtain ⟨i, rfl, i0, i1⟩ : ∃ i, d = .int i ∧ 0 ≤ i ∧ i ≤ 4095 := by
      simp only [List.mem_cons, List.not_mem_nil, or_false] at hm
      rcases hm with rfl | rfl | rfl
      · exact ⟨r1, rfl, a1, by omega⟩
      · exact ⟨r2, rfl, a2, by omega⟩
      · exact ⟨4095, rfl, by omega, by omega⟩
    refine ⟨.int i, S3, ?_, p3, by simp [okP, okN]; omega⟩
    unfold g_law_part runDef m_law_part
    simp [l1, l2, l3, l4, eq_sC, t1, t2, t3, ixD, asL, hd]
  · obtain ⟨r1, S1, t1, a1, b1, p1⟩ := take_okL 8 hp (by omega) (by omega)
    obtain ⟨i, S2, t2, p2, i0, i1⟩ := part_n (gr := fun _ _ => .bad) p1
    obtain ⟨r3, S3, t3, a3, b3, p3⟩ := take_okL 2 p2 (by omega) (by omega)
    have t2' : gz_law_part [.loc n, .str (Str.ofString "n")] S1 = .ok (.int i) S2 := t2
    obtain ⟨d, hd, hm⟩ := atI_mem (xs := [Ev.D.tup [.str (Str.ofString "box"), .int r1], .tup [.str (Str.ofString "worth"), .int i]]) a3 (by simpa using b3)
    have ne : Str.ofString "worth" ≠ Str.ofString "box" := by decide +kernel
    have ok : okP 121 d = true := by
      simp only [List.mem_cons, List.not_mem_nil, or_false] at hm
      rcases hm with rfl | rfl
      · simp [okP, okBy, okN]; omega
      · simp [okP, okBy, okN, ne]; omega
    refine ⟨d, S3, ?_, p3, ok⟩
    unfold g_law_part runDef m_law_part
    simp [l1, l3, l4, l5, eq_sC, t1, t3, ixD, asL, hd, show Str.ofString "n" = sC [110] from l2]
    rw [l2] at t2'
    simp [t2', t3, hd]
  · obtain ⟨p, S1, h1, p1⟩ := lcL_drawY (Inv := fun S => PL N S n) (t := .nm 2) (c := rTest (rBin eqD (rCall g_law_take (rCons (rVar 0) (rCons (rCon (.int 2)) rNil))) (rCon (.int 0)))) (elt := rVar 2) (e0 := [some (.loc n), some (.str (sC [114])), none, none])
      (fun i => .str (sC [rg i])) (fun i => [some (.loc n), some (.str (sC [114])), some (.str (sC [rg i])), none]) (fun i => .str (sC [rg i])) (List.range 9) S (by decide) hp (fun i hi S hS => by
        obtain ⟨r, S1, t1, a1, b1, p1⟩ := take_okL 2 hS (by omega) (by omega)
        exact ⟨by simp, ⟨r == 0, S1, by simp [t1], p1⟩, by simp⟩)
    obtain ⟨m, e⟩ := pk_rc p
    have lc : rLc frzL (rIt (rCon (.str "rwlsnfxco"))) (.nm 2) [2] (rTest (rBin eqD (rCall g_law_take (rCons (rVar 0) (rCons (rCon (.int 2)) rNil))) (rCon (.int 0)))) (rVar 2) [some (.loc n), some (.str (sC [114])), none, none] S = .ok (.lst ((rc m).map fun c => .str (sC [c]))) S1 := by
      rw [← e, List.map_map]
      unfold rLc
      have it : rIt (rCon (.str "rwlsnfxco")) [some (.loc n), some (.str (sC [114])), none, none] S = .ok ((List.range 9).map fun i => Ev.D.str (sC [rg i])) S := by
        simp only [rIt_eq, rCon_eq, bind_ok, lit_RG, itemsD, signs_sC, List.map_map, ofO_some, RG_map]
        rfl
      have w : wipeE [some (.loc n), some (.str (sC [114])), none, none] [2] = [some (.loc n), some (.str (sC [114])), none, none] := rfl
      rw [it, bind_ok, if_pos (len_small (by simp)), w, h1]
      rfl
    have jn := rMth_join (o := rCon (.str "")) (as := rCons (rLc frzL (rIt (rCon (.str "rwlsnfxco"))) (.nm 2) [2] (rTest (rBin eqD (rCall g_law_take (rCons (rVar 0) (rCons (rCon (.int 2)) rNil))) (rCon (.int 0)))) (rVar 2)) rNil) (e := [some (.loc n), some (.str (sC [114])), none, none]) (S := S) (S1 := S1) (l := rc m)
      (by rw [rCon_eq, lit_nil]) (by rw [rCons_eq, lc, bind_ok, rNil_eq, bind_ok]) (by have := rc_len m; omega)
    refine ⟨.str (rs m), S1, ?_, p1, by simp [okP, okRt, rs_isRs]⟩
    unfold g_law_part runDef m_law_part
    simp [l1, l2, l3, l4, l5, l6, eq_sC, jn, rs_eq]
  · have ls := lists_eq (S := S) hc
    generalize hl : (if c = 100 then DEE else if c = 106 then ASK else WHA) = l at ls
    have l0 : 0 < l.length ∧ l.length ≤ 7 := by
      rcases hc with rfl | rfl | rfl <;> rw [← hl] <;> decide
    obtain ⟨r1, S1, t1, a1, b1, p1⟩ := take_okL (l.length : Int) hp (by omega) (by omega)
    obtain ⟨d, hd, hm⟩ := atI_mem (xs := l.map Ev.D.str) a1 (by rw [List.length_map]; exact b1)
    obtain ⟨x, hx, rfl⟩ := List.mem_map.mp hm
    have ok : okP c (.str x) = true := by
      rcases hc with rfl | rfl | rfl <;> simp [okP, okW] <;> rw [← hl] at hx <;> simpa using hx
    refine ⟨.str x, S1, ?_, p1, ok⟩
    unfold g_law_part runDef m_law_part
    have ne : c ≠ 98 ∧ c ≠ 110 ∧ c ≠ 111 ∧ c ≠ 116 ∧ c ≠ 121 ∧ c ≠ 114 := by omega
    obtain ⟨n1, n2, n3, n4, n5, n6⟩ := ne
    simp [l1, l2, l3, l4, l5, l6, eq_sC, n1, n2, n3, n4, n5, n6, ls, t1, ixD, asL, hd]
theorem isort_mem {w : Str} (h : w ∈ isortS (FRM.map (·.1))) : ∃ s, frm w = some s := by
  have := (isortS_perm _).mem_iff.mp h
  cases e : frm w with
  | none => exact absurd this (frm_none.mp e)
  | some s => exact ⟨s, rfl⟩
theorem isort_len : (isortS (FRM.map (·.1))).length = 22 := by rw [(isortS_perm _).length_eq]; decide +kernel
theorem row_ok {N : Nat} {S : Store} {n : Nat} (hp : PL N S n) : ∃ r S', g_law_row [.loc n] S = .ok r S' ∧ PL N S' n ∧ okRow r = true := by
  have fo := forms_eq (S := S) (hp.2.2 _)
  obtain ⟨r1, S1, t1, a1, b1, p1⟩ := take_okL 22 hp (by omega) (by omega)
  obtain ⟨d, hd, hm⟩ := atI_mem (xs := (isortS (FRM.map (·.1))).map Ev.D.str) a1 (by rw [List.length_map, isort_len]; exact b1)
  obtain ⟨w, hw, rfl⟩ := List.mem_map.mp hm
  obtain ⟨s, hs⟩ := isort_mem hw
  obtain ⟨h4, hsr⟩ := frm_srt hs
  obtain ⟨ys, S2, h1, p2, hl, hq⟩ := lcL_rel (Inv := fun S => PL N S n) (Q := fun (c : Nat) d => okP c d = true) (t := .nm 3) (elt := rCall g_law_part (rCons (rVar 0) (rCons (rVar 3) rNil))) (e0 := [some (.loc n), some formsD, some (.str w), none]) (fun c => Ev.D.str (sC [c])) s S1 p1 (fun c hc S hS => by
    obtain ⟨d, S', t, p, ok⟩ := part_ok (hsr c hc) hS
    exact ⟨_, rfl, d, S', by simp [t], ok, p⟩)
  have lc : rLc frzL (rIt (rBin dixD (rVar 1) (rVar 2))) (.nm 3) [3] rYes (rCall g_law_part (rCons (rVar 0) (rCons (rVar 3) rNil))) [some (.loc n), some formsD, some (.str w), none] S1 = .ok (.lst ys) S2 := by
    unfold rLc
    have it : rIt (rBin dixD (rVar 1) (rVar 2)) [some (.loc n), some formsD, some (.str w), none] S1 = .ok (s.map fun c => Ev.D.str (sC [c])) S1 := by
      simp [dix_forms hs, itemsD, signs_sC]
    have w' : wipeE [some (.loc n), some formsD, some (.str w), none] [3] = [some (.loc n), some formsD, some (.str w), none] := rfl
    rw [it, bind_ok, if_pos (len_small (by rw [List.length_map]; omega)), w', h1]
    rfl
  have tt : tupleT S2 [.lst ys] = some (.tup ys) := rfl
  have ad : addD S2 (.tup [.str w]) (.tup ys) = some (.tup (.str w :: ys)) := by
    show (if [Ev.D.str w].length + ys.length ≤ sizeLine then _ else _) = _
    rw [if_pos (by rw [sizeLine_eq]; simp; omega)]; rfl
  have so := sort_forms S
  have ln := len_forms S
  refine ⟨.tup (.str w :: ys), S2, ?_, p2, ?_⟩
  · unfold g_law_row runDef m_law_row
    simp [fo, so, ln, t1, ixD, asL, hd, lc, tt, ad]
  · simp only [okRow, hs]
    rw [okPs_zip hl, List.all_eq_true]
    exact fun p hp => hq p hp
/-- rows drawn, one behind the other -/
theorem rows_ok {N : Nat} {S : Store} {n k : Nat} {t : Tg} {elt : RE} {e0 : Ev.Env} (hp : PL N S n) (hb : ∀ (i : Nat) (S : Store), PL N S n → ∃ e1, bindT S (.int (0 + (i : Int))) e0 t = some e1 ∧ elt e1 S = g_law_row [.loc n] S) :
    ∃ rs S', lcL t rYes elt e0 (rangeD 0 k) S = .ok rs S' ∧ PL N S' n ∧ rs.length = k ∧ ∀ r ∈ rs, okRow r = true := by
  obtain ⟨ys, S2, h1, p2, hl, hq⟩ := lcL_rel (Inv := fun S => PL N S n) (Q := fun (_ : Nat) d => okRow d = true) (t := t) (elt := elt) (e0 := e0) (fun i : Nat => Ev.D.int (0 + (i : Int))) (List.range k) S hp (fun i _ S hS => by
    obtain ⟨r, S', t, p, ok⟩ := row_ok hS
    obtain ⟨e1, b1, b2⟩ := hb i S hS
    exact ⟨e1, b1, r, S', by rw [b2]; exact t, ok, p⟩)
  refine ⟨ys, S2, h1, p2, by rw [hl, List.length_range], fun r hr => ?_⟩
  obtain ⟨i, hi, e⟩ := List.getElem_of_mem hr
  have hi2 : i < (List.range k).length := by rw [← hl]; exact hi
  have m : ((List.range k)[i], r) ∈ (List.range k).zip ys := by
    rw [← e]
    have : ((List.range k).zip ys)[i]'(by rw [List.length_zip]; omega) = ((List.range k)[i], ys[i]) := by simp
    rw [← this]
    exact List.getElem_mem _
  exact hq _ m
end Lw
namespace Lw
open PySem PySem.Spec L2 Ev
/-! ### rows compared, glued, cut -/
theorem eqvAll_iff {f : Ev.D → PyData} {P : Ev.D → Prop} (h : ∀ a b, P a → P b → (PyData.eqv (f a) (f b) = true ↔ a = b)) : ∀ {as bs : List Ev.D}, (∀ a ∈ as, P a) → (∀ b ∈ bs, P b) → (PyData.eqvAll (as.map f) (bs.map f) = true ↔ as = bs)
  | [], [], _, _ => by simp [PyData.eqvAll]
  | [], _ :: _, _, _ => by simp [PyData.eqvAll]
  | _ :: _, [], _, _ => by simp [PyData.eqvAll]
  | a :: as, b :: bs, ha, hb => by
    simp only [List.map_cons, PyData.eqvAll, Bool.and_eq_true, List.cons.injEq]
    rw [h a b (ha a (by simp)) (hb b (by simp)), eqvAll_iff h (fun x hx => ha x (List.mem_cons_of_mem _ hx)) (fun x hx => hb x (List.mem_cons_of_mem _ hx))]
theorem part_py {c c' : Nat} {d d' : Ev.D} (h : Shape c d) (h' : Shape c' d') : (PyData.eqv (pyOf 6 d) (pyOf 6 d') = true ↔ d = d') := by
  have ne : Str.ofString "box" ≠ Str.ofString "worth" := by decide +kernel
  have ne' : Str.ofString "worth" ≠ Str.ofString "box" := by decide +kernel
  cases h <;> cases h' <;> simp [pyOf, PyData.eqv, PyData.eqvAll, ne, ne']
theorem row_py {r r' : Ev.D} (h : okRow r = true) (h' : okRow r' = true) : (PyData.eqv (pyOf 7 r) (pyOf 7 r') = true ↔ r = r') := by
  obtain ⟨w, s, ps, rfl, hf, hl, hs⟩ := row_parts h
  obtain ⟨w', s', ps', rfl, hf', hl', hs'⟩ := row_parts h'
  have q : ∀ {s : List Nat} {ps : List Ev.D}, ps.length = s.length → (∀ p ∈ s.zip ps, Shape p.1 p.2) → ∀ d ∈ ps, ∃ c, Shape c d := fun {s ps} hl hs d hd => by
    obtain ⟨i, hi, e⟩ := List.getElem_of_mem hd
    have hi2 : i < s.length := by omega
    refine ⟨s[i], ?_⟩
    have m : (s[i], d) ∈ s.zip ps := by
      rw [← e]
      have : (s.zip ps)[i]'(by rw [List.length_zip]; omega) = (s[i], ps[i]) := by simp
      rw [← this]
      exact List.getElem_mem _
    exact hs _ m
  have := eqvAll_iff (f := pyOf 6) (P := fun d => ∃ c, Shape c d) (fun a b ⟨c, ha⟩ ⟨c', hb⟩ => part_py ha hb) (q hl hs) (q hl' hs')
  show (PyData.eqv (.tuple (.str w :: ps.map (pyOf 6))) (.tuple (.str w' :: ps'.map (pyOf 6))) = true ↔ _)
  simp only [PyData.eqv, PyData.eqvAll, Bool.and_eq_true, this, beq_iff_eq, Ev.D.tup.injEq, List.cons.injEq, Ev.D.str.injEq]
theorem shape_nice {c : Nat} {d : Ev.D} (h : Shape c d) : nice 6 d = true := by
  cases h <;> simp [nice]
theorem row_nice {r : Ev.D} (h : okRow r = true) : nice 7 r = true := by
  obtain ⟨w, s, ps, rfl, hf, hl, hs⟩ := row_parts h
  simp only [nice, List.all_cons, Bool.true_and, List.all_eq_true]
  intro d hd
  obtain ⟨i, hi, e⟩ := List.getElem_of_mem hd
  have m : (s[i]'(by omega), d) ∈ s.zip ps := by
    rw [← e]
    have : (s.zip ps)[i]'(by rw [List.length_zip]; omega) = (s[i]'(by omega), ps[i]) := by simp
    rw [← this]
    exact List.getElem_mem _
  exact shape_nice (hs _ m)
theorem row_NRow {r : Ev.D} (h : okRow r = true) : NRow r := by
  have n := row_nice h
  obtain ⟨w, s, ps, rfl, hf, hl, hs⟩ := row_parts h
  obtain ⟨h4, _⟩ := frm_srt hf
  refine ⟨rfl, fun xs e x hx => ?_, fun xs e => ?_⟩
  · cases e
    simp only [nice, List.all_eq_true] at n
    exact n x hx
  · cases e
    simp only [List.length_cons]; omega
theorem rows_pyAll {S : Store} {A : List Ev.D} (h : ∀ r ∈ A, okRow r = true) : pyAll (pyD S 59) A = some (A.map (pyOf 7)) := py_nice.pyAll_of fun x hx => py_nice S 7 (by decide) (row_nice (h x hx))
theorem eq_rows {S : Store} {A B : List Ev.D} (h : ∀ r ∈ A, okRow r = true) (h' : ∀ r ∈ B, okRow r = true) : ∃ b, eqB S (.lst A) (.lst B) = some b ∧ (b = true ↔ A = B) := by
  refine ⟨PyData.eqvAll (A.map (pyOf 7)) (B.map (pyOf 7)), ?_, eqvAll_iff (P := fun r => okRow r = true) (fun a b ha hb => row_py ha hb) h h'⟩
  rw [eqB_ll, rows_pyAll h, rows_pyAll h']
  rfl
theorem eq_same {S : Store} {A : List Ev.D} (h : ∀ r ∈ A, okRow r = true) : eqB S (.lst A) (.lst A) = some true := by
  obtain ⟨b, e, q⟩ := eq_rows (S := S) h h
  rw [e, q.mpr rfl]
theorem txR_inj {A B : List Ev.D} (ha : A ≠ []) (hb : B ≠ []) (h : ∀ r ∈ A, okRow r = true) (h' : ∀ r ∈ B, okRow r = true) (e : txR A = txR B) : A = B := by
  have e1 := spl_txR ha h
  have e2 := spl_txR hb h'
  rw [e, e2] at e1
  rw [← rows_back h, ← rows_back h', e1]
theorem joinL_app {c : Nat} : ∀ (A B : List (List Nat)), A ≠ [] → B ≠ [] → TL.joinL [c] (A ++ B) = TL.joinL [c] [TL.joinL [c] A, TL.joinL [c] B]
  | [], _, h, _ => absurd rfl h
  | [a], b :: B, _, _ => rfl
  | a :: a' :: A, B, _, hb => by
    have ih := joinL_app (c := c) (a' :: A) B (by simp) hb
    cases B with
    | nil => exact absurd rfl hb
    | cons b B =>
      show a ++ ([c] ++ TL.joinL [c] ((a' :: A) ++ b :: B)) = _
      rw [ih]
      show a ++ ([c] ++ (TL.joinL [c] (a' :: A) ++ ([c] ++ TL.joinL [c] (b :: B)))) = (a ++ ([c] ++ TL.joinL [c] (a' :: A))) ++ ([c] ++ TL.joinL [c] (b :: B))
      simp only [List.append_assoc]
theorem txR_app {A B : List Ev.D} (ha : A ≠ []) (hb : B ≠ []) : TL.joinL [10] [txR A, txR B] = txR (A ++ B) := by
  unfold txR
  rw [List.map_append, joinL_app _ _ (by simpa using ha) (by simpa using hb)]
theorem cut_take {xs : List Ev.D} {i : Int} (h : 0 ≤ i) : cutD xs none (some i) = xs.take i.toNat := by
  unfold cutD
  have e1 : HT.sIx xs.length 0 none = 0 := rfl
  have e2 : HT.sIx xs.length xs.length (some i) = min i.toNat xs.length := by
    show (if i < 0 then _ else _) = _
    rw [if_neg (by omega)]
  rw [e1, e2, List.drop_zero, Nat.sub_zero, List.take_eq_take_iff]
  omega
theorem cut_drop {xs : List Ev.D} {i : Int} (h : 0 ≤ i) : cutD xs (some i) none = xs.drop i.toNat := by
  unfold cutD
  have e1 : HT.sIx xs.length xs.length none = xs.length := rfl
  have e2 : HT.sIx xs.length 0 (some i) = min i.toNat xs.length := by
    show (if i < 0 then _ else _) = _
    rw [if_neg (by omega)]
  rw [e1, e2]
  by_cases c : i.toNat ≤ xs.length
  · rw [Nat.min_eq_left c, List.take_of_length_le (by rw [List.length_drop]; omega)]
  · rw [Nat.min_eq_right (by omega), List.drop_of_length_le (Nat.le_refl _), List.drop_of_length_le (by omega)]
    simp
theorem sl_take {S : Store} {xs : List Ev.D} {i : Int} (h : 0 ≤ i) : slD S (.lst xs) none (some i) = some (.lst (xs.take i.toNat)) := by
  show some (Ev.D.lst (cutD xs none (some i))) = _
  rw [cut_take h]
theorem sl_drop {S : Store} {xs : List Ev.D} {i : Int} (h : 0 ≤ i) : slD S (.lst xs) (some i) none = some (.lst (xs.drop i.toNat)) := by
  show some (Ev.D.lst (cutD xs (some i) none)) = _
  rw [cut_drop h]
theorem add_lst {S : Store} {xs ys : List Ev.D} (h : xs.length + ys.length ≤ 1000000) : addD S (.lst xs) (.lst ys) = some (.lst (xs ++ ys)) := by
  show (if xs.length + ys.length ≤ sizeLine then some (Ev.D.lst (xs ++ ys)) else none) = _
  rw [if_pos (len_line h)]
theorem eq_texts {S : Store} (a b : List Nat) : eqB S (.str (sC a)) (.str (sC b)) = some (decide (a = b)) := by rw [eqB_ss, eq_sC]
/-- a pool for each cell -/
theorem pool_PL (ns : List Int) (k : Int) (S : Store) (hS : ∀ m, lowS m S = true) (hk : 0 ≤ k) (hk2 : k < 1000) : ∃ S', g_law_pool [.lst (ns.map Ev.D.int), .int k] S = .ok (.loc S.length) S' ∧ PL (S.length + 1) S' S.length := by
  obtain ⟨a, b, h1, h2, h3, e⟩ := pool_ok ns k S hk hk2
  refine ⟨_, e, ⟨a, b, by simp, h1, h2, h3⟩, by simp, fun m => lowS_app (hS m) rfl⟩
end Lw
namespace Lw
open PySem PySem.Spec L2 Ev
/-! ### rows written by the law; rows shown -/
theorem law_shown_eq {S : Store} {c : Nat} {d : Ev.D} (h : Shape c d) : g_law_shown_part [.str (sC [c]), d] S = .ok (.str (sC (shP c d))) S := by
  obtain ⟨⟨l1, l2, l3, l4⟩, l5, l6, l7, l8, l9⟩ := lits9
  unfold g_law_shown_part runDef m_law_shown_part
  cases h with
  | @num c i hc h1 h2 =>
    have s1 := strT_int (S := S) h1 h2
    have c1 : c ≠ 121 := by omega
    have c2 : c ≠ 114 := by omega
    simp [l5, l6, eq_sC, c1, c2, s1, shP]
  | @box i h1 h2 =>
    have ne : Str.ofString "box" ≠ Str.ofString "worth" := by decide +kernel
    have s1 := strT_int (S := S) (i := i) (by omega) h2
    have ln := tI_len (i := i) (by omega) h2
    have i0 : ixD S (.tup [.str (Str.ofString "box"), .int i]) (.int 0) = some (.str (Str.ofString "box")) := by simp [ixD, atI, ixN]
    have i1 : ixD S (.tup [.str (Str.ofString "box"), .int i]) (.int 1) = some (.int i) := by simp [ixD, atI, ixN]
    have ad := addD_sC (S := S) (a := []) (b := tI i) (by simp; omega)
    have mu : mulU S (.str (Str.ofString "#")) (.int 0) = some (.str (sC [])) := rfl
    simp [l5, eq_sC, i0, i1, ne, s1, shP, mu, ad]
  | @worth i h1 h2 =>
    have s1 := strT_int (S := S) (i := i) (by omega) h2
    have ln := tI_len (i := i) (by omega) h2
    have i0 : ixD S (.tup [.str (Str.ofString "worth"), .int i]) (.int 0) = some (.str (Str.ofString "worth")) := by simp [ixD, atI, ixN]
    have i1 : ixD S (.tup [.str (Str.ofString "worth"), .int i]) (.int 1) = some (.int i) := by simp [ixD, atI, ixN]
    have ad := addD_sC (S := S) (a := [35]) (b := tI i) (by simp; omega)
    have mu : mulU S (.str (Str.ofString "#")) (.int 1) = some (.str (Str.ofString "#")) := rfl
    rw [lit_hash] at mu
    simp [l5, eq_sC, i0, i1, s1, shP, lit_hash, mu, ad]
  | @rts m =>
    have st : strT S [.str (rs m)] = some (.str (rs m)) := rfl
    rw [rs_eq] at st
    by_cases e : rc m = []
    · simp [l5, l6, eq_sC, rs_eq, lit_nil, e, shP, lit_dash, sC]
    · have sh : shP 114 (.str (rs m)) = rc m := by simp only [shP, rs_list, true_and, if_neg e]
      rw [sh, rs_eq]
      simp [l5, l6, eq_sC, lit_nil, e, st]
  | @word c x hc hx =>
    have c1 : c ≠ 121 := by omega
    have c2 : c ≠ 114 := by omega
    have st : strT S [.str x] = some (.str x) := rfl
    simp [l5, l6, eq_sC, c1, c2, st, shP, sC_eta]
theorem law_line_eq {S : Store} {r : Ev.D} (hS : ∀ m, lowS m S = true) (ok : okRow r = true) : g_law_line [r] S = .ok (.str (sC (shR r))) S := by
  obtain ⟨w, s, ps, rfl, hf, hl, hs⟩ := row_parts ok
  obtain ⟨k1, k2, k3, k4⟩ := keys_ok _ (frm_mem hf)
  dsimp only at k4
  obtain ⟨h4, _⟩ := frm_srt hf
  have fo := forms_eq (S := S) (hS _)
  have dx := dix_forms (S := S) hf
  have i0 : ixD S (.tup (.str w :: ps)) (.int 0) = some (.str w) := by simp [ixD, atI, ixN]
  have sl : slD S (.tup (.str w :: ps)) (some 1) none = some (.tup ps) := by simp [slD, cutD, HT.sIx]
  have lc := rLc_map (it := rRan zipD (rCons (rBin dixD (rCall g_law_forms rNil) (rBin ixD (rVar 0) (rCon (.int 0)))) (rCons (rSl (rVar 0) (rPart (rCon (.int 1))) rNoP) rNil))) (t := .tp [2, 3]) (vs := [2, 3]) (c := rYes) (elt := rCall g_law_shown_part (rCons (rVar 2) (rCons (rVar 3) rNil)))
    (e := [some (.tup (.str w :: ps)), none, none, none]) (S := S) (h := fun p : Nat × Ev.D => Ev.D.tup [.str (sC [p.1]), p.2]) (xs := s.zip ps)
    (fun p => [some (.tup (.str w :: ps)), none, some (.str (sC [p.1])), some p.2]) (fun _ => true) (fun p => .str (sC (shP p.1 p.2)))
    (by simp [zipD, itemsD, fo, i0, dx, sl, zip_signs]) (by simp only [List.length_zip]; exact len_line (by omega))
    (fun p hp => ⟨by simp [wipeE, bindT, parts, setAll], rfl, fun _ => by simp [law_shown_eq (S := S) (hs p hp)]⟩)
  rw [show (s.zip ps).filter (fun _ => true) = s.zip ps from List.filter_eq_self.mpr fun _ _ => rfl] at lc
  have ew : ((s.zip ps).map fun p => Ev.D.str (sC (shP p.1 p.2))) = wD ((s.zip ps).map fun p => shP p.1 p.2) := by simp [wD, List.map_map, Function.comp_def]
  rw [ew] at lc
  have hsp : ∀ t ∈ (s.zip ps).map (fun p => shP p.1 p.2), t.length ≤ 10 := fun t ht => by
    obtain ⟨p, hp, rfl⟩ := List.mem_map.mp ht
    exact (shP_ok (hs p hp)).2.2
  have z4 : ((s.zip ps).map (fun p => shP p.1 p.2)).length ≤ 4 := by simp only [List.length_map, List.length_zip]; omega
  have er : shR (.tup (.str w :: ps)) = TL.joinL [32] (if w = Str.ofString "do" then (s.zip ps).map (fun p => shP p.1 p.2) else w.cps.toList :: (s.zip ps).map (fun p => shP p.1 p.2)) := shR_eq hf
  rw [er]
  generalize (s.zip ps).map (fun p => shP p.1 p.2) = ts at *
  have ll : ∀ ws : List (List Nat), (∀ t ∈ ws, t.length ≤ 10) → lensum ws ≤ 11 * ws.length := by
    intro ws
    induction ws with
    | nil => intro _; simp [lensum]
    | cons a ws ih =>
      intro h
      have h1 := h a (by simp)
      have h2 := ih fun t ht => h t (List.mem_cons_of_mem _ ht)
      simp only [lensum, List.map_cons, List.sum_cons, List.length_cons] at h2 ⊢
      omega
  have j1 := join_w (S := S) (c := 32) (ws := ts) (by have := ll ts hsp; omega)
  have j2 := join_w (S := S) (c := 32) (ws := w.cps.toList :: ts) (by
    have := ll (w.cps.toList :: ts) fun t ht => by
      rcases List.mem_cons.mp ht with rfl | ht
      · omega
      · exact hsp t ht
    simp only [List.length_cons] at this
    omega)
  have ad : addD S (.lst [.str w]) (.lst (wD ts)) = some (.lst (wD (w.cps.toList :: ts))) := by
    show (if [Ev.D.str w].length + (wD ts).length ≤ sizeLine then some (Ev.D.lst ([Ev.D.str w] ++ wD ts)) else none) = _
    rw [if_pos (by rw [sizeLine_eq]; simp [wD]; omega)]
    simp [wD, sC_eta]
  have ad0 : addD S (.lst []) (.lst (wD ts)) = some (.lst (wD ts)) := by
    show (if ([] : List Ev.D).length + (wD ts).length ≤ sizeLine then some (Ev.D.lst ([] ++ wD ts)) else none) = _
    rw [if_pos (by rw [sizeLine_eq]; simp [wD]; omega)]
    simp
  have m0 : mulL S (.lst [.str w]) (.int 0) = some (.lst []) := by
    simp only [mulL]
    rw [if_pos ⟨by decide, by decide, by rw [sizeLine_eq]; simp⟩]; rfl
  have m1 : mulL S (.lst [.str w]) (.int 1) = some (.lst [.str w]) := by
    simp only [mulL]
    rw [if_pos ⟨by decide, by decide, by rw [sizeLine_eq]; simp⟩]; rfl
  unfold g_law_line runDef m_law_line
  by_cases c : w = Str.ofString "do"
  · subst c
    simp [lc, i0, m0, ad0, lit_sp, rMth, tyM, j1, ofP]
  · simp [lc, i0, c, m1, ad, lit_sp, rMth, tyM, j2, ofP]
theorem law_text_eq {S : Store} {rs : List Ev.D} (hS : ∀ m, lowS m S = true) (h : ∀ r ∈ rs, okRow r = true) (hl : rs.length ≤ 1000) : g_law_text [.lst rs] S = .ok (.str (sC (txR rs))) S := by
  have lc := rLc_map (it := rIt (rVar 0)) (t := .nm 1) (vs := [1]) (c := rYes) (elt := rCall g_law_line (rCons (rVar 1) rNil)) (e := [some (.lst rs), none]) (S := S) (h := fun r : Ev.D => r) (xs := rs)
    (fun r => [some (.lst rs), some r]) (fun _ => true) (fun r => .str (sC (shR r))) (by simp [itemsD]) (len_line (by omega))
    (fun r hr => ⟨by simp [wipeE], rfl, fun _ => by simp [law_line_eq (S := S) hS (h r hr)]⟩)
  rw [show rs.filter (fun _ => true) = rs from List.filter_eq_self.mpr fun _ _ => rfl] at lc
  have ew : (rs.map fun r => Ev.D.str (sC (shR r))) = wD (rs.map shR) := by simp [wD, List.map_map, Function.comp_def]
  rw [ew] at lc
  have ls : ∀ rs : List Ev.D, (∀ r ∈ rs, okRow r = true) → lensum (rs.map shR) ≤ 61 * rs.length := by
    intro rs
    induction rs with
    | nil => intro _; simp [lensum]
    | cons r rs ih =>
      intro h
      have h1 := (shR_ok (h r (by simp))).2
      have h2 := ih fun t ht => h t (List.mem_cons_of_mem _ ht)
      simp only [lensum, List.map_cons, List.sum_cons, List.length_cons] at h2 ⊢
      omega
  have j1 := join_w (S := S) (c := 10) (ws := rs.map shR) (by have := ls rs h; omega)
  unfold g_law_text runDef m_law_text
  simp [lc, lit_nl, rMth, tyM, j1, ofP, txR]
end Lw
namespace Lw
open PySem PySem.Spec L2 Ev
/-! ### rows shown by repr -/
theorem words_cps : ∀ x ∈ DEE ++ (ASK ++ WHA), (x.cps.toList.all fun c => decide (c < 1114112)) = true ∧ x.length ≤ 9 := by decide +kernel
theorem keys_cps : ∀ p ∈ FRM, (p.1.cps.toList.all fun c => decide (c < 1114112)) = true ∧ p.1.length ≤ 9 := by decide +kernel
theorem two_le {b : Nat} (h : b ≤ 100) : 3 + (b + 2 + (1921 + 2 + 0)) ≤ 2100 := by omega
theorem bn_two (x : Str) (i : Int) : bnR (.tuple [.str x, .int i]) = 3 + (bnR (.str x) + 2 + (1921 + 2 + 0)) := by simp only [bnR, bnRs]
theorem ok_two (x : Str) (i : Int) : okR (.tuple [.str x, .int i]) = (okR (.str x) && (okR (.int i) && true)) := by simp only [okR, okRs]
theorem bx_ok : okR (.str (Str.ofString "box")) = true ∧ bnR (.str (Str.ofString "box")) ≤ 100 := by decide +kernel
theorem wo_ok : okR (.str (Str.ofString "worth")) = true ∧ bnR (.str (Str.ofString "worth")) ≤ 100 := by decide +kernel
theorem py_two (x : Str) (i : Int) : pyOf 6 (.tup [.str x, .int i]) = .tuple [.str x, .int i] := by simp only [pyOf, List.map_cons, List.map_nil]
theorem shape_okR {c : Nat} {d : Ev.D} (h : Shape c d) : okR (pyOf 6 d) = true ∧ bnR (pyOf 6 d) ≤ 2100 := by
  have nI : ∀ i : Int, -8 ≤ i → i ≤ 65535 → okR (.int i) = true := fun i h1 h2 => okR_int (by omega) (by omega)
  cases h with
  | @num c i hc h1 h2 =>
    have e : pyOf 6 (.int i) = .int i := rfl
    rw [e]
    exact ⟨nI _ h1 h2, by show 1921 ≤ 2100; omega⟩
  | @box i h1 h2 =>
    have o := nI i (by omega) h2
    rw [py_two, ok_two, bn_two, bx_ok.1, o]
    exact ⟨rfl, two_le bx_ok.2⟩
  | @worth i h1 h2 =>
    have o := nI i (by omega) h2
    rw [py_two, ok_two, bn_two, wo_ok.1, o]
    exact ⟨rfl, two_le wo_ok.2⟩
  | @rts m =>
    have hl := rc_len m
    have e : pyOf 6 (.str (rs m)) = .str (rs m) := rfl
    rw [e]
    refine ⟨?_, ?_⟩
    · simp only [okR, List.all_eq_true, decide_eq_true_eq, rs_list]
      intro c hc
      obtain ⟨i, hi, _, rfl⟩ := mem_pk' hc
      have d : ∀ i : Fin 9, rg i.val < 1114112 := by decide
      exact d ⟨i, hi⟩
    · simp only [bnR, rs_eq, len_sC]; omega
  | @word c x hc hx =>
    obtain ⟨w1, w2⟩ := words_cps x hx
    have e : pyOf 6 (.str x) = .str x := rfl
    rw [e]
    exact ⟨by simp only [okR]; exact w1, by simp only [bnR]; omega⟩
theorem okRs_map {f : Ev.D → PyData} {B : Nat} : ∀ {xs : List Ev.D}, (∀ x ∈ xs, okR (f x) = true ∧ bnR (f x) ≤ B) → okRs (xs.map f) = true ∧ bnRs (xs.map f) ≤ xs.length * (B + 2)
  | [], _ => ⟨rfl, by simp [bnRs]⟩
  | x :: xs, h => by
    obtain ⟨a, b⟩ := h x List.mem_cons_self
    obtain ⟨c, d⟩ := okRs_map (xs := xs) fun y hy => h y (List.mem_cons_of_mem _ hy)
    simp only [List.map_cons, okRs, bnRs, List.length_cons, Nat.succ_mul, Bool.and_eq_true]
    exact ⟨⟨a, c⟩, by omega⟩
theorem row_okR {r : Ev.D} (h : okRow r = true) : okR (pyOf 7 r) = true ∧ bnR (pyOf 7 r) ≤ 9000 := by
  obtain ⟨w, s, ps, rfl, hf, hl, hs⟩ := row_parts h
  obtain ⟨k1, k2⟩ := keys_cps _ (frm_mem hf)
  dsimp only at k1 k2
  obtain ⟨h4, _⟩ := frm_srt hf
  obtain ⟨a, b⟩ := okRs_map (f := pyOf 6) (B := 2100) (xs := ps) (fun d hd => by
    obtain ⟨i, hi, e⟩ := List.getElem_of_mem hd
    have m : (s[i]'(by omega), d) ∈ s.zip ps := by
      rw [← e]
      have : (s.zip ps)[i]'(by rw [List.length_zip]; omega) = (s[i]'(by omega), ps[i]) := by simp
      rw [← this]
      exact List.getElem_mem _
    exact shape_okR (hs _ m))
  have e : pyOf 7 (.tup (.str w :: ps)) = .tuple (.str w :: ps.map (pyOf 6)) := rfl
  rw [e]
  simp only [okR, okRs, bnR, bnRs, Bool.and_eq_true]
  have : ps.length * 2102 ≤ 4 * 2102 := Nat.mul_le_mul_right _ (by omega)
  exact ⟨⟨k1, a⟩, by omega⟩
/-- what repr tells of rows, the store whatever it is -/
def reprR (A : List Ev.D) : Ev.D := .str (PyData.list (A.map (pyOf 7))).shown
theorem repr_rows {S : Store} {A : List Ev.D} (h : ∀ r ∈ A, okRow r = true) (hl : A.length ≤ 1000) : reprD S [.lst A] = some (reprR A) := by
  obtain ⟨a, b⟩ := okRs_map (f := pyOf 7) (B := 9000) (xs := A) fun r hr => row_okR (h r hr)
  have p : pyD S deepN (.lst A) = some (.list (A.map (pyOf 7))) := by
    show (pyAll (pyD S 59) A).bind _ = _
    rw [rows_pyAll h]; rfl
  refine reprD_of p a ?_
  have : A.length * 9002 ≤ 1000 * 9002 := Nat.mul_le_mul_right _ hl
  simp only [bnR]; omega
theorem repr_loc {S : Store} {A : List Ev.D} {n : Nat} (hn : S[n]? = some (.lst A)) (h : ∀ r ∈ A, okRow r = true) (hl : A.length ≤ 1000) : reprD S [.loc n] = some (reprR A) := by
  obtain ⟨a, b⟩ := okRs_map (f := pyOf 7) (B := 9000) (xs := A) fun r hr => row_okR (h r hr)
  have p : pyD S deepN (.loc n) = some (.list (A.map (pyOf 7))) := by
    show (match S[n]? with | some (.lst xs) => (pyAll (pyD S 59) xs).bind fun ys => some (PyData.list ys) | _ => none) = _
    rw [hn]
    show (pyAll (pyD S 59) A).bind _ = _
    rw [rows_pyAll h]; rfl
  refine reprD_of p a ?_
  have : A.length * 9002 ≤ 1000 * 9002 := Nat.mul_le_mul_right _ hl
  simp only [bnR]; omega
end Lw
namespace Lw
open PySem PySem.Spec L2 Ev
/-! ### the law's own look at rows -/
theorem law_from_eq {S : Store} {d : Ev.D} {lo hi : Int} (h : plainK d = true) : g_law_is_from [d, .int lo, .int hi] S = .ok (.bl (okN lo hi d)) S := by
  unfold g_law_is_from runDef m_law_is_from
  cases d with
  | loc n => simp [plainK] at h
  | exn c ns xs => simp [plainK] at h
  | int i => by_cases c1 : lo ≤ i <;> by_cases c2 : i ≤ hi <;> simp [okN, c1, c2]
  | _ => simp [okN]
theorem lit_bnot : Str.ofString "bnot" = sC [98, 110, 111, 116] := by decide +kernel
theorem ninD_strs {S : Store} {x : Ev.D} {l : List Str} (h : nice 6 x = true) : ninD S x (.lst (l.map Ev.D.str)) = some (.bl (!okW l x)) := by
  have e1 : pyAll (pyD S 59) (l.map Ev.D.str) = some (l.map PyData.str) := by
    induction l with
    | nil => rfl
    | cons x l ih => simp only [List.map_cons, pyAll]; rw [ih]; rfl
  have p1 : pyD S deepN (.lst (l.map Ev.D.str)) = some (.list (l.map PyData.str)) := by
    show (pyAll (pyD S 59) (l.map Ev.D.str)).bind _ = _
    rw [e1]; rfl
  have p0 : pyD S deepN x = some (pyOf 6 x) := py_nice S 6 (by decide) h
  have e2 : inAny (l.map PyData.str) (pyOf 6 x) = okW l x := by
    unfold inAny
    rw [List.any_map]
    cases x with
    | str w =>
      simp only [okW]
      rw [Bool.eq_iff_iff, List.any_eq_true, decide_eq_true_eq]
      constructor
      · rintro ⟨y, hy, e⟩
        have : y = w := by simpa [pyOf, PyData.eqv] using e
        exact this ▸ hy
      · intro hw
        exact ⟨w, hw, by simp [pyOf, PyData.eqv]⟩
    | non => simp only [okW]; rw [List.any_eq_false]; intro y hy; simp [pyOf, PyData.eqv]
    | bl => simp only [okW]; rw [List.any_eq_false]; intro y hy; simp [pyOf, PyData.eqv]
    | int => simp only [okW]; rw [List.any_eq_false]; intro y hy; simp [pyOf, PyData.eqv]
    | tup => simp only [okW]; rw [List.any_eq_false]; intro y hy; simp [pyOf, PyData.eqv]
    | lst => simp only [okW]; rw [List.any_eq_false]; intro y hy; simp [pyOf, PyData.eqv]
    | _ => simp [nice] at h
  have q : inB S x (.lst (l.map Ev.D.str)) = some (okW l x) := by
    have : inB S x (.lst (l.map Ev.D.str)) = (pyD S deepN x).bind fun x => (pyD S deepN (.lst (l.map Ev.D.str))).bind fun y => (seqP y).bind fun ps => some (inAny ps x) := by
      cases x <;> rfl
    rw [this, p0, Option.bind_some, p1, Option.bind_some, ← e2]; rfl
  unfold ninD
  rw [q]; rfl
theorem law_part_num {S : Store} {gr : List Ev.D → Store → Res Ev.D} {c : Nat} {d : Ev.D} (hc : c = 98 ∨ c = 110 ∨ c = 111 ∨ c = 116) (h : plainK d = true) : runDef 5 (m_law_is_part gr) [.str (sC [c]), d] S = .ok (.bl (okP c d)) S := by
  have f : ∀ lo hi, g_law_is_from [d, .int lo, .int hi] S = .ok (.bl (okN lo hi d)) S := fun lo hi => law_from_eq h
  obtain ⟨⟨l1, l2, l3, l4⟩, l5, l6, l7, l8, l9⟩ := lits9
  have dis : rDispF [(Str.ofString "b", (rTup (rCons (rCon (.int 0)) (rCons (rCon (.int 7)) rNil)))), (Str.ofString "n", (rTup (rCons (rCon (.int 0)) (rCons (rCon (.int 65535)) rNil)))), (Str.ofString "o", (rTup (rCons (rUn negD (rCon (.int 8))) (rCons (rCon (.int 15)) rNil)))), (Str.ofString "t", (rTup (rCons (rCon (.int 0)) (rCons (rCon (.int 4095)) rNil))))]
      [some (.str (sC [c])), some d, none, none, none] S = .ok (.dct [.inr (Str.ofString "b"), .inr (Str.ofString "n"), .inr (Str.ofString "o"), .inr (Str.ofString "t")] [.tup [.int 0, .int 7], .tup [.int 0, .int 65535], .tup [.int (-8), .int 15], .tup [.int 0, .int 4095]]) S := by kernel_rfl
  have dx : ∀ (k : Str), dixD S (.dct [.inr (Str.ofString "b"), .inr (Str.ofString "n"), .inr (Str.ofString "o"), .inr (Str.ofString "t")] [.tup [.int 0, .int 7], .tup [.int 0, .int 65535], .tup [.int (-8), .int 15], .tup [.int 0, .int 4095]]) (.str k) = lkK [.inr (Str.ofString "b"), .inr (Str.ofString "n"), .inr (Str.ofString "o"), .inr (Str.ofString "t")] [.tup [.int 0, .int 7], .tup [.int 0, .int 65535], .tup [.int (-8), .int 15], .tup [.int 0, .int 4095]] (.inr k) := fun k => rfl
  unfold runDef m_law_is_part
  rcases hc with rfl | rfl | rfl | rfl
  · have e := dx (sC [98])
    rw [show lkK [.inr (Str.ofString "b"), .inr (Str.ofString "n"), .inr (Str.ofString "o"), .inr (Str.ofString "t")] [Ev.D.tup [.int 0, .int 7], .tup [.int 0, .int 65535], .tup [.int (-8), .int 15], .tup [.int 0, .int 4095]] (.inr (sC [98])) = some (.tup [.int 0, .int 7]) from rfl] at e
    simp [-rDispF_eq, dis, e, lit_bnot, inD_one, f, okP]
  · have e := dx (sC [110])
    rw [show lkK [.inr (Str.ofString "b"), .inr (Str.ofString "n"), .inr (Str.ofString "o"), .inr (Str.ofString "t")] [Ev.D.tup [.int 0, .int 7], .tup [.int 0, .int 65535], .tup [.int (-8), .int 15], .tup [.int 0, .int 4095]] (.inr (sC [110])) = some (.tup [.int 0, .int 65535]) from rfl] at e
    simp [-rDispF_eq, dis, e, lit_bnot, inD_one, f, okP]
  · have e := dx (sC [111])
    rw [show lkK [.inr (Str.ofString "b"), .inr (Str.ofString "n"), .inr (Str.ofString "o"), .inr (Str.ofString "t")] [Ev.D.tup [.int 0, .int 7], .tup [.int 0, .int 65535], .tup [.int (-8), .int 15], .tup [.int 0, .int 4095]] (.inr (sC [111])) = some (.tup [.int (-8), .int 15]) from rfl] at e
    simp [-rDispF_eq, dis, e, lit_bnot, inD_one, f, okP]
  · have e := dx (sC [116])
    rw [show lkK [.inr (Str.ofString "b"), .inr (Str.ofString "n"), .inr (Str.ofString "o"), .inr (Str.ofString "t")] [Ev.D.tup [.int 0, .int 7], .tup [.int 0, .int 65535], .tup [.int (-8), .int 15], .tup [.int 0, .int 4095]] (.inr (sC [116])) = some (.tup [.int 0, .int 4095]) from rfl] at e
    simp [-rDispF_eq, dis, e, lit_bnot, inD_one, f, okP]
/-- signs, one by one, compared -/
theorem eq_signs {S : Store} (a b : List Nat) : eqB S (.lst (a.map fun c => .str (sC [c]))) (.lst (b.map fun c => .str (sC [c]))) = some (decide (a = b)) := by
  have p : ∀ l : List Nat, pyAll (pyD S 59) (l.map fun c => Ev.D.str (sC [c])) = some (l.map fun c => PyData.str (sC [c])) := fun l => by
    induction l with
    | nil => rfl
    | cons x l ih => simp only [List.map_cons, pyAll]; rw [ih]; rfl
  rw [eqB_ll, p, p, Option.bind_some, Option.bind_some]
  congr 1
  rw [Bool.eq_iff_iff, decide_eq_true_eq]
  induction a generalizing b with
  | nil => cases b <;> simp [PyData.eqvAll]
  | cons x a ih => cases b with
    | nil => simp [PyData.eqvAll]
    | cons y b =>
      simp only [List.map_cons, PyData.eqvAll, Bool.and_eq_true, ih, List.cons.injEq]
      have : (PyData.eqv (.str (sC [x])) (.str (sC [y])) = true) ↔ x = y := by
        simp only [PyData.eqv, beq_iff_eq, sC_inj]; simp
      rw [this]
theorem law_part_r {S : Store} {gr : List Ev.D → Store → Res Ev.D} {d : Ev.D} (h : plainK d = true) (hs : ∀ x, d = .str x → x.length ≤ 1000000) : runDef 5 (m_law_is_part gr) [.str (sC [114]), d] S = .ok (.bl (okP 114 d)) S := by
  obtain ⟨⟨l1, l2, l3, l4⟩, l5, l6, l7, l8, l9⟩ := lits9
  have ok : okP 114 d = okRt d := rfl
  rw [ok]
  unfold runDef m_law_is_part
  cases d with
  | loc n => simp [plainK] at h
  | exn c ns xs => simp [plainK] at h
  | str x =>
    have hx := hs x rfl
    have ex : x = sC x.cps.toList := (sC_eta x).symm
    generalize x.cps.toList = l at ex
    subst ex
    have lc := rLc_map (it := rIt (rCon (.str "rwlsnfxco"))) (t := .nm 4) (vs := [4]) (c := rTest (rBin inD (rVar 4) (rVar 1))) (elt := rVar 4) (e := [some (.str (sC [114])), some (.str (sC l)), none, none, none]) (S := S) (h := fun c => Ev.D.str (sC [c])) (xs := RG)
      (fun c => [some (.str (sC [114])), some (.str (sC l)), none, none, some (.str (sC [c]))]) (fun c => decide (c ∈ l)) (fun c => .str (sC [c]))
      (by simp only [rIt_eq, rCon_eq, bind_ok, lit_RG, itemsD, signs_sC, ofO_some]) (by decide)
      (fun c hc => ⟨rfl, by simp [inD_one], fun _ => by simp⟩)
    have ln : l.length ≤ sizeLine := len_small (by rw [len_sC] at hx; exact hx)
    have lt : listT S [.str (sC l)] = some (.lst (l.map fun c => .str (sC [c]))) := by
      rw [listT_str, len_sC, if_pos ln, signs_sC]
    have e0 := eq_signs (S := S) (RG.filter fun c => decide (c ∈ l)) l
    have er : decide (RG.filter (fun c => decide (c ∈ l)) = l) = isRs (sC l) := by
      have cl : (sC l).cps.toList = l := by simp [sC]
      unfold isRs
      rw [cl, Bool.eq_iff_iff, decide_eq_true_eq, beq_iff_eq, rs_eq, sC_inj, filter_RG]
      have : (pk fun i => decide (rg i ∈ l)) = rc (mskL l) := pk_congr fun i hi => (mskL_bit l i hi).symm
      rw [this]
      exact eq_comm
    rw [er] at e0
    simp [-eqB_ll, -listT_str, lit_bnot, inD_one, l5, l6, eq_sC, lc, lt, e0, okRt]
  | _ => simp [lit_bnot, inD_one, l5, l6, eq_sC, okRt]
theorem law_part_y {S : Store} {gr : List Ev.D → Store → Res Ev.D} {d : Ev.D} (hg : ∀ c x, c = 98 ∨ c = 110 → plainK x = true → gr [.str (sC [c]), x] S = .ok (.bl (okP c x)) S) (h : plainK d = true) (h2 : ∀ xs, d = .tup xs → ∀ x ∈ xs, nice 6 x = true) : runDef 5 (m_law_is_part gr) [.str (sC [121]), d] S = .ok (.bl (okP 121 d)) S := by
  obtain ⟨⟨l1, l2, l3, l4⟩, l5, l6, l7, l8, l9⟩ := lits9
  have ok : okP 121 d = okBy d := rfl
  rw [ok]
  unfold runDef m_law_is_part
  cases d with
  | loc n => simp [plainK] at h
  | exn c ns xs => simp [plainK] at h
  | tup xs =>
    have hx := h2 xs rfl
    match xs, hx with
    | [], _ => simp [lit_bnot, inD_one, l5, eq_sC, lenD, okBy]
    | [_], _ => simp [lit_bnot, inD_one, l5, eq_sC, lenD, okBy]
    | _ :: _ :: _ :: _, _ => simp [lit_bnot, inD_one, l5, eq_sC, lenD, okBy]; try omega
    | [a, x], hx =>
      have i0 : ixD S (.tup [a, x]) (.int 0) = some a := by simp [ixD, atI, ixN]
      have i1 : ixD S (.tup [a, x]) (.int 1) = some x := by simp [ixD, atI, ixN]
      have px := nice_plain (hx x (by simp))
      have ni := ninD_strs (S := S) (l := [Str.ofString "box", Str.ofString "worth"]) (hx a (by simp))
      have n0 : ixD S (.lst [.str (Str.ofString "n"), .str (Str.ofString "b")]) (.int 0) = some (.str (Str.ofString "n")) := by simp [ixD, asL, atI, ixN]
      have n1 : ixD S (.lst [.str (Str.ofString "n"), .str (Str.ofString "b")]) (.int 1) = some (.str (Str.ofString "b")) := by simp [ixD, asL, atI, ixN]
      have g1 := hg 98 x (.inl rfl) px
      have g2 := hg 110 x (.inr rfl) px
      rw [← l1] at g1
      rw [← l2] at g2
      have o1 : okP 98 x = okN 0 7 x := rfl
      have o2 : okP 110 x = okN 0 65535 x := rfl
      simp only [List.map_cons, List.map_nil] at ni
      cases a with
      | str w =>
        by_cases c1 : w = Str.ofString "box"
        · subst c1
          simp [lit_bnot, inD_one, l5, eq_sC, lenD, okBy, i0, i1, ni, okW, n1, g1, o1]
        · by_cases c2 : w = Str.ofString "worth"
          · subst c2
            simp [lit_bnot, inD_one, l5, eq_sC, lenD, okBy, i0, i1, ni, okW, n0, g2, o2, c1]
          · simp [lit_bnot, inD_one, l5, eq_sC, lenD, okBy, i0, i1, ni, okW, c1, c2]
      | _ => simp [lit_bnot, inD_one, l5, eq_sC, lenD, okBy, i0, i1, ni, okW]
  | _ => simp [lit_bnot, inD_one, l5, eq_sC, okBy]
theorem law_part_w {S : Store} {gr : List Ev.D → Store → Res Ev.D} {c : Nat} {d : Ev.D} (hc : c = 100 ∨ c = 106 ∨ c = 107) (h : plainK d = true) : runDef 5 (m_law_is_part gr) [.str (sC [c]), d] S = .ok (.bl (okP c d)) S := by
  obtain ⟨⟨l1, l2, l3, l4⟩, l5, l6, l7, l8, l9⟩ := lits9
  have ls := lists_eq (S := S) hc
  have ok : okP c d = okW (if c = 100 then DEE else if c = 106 then ASK else WHA) d := by rcases hc with rfl | rfl | rfl <;> rfl
  generalize (if c = 100 then DEE else if c = 106 then ASK else WHA) = l at ls ok
  have n : c ≠ 98 ∧ c ≠ 110 ∧ c ≠ 111 ∧ c ≠ 116 ∧ c ≠ 121 ∧ c ≠ 114 := by omega
  obtain ⟨n1, n2, n3, n4, n5, n6⟩ := n
  rw [ok]
  unfold runDef m_law_is_part
  cases d with
  | loc n => simp [plainK] at h
  | exn c ns xs => simp [plainK] at h
  | str w =>
    have q := (inD_strs (S := S) (w := w) (l := l)).1
    simp [lit_bnot, inD_one, l5, l6, eq_sC, n1, n2, n3, n4, n5, n6, ls, q, okW]
  | _ => simp [lit_bnot, inD_one, l5, l6, eq_sC, n1, n2, n3, n4, n5, n6, okW]
theorem law_part_look {S : Store} {c : Nat} {d : Ev.D} (hc : c ∈ SRT) (h : plainK d = true) (h2 : ∀ xs, d = .tup xs → ∀ x ∈ xs, nice 6 x = true) (hs : ∀ x, d = .str x → x.length ≤ 1000000) : g_law_is_part [.str (sC [c]), d] S = .ok (.bl (okP c d)) S := by
  simp only [SRT, List.mem_cons, List.not_mem_nil, or_false] at hc
  show runDef 5 (m_law_is_part gz_law_is_part) _ _ = _
  rcases hc with rfl | rfl | rfl | rfl | rfl | rfl | hc
  · exact law_part_num (.inl rfl) h
  · exact law_part_num (.inr (.inl rfl)) h
  · exact law_part_num (.inr (.inr (.inl rfl))) h
  · exact law_part_num (.inr (.inr (.inr rfl))) h
  · exact law_part_y (fun c x hc hx => law_part_num (by omega) hx) h h2
  · exact law_part_r h hs
  · exact law_part_w hc h
theorem filter_none {α : Type} (p : α → Bool) (l : List α) : decide (l.filter (fun x => !p x) = []) = l.all p := by
  rw [Bool.eq_iff_iff, decide_eq_true_eq, List.filter_eq_nil_iff, List.all_eq_true]
  simp
theorem eq_nil_str {S : Store} (a : List Nat) : eqB S (.lst (a.map fun c => .str (sC [c]))) (.lst []) = some (decide (a = [])) := by
  have := eq_signs (S := S) a []
  simpa using this
theorem law_is_row_eq {S : Store} {d : Ev.D} (hS : ∀ m, lowS m S = true) (h : plainK d = true) (h2 : ∀ xs, d = .tup xs → ∀ x ∈ xs, nice 7 x = true ∧ (∀ ys, x = .tup ys → ∀ y ∈ ys, nice 6 y = true) ∧ ∀ w, x = .str w → w.length ≤ 1000000) (hz : ∀ xs, d = .tup xs → xs.length ≤ 1000) : g_law_is_row [d] S = .ok (.bl (okRow d)) S := by
  have fo := forms_eq (S := S) (hS _)
  unfold g_law_is_row runDef m_law_is_row
  cases d with
  | loc n => simp [plainK] at h
  | exn c ns xs => simp [plainK] at h
  | tup xs =>
    have hx := h2 xs rfl
    have hzz := hz xs rfl
    cases xs with
    | nil => simp [fo, okRow, pyAll, PyData.eqvAll]
    | cons a ps =>
      have i0 : ixD S (.tup (a :: ps)) (.int 0) = some a := by simp [ixD, atI, ixN]
      have py : pyAll (pyD S 59) (a :: ps) = some ((a :: ps).map (pyOf 7)) := py_nice.pyAll_of fun x hm => py_nice S 7 (by decide) (hx x hm).1
      have pn : pyAll (pyD S 59) [] = some [] := rfl
      have ev : PyData.eqvAll ((a :: ps).map (pyOf 7)) [] = false := by simp [PyData.eqvAll]
      have eq0 : eqB S (.tup (a :: ps)) (.tup []) = some false := by rw [eqB_tt, py, pn]; simp only [Option.bind_some, ev]
      cases a with
      | str w =>
        have dn : dninD S (.str w) formsD = some (.bl (frm w).isNone) := by
          show some (Ev.D.bl (!(lkK (FK FRM) (FX FRM) (.inr w)).isSome)) = _
          rw [lkK_FK]
          unfold frm
          cases (FRM.find? fun p => decide (p.1 = w)) <;> rfl
        cases hf : frm w with
        | none =>
          have okr : okRow (.tup (.str w :: ps)) = false := by simp only [okRow, hf]
          rw [hf] at dn
          rw [okr]
          simp [-eqB_tt, fo, eq0, i0, dn]
        | some s =>
          obtain ⟨hs4, hsr⟩ := frm_srt hf
          rw [hf] at dn
          have dx := dix_forms (S := S) hf
          have l1 : lenD S [.str (sC s)] = some (.int s.length) := lenD_sC (by omega)
          have l2 : lenD S [.tup (.str w :: ps)] = some (.int (ps.length + 1 : Nat)) := by simp [lenD]
          have sl : slD S (.tup (.str w :: ps)) (some 1) none = some (.tup ps) := by simp [slD, cutD, HT.sIx]
          simp only [List.length_cons] at hzz
          by_cases hl : ps.length = s.length
          · have lc := rLc_map (it := rRan zipD (rCons (rVar 2) (rCons (rSl (rVar 0) (rPart (rCon (.int 1))) rNoP) rNil))) (t := .tp [3, 4]) (vs := [3, 4]) (c := rNotT (rTruth (rCall g_law_is_part (rCons (rVar 3) (rCons (rVar 4) rNil))))) (elt := rVar 3)
              (e := [some (.tup (.str w :: ps)), some formsD, some (.str (sC s)), none, none]) (S := S) (h := fun p : Nat × Ev.D => Ev.D.tup [.str (sC [p.1]), p.2]) (xs := s.zip ps)
              (fun p => [some (.tup (.str w :: ps)), some formsD, some (.str (sC s)), some (.str (sC [p.1])), some p.2]) (fun p => !okP p.1 p.2) (fun p => .str (sC [p.1]))
              (by simp [rRan, zipD, itemsD, sl, zip_signs]) (by simp only [List.length_zip]; exact len_line (by omega))
              (fun p hp => by
                have m := List.of_mem_zip hp
                obtain ⟨q1, q2, q3⟩ := hx _ (List.mem_cons_of_mem _ m.2)
                have is := law_part_look (S := S) (hsr _ m.1) (nice_plain q1) q2 q3
                exact ⟨by simp [wipeE, bindT, parts, setAll], by simp [is], fun _ => by simp⟩)
            have okr : okRow (.tup (.str w :: ps)) = (s.zip ps).all fun p => okP p.1 p.2 := by simp [okRow, hf, okPs_zip hl]
            have eN : ((s.zip ps).filter fun p => !okP p.1 p.2).map (fun p => Ev.D.str (sC [p.1])) = (((s.zip ps).filter fun p => !okP p.1 p.2).map (·.1)).map fun c => Ev.D.str (sC [c]) := by rw [List.map_map]; rfl
            rw [eN] at lc
            have en := eq_nil_str (S := S) (((s.zip ps).filter fun p => !okP p.1 p.2).map (·.1))
            have ed : decide (((s.zip ps).filter fun p => !okP p.1 p.2).map (·.1) = []) = (s.zip ps).all fun p => okP p.1 p.2 := by
              rw [← filter_none (fun p : Nat × Ev.D => okP p.1 p.2)]
              simp only [List.map_eq_nil_iff]
            rw [ed] at en
            rw [okr]
            simp [-eqB_tt, -eqB_ll, -List.map_map, fo, eq0, i0, dn, dx, l1, l2, lc, hl, en]
          · have okr : okRow (.tup (.str w :: ps)) = false := by
              simp only [okRow, hf]
              cases e : okPs s ps with
              | false => rfl
              | true => exact absurd (okPs_len e) hl
            rw [okr]
            have ne1 : ¬ ((ps.length : Int) = (s.length : Int)) := fun z => hl (by omega)
            have ne : ((ps.length : Int) + 1 == (s.length : Int) + 1) = false := by
              rw [beq_eq_false_iff_ne]
              intro z
              exact hl (by omega)
            simp [-eqB_tt, -eqB_ll, fo, eq0, i0, dn, dx, l1, l2, ne1, ne]
      | loc n => simpa [nice] using (hx (.loc n) (by simp)).1
      | exn c ns xs => simpa [nice] using (hx (.exn c ns xs) (by simp)).1
      | _ => simp [-eqB_tt, fo, eq0, i0, okRow]
  | _ => simp [fo, okRow]
end Lw
namespace Lw
open PySem PySem.Spec L2 Ev
/-! ### rows read by the law -/
def lnumD (l : List Nat) : Ev.D := if l.head? = some 45 then (match figs 9 l.tail with
    | some n => if l.tail = [48] then .non else .int ((n : Int) * -1)
    | none => .non) else figD (figs 9 l)
theorem sl_zero {S : Store} {l : List Nat} (h : l.length ≤ 1000000) : slD S (.str (sC l)) (some 0) none = some (.str (sC l)) := by
  have e : cutS (sC l) (some 0) none = sC l := by
    apply TL.ext_tl
    unfold cutS
    simp [TL.tl, sC, HT.sIx, Str.length]
  simp only [slD, len_sC]
  rw [if_pos (len_line h), e]
theorem lit_m0 : Str.ofString "-0" = sC [45, 48] := by decide +kernel
theorem law_digits {S : Store} {l ds : List Nat} (b : Bool) (hl : ds.length ≤ 1000000) : rLc frzL (rIt (rVar 1)) (.nm 2) [2] (rTest (rBin ninD (rVar 2) (rCon (.str "0123456789")))) (rVar 2) [some (.str (sC l)), some (.str (sC ds)), none] S = .ok (.lst ((ds.filter fun c => !isDg c).map fun c => .str (sC [c]))) S :=
  rLc_map (it := rIt (rVar 1)) (t := .nm 2) (vs := [2]) (c := rTest (rBin ninD (rVar 2) (rCon (.str "0123456789")))) (elt := rVar 2) (e := [some (.str (sC l)), some (.str (sC ds)), none]) (S := S) (h := fun c => Ev.D.str (sC [c])) (xs := ds)
    (fun c => [some (.str (sC l)), some (.str (sC ds)), some (.str (sC [c]))]) (fun c => !isDg c) (fun c => .str (sC [c])) (by simp [itemsD, signs_sC]) (len_line hl)
    (fun c hc => ⟨rfl, by simp [ninD_dg], fun _ => by simp⟩)
theorem figs_eq (most : Nat) (ds : List Nat) : figs most ds = if ds ≠ [] ∧ ds.length ≤ most ∧ ds.all isDg = true ∧ (ds.head? = some 48 → ds = [48]) then some (NumText.digitsVal ds) else none := by
  unfold figs
  have e : (ds.head? = some 48 → ds.length = 1) ↔ (ds.head? = some 48 → ds = [48]) := by
    constructor
    · intro h h0
      have h1 := h h0
      match ds, h1, h0 with
      | [x], _, h0 => simp at h0; rw [h0]
    · intro h h0
      rw [h h0]; rfl
  simp only [e]
theorem law_number_eq {S : Store} {l : List Nat} (hl : l.length ≤ 900000) : g_law_number_in [.str (sC l)] S = .ok (lnumD l) S := by
  obtain ⟨b, hb⟩ : ∃ b, b = decide (l.head? = some 45) := ⟨_, rfl⟩
  obtain ⟨ds, hd⟩ : ∃ ds, ds = if b = true then l.tail else l := ⟨_, rfl⟩
  have hdl : ds.length ≤ 900000 := by
    by_cases c : b = true
    · rw [hd, if_pos c]; simp; omega
    · rw [hd, if_neg c]; exact hl
  have sw : Txt.startswith (sC l) (sC [45]) = b := by rw [starts_one l 45, hb]
  have sw0 := starts_one ds 48
  have sl : slD S (.str (sC l)) (some (if b = true then 1 else 0)) none = some (.str (sC ds)) := by
    rw [hd]
    cases b
    · exact sl_zero (by omega)
    · exact sl_tail (by omega)
  have dg := law_digits (S := S) (l := l) (ds := ds) b (by omega)
  have en := eq_nil_str (S := S) (ds.filter fun c => !isDg c)
  rw [filter_none isDg ds] at en
  have ln : lenD S [.str (sC ds)] = some (.int ds.length) := lenD_sC (by omega)
  have xb : ixD S (.lst [.int 1, .int (-1)]) (.int (if b = true then 1 else 0)) = some (.int (if b = true then -1 else 1)) := by cases b <;> simp [ixD, asL, atI, ixN]
  have mo : ∀ n : Int, mulOk n (if b = true then -1 else 1) = true := fun n => by cases b <;> simp [mulOk]
  have lm : decide (l = [45, 48]) = (b && decide (ds = [48])) := by
    rw [Bool.eq_iff_iff]
    simp only [Bool.and_eq_true, decide_eq_true_eq, hd, hb]
    constructor
    · rintro rfl; simp
    · rintro ⟨h1, h2⟩
      rw [if_pos h1] at h2
      cases l with
      | nil => simp at h1
      | cons x l => simp at h1 h2; rw [h1, h2]
  have res : lnumD l = if ds ≠ [] ∧ ds.length ≤ 9 ∧ ds.all isDg = true ∧ (ds.head? = some 48 → ds = [48]) ∧ ¬ (b = true ∧ ds = [48]) then .int (((NumText.digitsVal ds : Nat) : Int) * (if b = true then -1 else 1)) else .non := by
    unfold lnumD
    rw [figs_eq, figs_eq]
    cases b with
    | true =>
      have h45 : l.head? = some 45 := by simpa using hb.symm
      simp only [if_true] at hd
      rw [if_pos h45, ← hd]
      by_cases c : ds ≠ [] ∧ ds.length ≤ 9 ∧ ds.all isDg = true ∧ (ds.head? = some 48 → ds = [48])
      · rw [if_pos c]
        dsimp only
        by_cases c2 : ds = [48]
        · rw [if_pos c2, if_neg (by simp [c2])]
        · rw [if_neg c2, if_pos ⟨c.1, c.2.1, c.2.2.1, c.2.2.2, by simp [c2]⟩]; rfl
      · rw [if_neg c, if_neg (fun z => c ⟨z.1, z.2.1, z.2.2.1, z.2.2.2.1⟩)]
    | false =>
      have h45 : ¬ l.head? = some 45 := by simpa using hb.symm
      simp only [Bool.false_eq_true, if_false] at hd
      rw [if_neg h45, ← hd]
      by_cases c : ds ≠ [] ∧ ds.length ≤ 9 ∧ ds.all isDg = true ∧ (ds.head? = some 48 → ds = [48])
      · rw [if_pos c, if_pos ⟨c.1, c.2.1, c.2.2.1, c.2.2.2, by simp⟩]
        simp [figD]
      · rw [if_neg c, if_neg (fun z => c ⟨z.1, z.2.1, z.2.2.1, z.2.2.2.1⟩)]; rfl
  rw [res]
  unfold g_law_number_in runDef m_law_number_in
  by_cases c1 : ds = []
  · rw [if_neg (fun z => z.1 c1)]
    simp [rMth, tyM, startsS, lit_dash, sw, ofP, sl, lit_nil, eq_sC, c1]
  · by_cases c2 : ds.length ≤ 9
    · have c2' : ¬ (9 < (ds.length : Int)) := by omega
      cases c3 : ds.all isDg with
      | false =>
        rw [c3] at en
        rw [if_neg (by simp)]
        simp [-eqB_ll, rMth, tyM, startsS, lit_dash, sw, ofP, sl, lit_nil, eq_sC, c1, ln, c2', dg, en]
      | true =>
        rw [c3] at en
        have it : intT S [.str (sC ds)] = some (.int ((NumText.digitsVal ds : Nat) : Int)) := by
          rw [intT_str, len_sC, if_pos (by omega), int_figs c3 c1 (by omega)]
          rfl
        have c10 : ¬ (sC ds = sC []) := fun z => c1 (sC_inj.mp z)
        by_cases c4 : ds = [48]
        · have s48 : Txt.startswith (sC ds) (sC [48]) = true := by rw [sw0, c4]; rfl
          have e0 : (sC ds == sC [48]) = true := by rw [eq_sC, decide_eq_true c4]
          cases hbb : b with
          | true =>
            rw [if_neg (by simp [c4])]
            rw [hbb, decide_eq_true c4] at lm
            rw [hbb] at sw sl
            have e1 : (sC l == sC [45, 48]) = true := by rw [eq_sC, lm]; rfl
            have e2 : (sC ds == sC []) = false := by rw [eq_sC, decide_eq_false c1]
            simp only [if_true] at sl
            simp [-eqB_ll, -intT_str, rMth, tyM, startsS, lit_dash, sw, ofP, sl, lit_nil, e2, ln, c2', dg, en, lit_0, s48, lit_m0, e1, e0]
          | false =>
            rw [if_pos ⟨c1, c2, rfl, fun _ => c4, by simp⟩]
            rw [hbb] at sw sl lm xb mo
            have e1 : (sC l == sC [45, 48]) = false := by rw [eq_sC, lm]; rfl
            have e2 : (sC ds == sC []) = false := by rw [eq_sC, decide_eq_false c1]
            simp only [Bool.false_eq_true, if_false] at sl xb mo
            simp [-eqB_ll, -intT_str, rMth, tyM, startsS, lit_dash, sw, ofP, sl, lit_nil, e2, ln, c2', dg, en, lit_0, s48, lit_m0, e1, e0, it, xb, mo]
        · have e0 : (sC ds == sC [48]) = false := by rw [eq_sC, decide_eq_false c4]
          have e2 : (sC ds == sC []) = false := by rw [eq_sC, decide_eq_false c1]
          have e1 : (sC l == sC [45, 48]) = false := by rw [eq_sC, lm, decide_eq_false c4, Bool.and_false]
          by_cases c5 : ds.head? = some 48
          · have s48 : Txt.startswith (sC ds) (sC [48]) = true := by rw [sw0, decide_eq_true c5]
            rw [if_neg (fun z => c4 (z.2.2.2.1 c5))]
            simp [-eqB_ll, -intT_str, rMth, tyM, startsS, lit_dash, sw, ofP, sl, lit_nil, e2, ln, c2', dg, en, lit_0, s48, lit_m0, e1, e0]
          · have s48 : Txt.startswith (sC ds) (sC [48]) = false := by rw [sw0, decide_eq_false c5]
            rw [if_pos ⟨c1, c2, rfl, fun z => absurd z c5, by simp [c4]⟩]
            simp [-eqB_ll, -intT_str, rMth, tyM, startsS, lit_dash, sw, ofP, sl, lit_nil, e2, ln, c2', dg, en, lit_0, s48, lit_m0, e1, e0, it, xb, mo]
    · have c2' : 9 < (ds.length : Int) := by omega
      rw [if_neg (fun z => c2 z.2.1)]
      simp [rMth, tyM, startsS, lit_dash, sw, ofP, sl, lit_nil, eq_sC, c1, ln, c2']
end Lw
namespace Lw
open PySem PySem.Spec L2 Ev
theorem figs_two (l : List Nat) : figs 6 l = figs 9 l ∨ (figs 6 l = none ∧ ∃ n, figs 9 l = some n ∧ 1000000 ≤ n) := by
  cases e : figs 9 l with
  | none =>
    cases e6 : figs 6 l with
    | none => exact .inl rfl
    | some n => rw [figs_more e6 (by decide)] at e; cases e
  | some n =>
    by_cases c : n < 10 ^ 6
    · exact .inl (figs_less e c (by decide))
    · refine .inr ⟨?_, n, rfl, by omega⟩
      cases e6 : figs 6 l with
      | none => rfl
      | some m =>
        have := figs_more e6 (k := 9) (by decide)
        rw [e] at this
        cases this
        exact absurd (figs_lt e6) c
theorem figs_zero {m : Nat} {l : List Nat} {n : Nat} (hm : 1 ≤ m) (h : figs m l = some n) : n = 0 ↔ l = [48] := by
  rw [figs_eq] at h
  split at h
  · rename_i c
    cases h
    obtain ⟨c1, c2, c3, c4⟩ := c
    constructor
    · intro z
      match l, c1 with
      | x :: r, _ =>
        by_cases h48 : x = 48
        · exact c4 (by rw [h48]; rfl)
        · have hx : isDg x = true := (List.all_eq_true.mp c3) x List.mem_cons_self
          simp only [isDg, Bool.and_eq_true, decide_eq_true_eq] at hx
          have := dv_ge (c := x) (by omega) r
          have p : 0 < 10 ^ r.length := Nat.pow_pos (by decide)
          omega
    · rintro rfl; rfl
  · cases h
/-- the law's number is the program's, or beyond all that a row has -/
theorem num_two (l : List Nat) : lnumD l = numD l ∨ (numD l = .non ∧ ∃ i : Int, lnumD l = .int i ∧ (i < -999999 ∨ 999999 < i)) := by
  unfold lnumD numD
  by_cases h : l.head? = some 45
  · rw [if_pos h, if_pos h]
    rcases figs_two l.tail with e | ⟨e, n, e9, hn⟩
    · rw [e]
      cases e9 : figs 9 l.tail with
      | none => exact .inl rfl
      | some n =>
        have z := figs_zero (by decide) e9
        dsimp only
        by_cases c : n = 0
        · rw [if_pos c, if_pos (z.mp c)]; exact .inl rfl
        · rw [if_neg c, if_neg (fun q => c (z.mpr q))]
          exact .inl (by congr 1; omega)
    · rw [e, e9]
      dsimp only
      have z := figs_zero (by decide) e9
      rw [if_neg (fun q => by have := z.mpr q; omega)]
      exact .inr ⟨rfl, _, rfl, .inl (by omega)⟩
  · rw [if_neg h, if_neg h]
    rcases figs_two l with e | ⟨e, n, e9, hn⟩
    · rw [e]; exact .inl rfl
    · rw [e, e9]
      exact .inr ⟨rfl, _, rfl, .inr (by omega)⟩
def lthD (c : Nat) (l : List Nat) : Ev.D :=
  if c = 98 ∨ c = 110 ∨ c = 111 ∨ c = 116 then lnumD l
  else if c = 121 then .tup [.str (if l.head? = some 35 then Str.ofString "worth" else Str.ofString "box"), lnumD (if l.head? = some 35 then l.tail else l)]
  else if c = 114 ∧ (l = [] ∨ l = [45]) then (if l = [] then .non else .str (sC []))
  else .str (sC l)
theorem num_okN {lo hi : Int} (h1 : -999999 ≤ lo) (h2 : hi ≤ 999999) (l : List Nat) : okN lo hi (lnumD l) = okN lo hi (numD l) ∧ (okN lo hi (numD l) = true → lnumD l = numD l) := by
  rcases num_two l with e | ⟨e, i, e2, hi'⟩
  · rw [e]; exact ⟨rfl, fun _ => rfl⟩
  · rw [e, e2]
    refine ⟨?_, fun z => by simp [okN] at z⟩
    simp only [okN]
    rw [Bool.and_eq_false_iff, decide_eq_false_iff_not, decide_eq_false_iff_not]
    omega
theorem th_two {c : Nat} (hc : c ∈ SRT) (l : List Nat) : okP c (lthD c l) = okP c (thD c l) ∧ (okP c (thD c l) = true → lthD c l = thD c l) := by
  have ne : Str.ofString "worth" ≠ Str.ofString "box" := by decide +kernel
  simp only [SRT, List.mem_cons, List.not_mem_nil, or_false] at hc
  rcases hc with rfl | rfl | rfl | rfl | rfl | rfl | rfl | rfl | rfl
  · exact num_okN (lo := 0) (hi := 7) (by omega) (by omega) l
  · exact num_okN (lo := 0) (hi := 65535) (by omega) (by omega) l
  · exact num_okN (lo := -8) (hi := 15) (by omega) (by omega) l
  · exact num_okN (lo := 0) (hi := 4095) (by omega) (by omega) l
  · have e1 : lthD 121 l = .tup [.str (if l.head? = some 35 then Str.ofString "worth" else Str.ofString "box"), lnumD (if l.head? = some 35 then l.tail else l)] := rfl
    have e2 : thD 121 l = .tup [.str (if l.head? = some 35 then Str.ofString "worth" else Str.ofString "box"), numD (if l.head? = some 35 then l.tail else l)] := rfl
    rw [e1, e2]
    have o : ∀ d, okP 121 d = okBy d := fun d => rfl
    rw [o, o]
    by_cases h : l.head? = some 35
    · simp only [if_pos h, okBy, if_neg ne]
      obtain ⟨a, b⟩ := num_okN (lo := 0) (hi := 65535) (by omega) (by omega) l.tail
      refine ⟨by rw [a], fun z => ?_⟩
      rw [Bool.and_eq_true] at z
      rw [b z.2]
    · simp only [if_neg h, okBy, if_true]
      obtain ⟨a, b⟩ := num_okN (lo := 0) (hi := 7) (by omega) (by omega) l
      exact ⟨a, fun z => by rw [b z]⟩
  · have e1 : lthD 114 l = if (114 : Nat) = 114 ∧ (l = [] ∨ l = [45]) then (if l = [] then .non else .str (sC [])) else .str (sC l) := rfl
    have e2 : thD 114 l = if l = [] then .non else if l = [45] then .str (sC []) else .str (sC l) := rfl
    have : lthD 114 l = thD 114 l := by
      rw [e1, e2]
      by_cases a : l = []
      · simp [a]
      · by_cases b : l = [45]
        · simp [b]
        · simp [a, b]
    rw [this]; exact ⟨rfl, fun _ => rfl⟩
  · exact ⟨rfl, fun _ => rfl⟩
  · exact ⟨rfl, fun _ => rfl⟩
  · exact ⟨rfl, fun _ => rfl⟩
theorem law_part_in_eq {S : Store} {c : Nat} {l : List Nat} (hl : l.length ≤ 900000) : g_law_part_in [.str (sC [c]), .str (sC l)] S = .ok (lthD c l) S := by
  have n1 := law_number_eq (S := S) hl
  have n2 := law_number_eq (S := S) (l := l.tail) (by simp; omega)
  have st := sl_tail (S := S) (l := l) (by omega)
  have s0 := sl_zero (S := S) (l := l) (by omega)
  have sw := starts_one l 35
  have i1 : inD S (.str (sC [c])) (.str (Str.ofString "bnot")) = some (.bl (decide (c ∈ [98, 110, 111, 116]))) := by rw [lit_bnot, inD_one]
  have x0 : ixD S (.lst [.str (Str.ofString "box"), .str (Str.ofString "worth")]) (.int 0) = some (.str (Str.ofString "box")) := by simp [ixD, asL, atI, ixN]
  have x1 : ixD S (.lst [.str (Str.ofString "box"), .str (Str.ofString "worth")]) (.int 1) = some (.str (Str.ofString "worth")) := by simp [ixD, asL, atI, ixN]
  have i2 : inD S (.str (sC l)) (.tup [.str (Str.ofString ""), .str (Str.ofString "-")]) = some (.bl (decide (sC l ∈ [Str.ofString "", Str.ofString "-"]))) := (inD_strs (l := [Str.ofString "", Str.ofString "-"])).2
  have i3 : decide (sC l ∈ [Str.ofString "", Str.ofString "-"]) = decide (l = [] ∨ l = [45]) := by
    rw [Bool.eq_iff_iff, decide_eq_true_eq, decide_eq_true_eq, lit_nil, lit_dash]
    simp only [List.mem_cons, List.not_mem_nil, or_false, sC_inj]
  rw [i3] at i2
  obtain ⟨⟨l1, l2, l3, l4⟩, l5, l6, l7, l8, l9⟩ := lits9
  have dis : rDispF [(Str.ofString "", (rCon .non)), (Str.ofString "-", (rCon (.str (Str.ofString ""))))] [some (.str (sC [c])), some (.str (sC l))] S = .ok (.dct [.inr (Str.ofString ""), .inr (Str.ofString "-")] [.non, .str (Str.ofString "")]) S := by kernel_rfl
  have dx : ∀ (k : Str), dixD S (.dct [.inr (Str.ofString ""), .inr (Str.ofString "-")] [.non, .str (Str.ofString "")]) (.str k) = lkK [.inr (Str.ofString ""), .inr (Str.ofString "-")] [.non, .str (Str.ofString "")] (.inr k) := fun k => rfl
  unfold g_law_part_in runDef m_law_part_in lthD
  by_cases c1 : c = 98 ∨ c = 110 ∨ c = 111 ∨ c = 116
  · have : decide (c ∈ [98, 110, 111, 116]) = true := by rw [decide_eq_true_eq]; simpa using c1
    rw [this] at i1
    rw [if_pos c1]
    simp [i1, n1]
  · have : decide (c ∈ [98, 110, 111, 116]) = false := by rw [decide_eq_false_iff_not]; simpa using c1
    rw [this] at i1
    rw [if_neg c1]
    by_cases c2 : c = 121
    · subst c2
      by_cases h : l.head? = some 35
      · simp [i1, l5, eq_sC, rMth, tyM, startsS, lit_hash, sw, ofP, h, st, n2, x1]
      · simp [i1, l5, eq_sC, rMth, tyM, startsS, lit_hash, sw, ofP, h, s0, n1, x0]
    · rw [if_neg c2]
      by_cases c3 : c = 114
      · subst c3
        by_cases a : l = []
        · subst a
          have e := dx (sC [])
          rw [show lkK [.inr (Str.ofString ""), .inr (Str.ofString "-")] [Ev.D.non, .str (Str.ofString "")] (.inr (sC [])) = some .non from rfl] at e
          simp only [lit_nil, lit_dash] at i2 dis e
          simp [-rDispF_eq, i1, l5, l6, eq_sC, i2, dis, e, lit_nil, lit_dash]
        · by_cases b : l = [45]
          · subst b
            have e := dx (sC [45])
            rw [show lkK [.inr (Str.ofString ""), .inr (Str.ofString "-")] [Ev.D.non, .str (Str.ofString "")] (.inr (sC [45])) = some (.str (Str.ofString "")) from rfl] at e
            simp only [lit_nil, lit_dash] at i2 dis e
            simp [-rDispF_eq, i1, l5, l6, eq_sC, i2, dis, e, lit_nil, lit_dash]
          · have : decide (l = [] ∨ l = [45]) = false := by simp [a, b]
            rw [this] at i2
            simp [i1, l5, l6, eq_sC, i2, a, b]
      · simp [i1, l5, l6, eq_sC, c2, c3]
theorem lnumD_nice (l : List Nat) (n : Nat) : nice n (lnumD l) = true := by
  unfold lnumD figD
  split
  · split
    · split <;> cases n <;> rfl
    · cases n <;> rfl
  · split <;> cases n <;> rfl
theorem lthD_cases (c : Nat) (l : List Nat) : (∃ i, lthD c l = .int i) ∨ lthD c l = .non ∨ (∃ w, lthD c l = .tup [.str w, lnumD (if l.head? = some 35 then l.tail else l)]) ∨ lthD c l = .str (sC l) ∨ lthD c l = .str (sC []) := by
  unfold lthD
  split
  · unfold lnumD figD
    split
    · split
      · split
        · exact .inr (.inl rfl)
        · exact .inl ⟨_, rfl⟩
      · exact .inr (.inl rfl)
    · split
      · exact .inl ⟨_, rfl⟩
      · exact .inr (.inl rfl)
  · split
    · exact .inr (.inr (.inl ⟨_, rfl⟩))
    · split
      · split
        · exact .inr (.inl rfl)
        · exact .inr (.inr (.inr (.inr rfl)))
      · exact .inr (.inr (.inr (.inl rfl)))
theorem lthD_look (c : Nat) (l : List Nat) (hl : l.length ≤ 900000) : nice 7 (lthD c l) = true ∧ (∀ ys, lthD c l = .tup ys → ∀ y ∈ ys, nice 6 y = true) ∧ ∀ w, lthD c l = .str w → w.length ≤ 1000000 := by
  rcases lthD_cases c l with ⟨i, e⟩ | e | ⟨w, e⟩ | e | e <;> rw [e]
  · exact ⟨rfl, fun ys z => (by cases z), fun w z => (by cases z)⟩
  · exact ⟨rfl, fun ys z => (by cases z), fun w z => (by cases z)⟩
  · refine ⟨by simp [nice, lnumD_nice], fun ys z y hy => ?_, fun w z => by cases z⟩
    cases z
    simp only [List.mem_cons, List.not_mem_nil, or_false] at hy
    rcases hy with rfl | rfl
    · rfl
    · exact lnumD_nice _ _
  · exact ⟨rfl, fun ys z => (by cases z), fun w z => (by cases z; rw [len_sC]; omega)⟩
  · exact ⟨rfl, fun ys z => (by cases z), fun w z => (by cases z; rw [len_sC]; simp)⟩
/-- the same rows -/
theorem row_two {w : Str} {s : List Nat} (hs : ∀ c ∈ s, c ∈ SRT) (ps : List (List Nat)) (hf : frm w = some s) (hl : ps.length = s.length) :
    okRow (.tup (.str w :: (s.zip ps).map fun p => lthD p.1 p.2)) = okRow (.tup (.str w :: (s.zip ps).map fun p => thD p.1 p.2)) ∧ (okRow (.tup (.str w :: (s.zip ps).map fun p => thD p.1 p.2)) = true → (s.zip ps).map (fun p => lthD p.1 p.2) = (s.zip ps).map fun p => thD p.1 p.2) := by
  simp only [okRow, hf]
  have gen : ∀ (s : List Nat) (ps : List (List Nat)), (∀ c ∈ s, c ∈ SRT) → okPs s ((s.zip ps).map fun p => lthD p.1 p.2) = okPs s ((s.zip ps).map fun p => thD p.1 p.2) ∧ (okPs s ((s.zip ps).map fun p => thD p.1 p.2) = true → (s.zip ps).map (fun p => lthD p.1 p.2) = (s.zip ps).map fun p => thD p.1 p.2) := by
    intro s
    induction s with
    | nil => intro ps _; simp
    | cons c s ih =>
      intro ps h
      cases ps with
      | nil => simp
      | cons p ps =>
        obtain ⟨a, b⟩ := ih ps fun x hx => h x (List.mem_cons_of_mem _ hx)
        obtain ⟨a2, b2⟩ := th_two (h c List.mem_cons_self) p
        simp only [List.zip_cons_cons, List.map_cons, okPs, a, a2]
        refine ⟨trivial, fun z => ?_⟩
        rw [Bool.and_eq_true] at z
        rw [b z.2, b2 z.1]
  exact gen s ps hs
def rowTailL : RS := (sSeq (sSet 2 (rMth "dict" getDM (rCall g_law_forms rNil) (rCons (rBin ixD (rVar 1) (rCon (.int 0))) (rCons (rCon .non) rNil))))
    (sSeq (sIf (rOrT (rTest (rBin isN (rVar 2) (rCon .non))) (rTest (rBin neD (rCal lenD (rCons (rVar 1) rNil)) (rBin addD (rCal lenD (rCons (rVar 2) rNil)) (rCon (.int 1))))))
    (sRet (rCon .non))
    sNil)
    (sSeq (sSet 3 (rBin addD (rTup (rCons (rBin ixD (rVar 1) (rCon (.int 0))) rNil)) (rCal tupleT (rCons (rLc frzL (rRan zipD (rCons (rVar 2) (rCons (rSl (rVar 1) (rPart (rCon (.int 1))) rNoP) rNil))) (.tp [4, 5]) [4, 5] rYes (rCall g_law_part_in (rCons (rVar 4) (rCons (rVar 5) rNil)))) rNil))))
    (sRet (rIf (rTruth (rCall g_law_is_row (rCons (rVar 3) rNil))) (rVar 3) (rCon .non))))))
theorem row_tailL {S : Store} {t : Ev.D} {w : List Nat} {ps : List (List Nat)} (hS : ∀ m, lowS m S = true) (hp : ∀ p ∈ ps, p.length ≤ 900000) (hn : ps.length ≤ 900000) :
    (rowTailL [some t, some (.lst (wD (w :: ps))), none, none, none, none] S).res = .ok (rowW w ps) S := by
  have fo := forms_eq (S := S) (hS _)
  have i0 : ixD S (.lst (wD (w :: ps))) (.int 0) = some (.str (sC w)) := by simp [ixD, asL, wD, atI, ixN]
  have kg : getDM S formsD [.str (sC w), .non] = some (((frm (sC w)).map fun s => Ev.D.str (sC s)).getD .non, S) := by
    show some ((lkK (FK FRM) (FX FRM) (.inr (sC w))).getD .non, S) = _
    rw [lkK_FK]; rfl
  have ty : tyM S formsD = some "dict" := rfl
  have l2 : lenD S [.lst (wD (w :: ps))] = some (.int ((ps.length : Int) + 1)) := by simp [lenD, asL, wD]
  have sl : slD S (.lst (wD (w :: ps))) (some 1) none = some (.lst (wD ps)) := by
    simp [slD, asL, wD, cutD, HT.sIx]
    exact List.take_of_length_le (by simp)
  have lw : (wD (w :: ps)).length = ps.length + 1 := by simp [wD]
  unfold rowTailL rowW
  cases hf : frm (sC w) with
  | none =>
    rw [hf] at kg
    simp only [Option.map_none, Option.getD_none] at kg
    have nn : isN S .non .non = some (.bl true) := rfl
    simp [rMth, fo, ty, ofP, i0, kg, nn]
  | some s =>
    dsimp only
    rw [hf] at kg
    simp only [Option.map_some, Option.getD_some] at kg
    obtain ⟨hs4, hsr⟩ := frm_srt hf
    have l1 : lenD S [.str (sC s)] = some (.int s.length) := lenD_sC (by omega)
    have nn : isN S (.str (sC s)) .non = some (.bl false) := rfl
    by_cases hl : ps.length = s.length
    · have lc := rLc_map (it := rRan zipD (rCons (rVar 2) (rCons (rSl (rVar 1) (rPart (rCon (.int 1))) rNoP) rNil))) (t := .tp [4, 5]) (vs := [4, 5]) (c := rYes) (elt := rCall g_law_part_in (rCons (rVar 4) (rCons (rVar 5) rNil)))
        (e := [some t, some (.lst (wD (w :: ps))), some (.str (sC s)), none, none, none]) (S := S) (h := fun p : Nat × List Nat => Ev.D.tup [.str (sC [p.1]), .str (sC p.2)]) (xs := s.zip ps)
        (fun p => [some t, some (.lst (wD (w :: ps))), some (.str (sC s)), none, some (.str (sC [p.1])), some (.str (sC p.2))]) (fun _ => true) (fun p => lthD p.1 p.2)
        (by simp [zipD, itemsD, sl, zip_wD]) (by simp only [List.length_zip]; exact len_line (by omega))
        (fun p hpm => by
          have m := List.of_mem_zip hpm
          have is := law_part_in_eq (S := S) (c := p.1) (hp _ m.2)
          exact ⟨by simp [wipeE, bindT, parts, setAll], rfl, fun _ => by simp [is]⟩)
      have lz : ((s.zip ps).map fun p => lthD p.1 p.2).length ≤ 4 := by simp only [List.length_map, List.length_zip]; omega
      have hw : (sC w).length ≤ 1000000 := by
        obtain ⟨_, _, _, k4⟩ := keys_ok _ (frm_mem hf)
        dsimp only at k4
        rw [len_sC]
        have e : (sC w).cps.toList = w := by simp [sC]
        rw [e] at k4
        omega
      have ir := law_is_row_eq (S := S) (d := .tup (.str (sC w) :: (s.zip ps).map fun p => lthD p.1 p.2)) hS rfl (fun xs e x hx => by
        cases e
        rcases List.mem_cons.mp hx with rfl | hx
        · exact ⟨rfl, fun ys z => (by cases z), fun v z => (by cases z; exact hw)⟩
        · obtain ⟨p, hpm, rfl⟩ := List.mem_map.mp hx
          exact lthD_look _ _ (hp _ (List.of_mem_zip hpm).2)) (fun xs e => by cases e; simp only [List.length_cons]; omega)
      have tt : ∀ xs : List Ev.D, tupleT S [.lst xs] = some (.tup xs) := fun xs => rfl
      have ad : ∀ xs : List Ev.D, xs.length ≤ 4 → addD S (.tup [.str (sC w)]) (.tup xs) = some (.tup (.str (sC w) :: xs)) := fun xs hx => by
        show (if [Ev.D.str (sC w)].length + xs.length ≤ sizeLine then _ else _) = _
        rw [if_pos (by rw [sizeLine_eq]; simp; omega)]; rfl
      have ad' := ad _ lz
      have hl' : (ps.length : Int) = (s.length : Int) := by omega
      rw [show (s.zip ps).filter (fun _ => true) = s.zip ps from List.filter_eq_self.mpr fun _ _ => rfl] at lc
      obtain ⟨r1, r2⟩ := row_two hsr ps hf hl
      rw [r1] at ir
      cases hr : okRow (.tup (.str (sC w) :: (s.zip ps).map fun p => thD p.1 p.2)) with
      | true =>
        rw [hr] at ir
        rw [r2 hr] at lc ad' ir
        simp [rMth, fo, ty, ofP, i0, kg, nn, l1, lw, hl', lc, tt, ad', ir, hl]
      | false =>
        rw [hr] at ir
        simp [rMth, fo, ty, ofP, i0, kg, nn, l1, lw, hl', lc, tt, ad', ir, hl]
    · have hl' : ¬ ((ps.length : Int) = (s.length : Int)) := fun z => hl (by omega)
      simp [rMth, fo, ty, ofP, i0, kg, nn, l1, lw, hl', hl]
theorem law_row_in_eq {S : Store} {l : List Nat} (hS : ∀ m, lowS m S = true) (hl : l.length ≤ 700000) : g_law_row_in [.str (sC l)] S = .ok (rowIn l) S := by
  obtain ⟨q1, q2⟩ := spl_size 32 l []
  have hw : ∀ w ∈ splL 32 l, w.length ≤ 800000 := fun w hw => by have := q2 w hw; simp only [List.length_nil] at this; omega
  have hn : (splL 32 l).length ≤ 800000 := by unfold splL; omega
  have sp := split_eq (S := S) (c := 32) (l := l) (by decide) (by omega)
  obtain ⟨⟨l1, l2, l3, l4⟩, l5, l6, l7, l8, l9⟩ := lits9
  have ls := lists_eq (S := S) (c := 100) (.inl rfl)
  rw [if_pos rfl] at ls
  have mr : m_law_row_in = sSeq (sSet 1 (rMth "str" splitS (rVar 0) (rCons (rCon (.str " ")) rNil)))
    (sSeq (sIf (rTest (rBin inD (rBin ixD (rVar 1) (rCon (.int 0))) (rCall g_law_lists (rCons (rCon (.str "d")) rNil))))
    (sSet 1 (rBin addD (rLst (rCons (rCon (.str "do")) rNil)) (rVar 1)))
    (sIf (rTest (rBin eqD (rBin ixD (rVar 1) (rCon (.int 0))) (rCon (.str "do"))))
    (sRet (rCon .non))
    sNil)) rowTailL) := rfl
  unfold rowIn g_law_row_in runDef
  rw [mr]
  cases e : splL 32 l with
  | nil => exact absurd e (spl_ne 32 l [])
  | cons w ps =>
    rw [e] at sp hw hn
    simp only [List.length_cons] at hn
    have i0 : ixD S (.lst (wD (w :: ps))) (.int 0) = some (.str (sC w)) := by simp [ixD, asL, wD, atI, ixN]
    have t1 := row_tailL (S := S) (t := .str (sC l)) (w := w) (ps := ps) hS (fun p hp => by have := hw p (List.mem_cons_of_mem _ hp); omega) (by omega)
    have t2 := row_tailL (S := S) (t := .str (sC l)) (w := [100, 111]) (ps := w :: ps) hS (fun p hp => by have := hw p hp; omega) (by simp only [List.length_cons]; omega)
    have dI : inD S (.str (sC w)) (.lst (DEE.map Ev.D.str)) = some (.bl (decide (sC w ∈ DEE))) := (inD_strs (l := DEE)).1
    have ad : addD S (.lst [.str (sC [100, 111])]) (.lst (wD (w :: ps))) = some (.lst (wD ([100, 111] :: w :: ps))) := by
      show (if [Ev.D.str (sC [100, 111])].length + (wD (w :: ps)).length ≤ sizeLine then some (Ev.D.lst ([Ev.D.str (sC [100, 111])] ++ wD (w :: ps))) else none) = _
      rw [if_pos (by rw [sizeLine_eq]; simp [wD]; omega)]; rfl
    dsimp only
    by_cases c1 : sC w ∈ DEE
    · simp [lit_sp, rMth, tyM, sp, ofP, i0, l7, ls, dI, c1, lit_do, ad, t2]
    · by_cases c2 : w = [100, 111]
      · subst c2
        simp [lit_sp, rMth, tyM, sp, ofP, i0, l7, ls, dI, c1, lit_do, eq_sC]
      · have c2' : ¬ (sC w = sC [100, 111]) := fun z => c2 (sC_inj.mp z)
        simp [lit_sp, rMth, tyM, sp, ofP, i0, l7, ls, dI, c1, lit_do, eq_sC, c2, c2', t1]
end Lw
namespace Lw
open PySem PySem.Spec L2 Ev
/-! ### what is told and what is due of a text -/
def noneD (d : Ev.D) : Ev.D := .lst [.str (Str.ofString "none"), d]
def telT (l : List Nat) : Ev.D := if (splL 10 l).all (fun l => !isNo (rowIn l)) = true then (if (splL 10 l).length ≤ 64 then .lst ((splL 10 l).map rowIn) else noneD .non) else noneD (.int (((splL 10 l).findIdx (fun l => isNo (rowIn l)) : Nat) : Int))
theorem told_text {S : Store} {l : List Nat} (hS : ∀ m, lowS m S = true) (hl : l.length ≤ 600000) : g_law_told [.str (sC l)] S = .ok (telT l) S := by
  have r := read_rows_eq (S := S) (l := l) (hS _) hl
  unfold rdRows at r
  unfold g_law_told runDef m_law_told telT noneD
  by_cases c1 : (splL 10 l).all (fun l => !isNo (rowIn l)) = true
  · rw [if_pos c1] at r
    rw [if_pos c1]
    by_cases c2 : (splL 10 l).length ≤ 64
    · rw [if_pos c2] at r
      rw [if_pos c2]
      simp [r]
    · rw [if_neg c2] at r
      rw [if_neg c2]
      simp [r, catchAs, sub_ReachError, Fl.clr, isiQ, tkD, kq_NoRows, kq_NoText, fk_number]
  · rw [if_neg c1] at r
    rw [if_neg c1]
    simp [r, catchAs, sub_ReachError, Fl.clr, isiQ, tkD, kq_NoRows, kq_NoText, fk_number]
theorem read_no {S : Store} {d : Ev.D} (hS : ∀ m, lowS m S = true) (h : plainK d = true) (h2 : isStr d = none) : g_read_rows [d] S = .err ⟨cl_NoText, [Str.ofString "number"], [.non]⟩ S := by
  have g : gf_read_rows [d] S = .err ⟨cl_NoText, [Str.ofString "number"], [.non]⟩ S := by
    unfold gf_read_rows runDef m_read_rows
    cases d with
    | loc n => simp [plainK] at h
    | exn c ns xs => simp [plainK] at h
    | str x => simp [isStr] at h2
    | _ => simp
  show frz S.length (gf_read_rows [d] S) = _
  rw [g]
  have := frz_err (S := S) (T := []) (x := ⟨cl_NoText, [Str.ofString "number"], [.non]⟩) rfl (hS _)
  simpa using this
theorem told_no {S : Store} {d : Ev.D} (hS : ∀ m, lowS m S = true) (h : plainK d = true) (h2 : isStr d = none) : g_law_told [d] S = .ok (noneD .non) S := by
  have r := read_no hS h h2
  unfold g_law_told runDef m_law_told noneD
  simp [r, catchAs, sub_ReachError, Fl.clr, isiQ, tkD, kq_NoRows, kq_NoText, fk_number]
theorem due_no {S : Store} {d : Ev.D} (hS : ∀ m, lowS m S = true) (h : plainK d = true) (h2 : isStr d = none) : g_law_due [d] S = .ok (noneD .non) S := by
  have g : gf_law_due [d] S = .ok (noneD .non) S := by
    unfold gf_law_due runDef m_law_due noneD
    cases d with
    | loc n => simp [plainK] at h
    | exn c ns xs => simp [plainK] at h
    | str x => simp [isStr] at h2
    | _ => simp
  show frz S.length (gf_law_due [d] S) = _
  rw [g]
  exact frz_own rfl (hS _) (fun m e => by cases e)
theorem due_loop {S : Store} {t : Ev.D} (hS : ∀ m, lowS m S = true) : ∀ (ls : List (List Nat)) (k : Nat) (acc : List Ev.D) (x2 x3 x4 : Option Ev.D), (∀ l ∈ ls, l.length ≤ 700000) → acc.length + ls.length ≤ 700000 → (∀ m, lows m acc = true) →
    (ls.all (fun l => !isNo (rowIn l)) = true → ∃ y2 y3 y4, forL (.tp [2, 3]) lb1_law_due ((wD ls).mapIdx fun i d => Ev.D.tup [.int ((k + i : Nat) : Int), d]) [some t, some (.loc S.length), x2, x3, x4] (S ++ [.lst acc]) = .nx [some t, some (.loc S.length), y2, y3, y4] (S ++ [.lst (acc ++ ls.map rowIn)])) ∧
    (ls.all (fun l => !isNo (rowIn l)) = false → ∃ zs, forL (.tp [2, 3]) lb1_law_due ((wD ls).mapIdx fun i d => Ev.D.tup [.int ((k + i : Nat) : Int), d]) [some t, some (.loc S.length), x2, x3, x4] (S ++ [.lst acc]) = .rt (noneD (.int ((k + ls.findIdx (fun l => isNo (rowIn l)) : Nat) : Int))) (S ++ [.lst zs]))
  | [], k, acc, x2, x3, x4, _, _, _ => ⟨fun _ => ⟨x2, x3, x4, by simp [wD, forL]⟩, fun h => by simp at h⟩
  | l :: ls, k, acc, x2, x3, x4, hl, hn, ha => by
    have lo : ∀ m, lowS m (S ++ [.lst acc]) = true := fun m => lowS_app (hS m) (by show (lows m acc && true) = true; rw [ha]; rfl)
    have ri := law_row_in_eq (S := S ++ [.lst acc]) lo (hl l List.mem_cons_self)
    have mi : ((wD (l :: ls)).mapIdx fun i d => Ev.D.tup [.int ((k + i : Nat) : Int), d]) = Ev.D.tup [.int (k : Nat), .str (sC l)] :: (wD ls).mapIdx fun i d => Ev.D.tup [.int ((k + 1 + i : Nat) : Int), d] := by
      show ((Ev.D.str (sC l) :: wD ls).mapIdx _) = _
      rw [List.mapIdx_cons]
      congr 1
      apply List.mapIdx_eq_mapIdx_iff.mpr
      intro i hi
      rw [show k + (i + 1) = k + 1 + i by omega]
    simp only [List.length_cons] at hn
    have ha' : ∀ m, lows m (acc ++ [rowIn l]) = true := fun m => low_nice.lows_all fun x hx => by
      rcases List.mem_append.mp hx with q | q
      · have := ha m
        clear ri mi hn lo hl
        induction acc with
        | nil => simp at q
        | cons a acc ih =>
          have z : (D.low m a && lows m acc) = true := this
          rw [Bool.and_eq_true] at z
          rcases List.mem_cons.mp q with rfl | q
          · exact z.1
          · exact ih (fun m' => by have w : (D.low m' a && lows m' acc) = true := ha m'; rw [Bool.and_eq_true] at w; exact w.2) (List.mem_append_left _ q) q z.2
      · simp at q; rw [q]; exact rowIn_low m l
    obtain ⟨a1, a2⟩ := due_loop (S := S) (t := t) hS ls (k + 1) (acc ++ [rowIn l]) (some (.int (k : Nat))) (some (.str (sC l))) (some (rowIn l)) (fun x hx => hl x (List.mem_cons_of_mem _ hx)) (by simp; omega) ha'
    rw [mi]
    have bt : bindT (S ++ [.lst acc]) (.tup [.int (k : Nat), .str (sC l)]) [some t, some (.loc S.length), x2, x3, x4] (.tp [2, 3]) = some [some t, some (.loc S.length), some (.int (k : Nat)), some (.str (sC l)), x4] := by simp [bindT, parts, setAll]
    have hz : acc.length < sizeLine := by rw [sizeLine_eq]; omega
    cases hr : isNo (rowIn l) with
    | false =>
      have nn := isN_row (S := S ++ [.lst acc]) l
      rw [hr] at nn
      have st : lb1_law_due [some t, some (.loc S.length), some (.int (k : Nat)), some (.str (sC l)), x4] (S ++ [.lst acc]) = .nx [some t, some (.loc S.length), some (.int (k : Nat)), some (.str (sC l)), some (rowIn l)] (S ++ [.lst (acc ++ [rowIn l])]) := by
        unfold lb1_law_due
        simp [ri, nn, rMth, tyM, appendL, hz, ofP]
      refine ⟨fun h => ?_, fun h => ?_⟩
      · obtain ⟨y2, y3, y4, e⟩ := a1 (by simpa [hr] using h)
        refine ⟨y2, y3, y4, ?_⟩
        simp only [forL, bt, st, then_nx]
        rw [e]
        simp
      · obtain ⟨zs, q⟩ := a2 (by simpa [hr] using h)
        refine ⟨zs, ?_⟩
        simp only [forL, bt, st, then_nx]
        rw [q]
        congr 3
        rw [List.findIdx_cons, hr]
        simp only [cond_false]
        congr 1
        omega
    | true =>
      have nn := isN_row (S := S ++ [.lst acc]) l
      rw [hr] at nn
      refine ⟨fun h => by simp [hr] at h, fun h => ⟨acc, ?_⟩⟩
      have st : lb1_law_due [some t, some (.loc S.length), some (.int (k : Nat)), some (.str (sC l)), x4] (S ++ [.lst acc]) = .rt (noneD (.int (k : Nat))) (S ++ [.lst acc]) := by
        unfold lb1_law_due noneD
        simp [ri, nn]
      simp [forL, bt, st, List.findIdx_cons, hr]
theorem due_text {S : Store} {l : List Nat} (hS : ∀ m, lowS m S = true) (hl : l.length ≤ 600000) : g_law_due [.str (sC l)] S = .ok (telT l) S := by
  obtain ⟨h1, h2⟩ := spl_size 10 l []
  have sp := split_eq (S := S ++ [.lst []]) (c := 10) (l := l) (by decide) (by omega)
  obtain ⟨a1, a2⟩ := due_loop (S := S) (t := .str (sC l)) hS (splL 10 l) 0 [] none none none (fun w hw => by have := h2 w hw; simp only [List.length_nil] at this; omega) (by simp only [List.length_nil]; unfold splL; omega) (fun _ => rfl)
  simp only [Nat.zero_add, List.nil_append] at a1 a2
  show frz S.length (gf_law_due [.str (sC l)] S) = _
  unfold gf_law_due runDef m_law_due telT
  cases hr : (splL 10 l).all (fun l => !isNo (rowIn l)) with
  | true =>
    obtain ⟨y2, y3, y4, e⟩ := a1 hr
    have ln : lenD (S ++ [.lst ((splL 10 l).map rowIn)]) [.loc S.length] = some (.int (splL 10 l).length) := by simp [lenD, asL]
    by_cases c : (splL 10 l).length ≤ 64
    · have c' : ¬ (64 < ((splL 10 l).length : Int)) := by omega
      have := frz_lst (S := S) (T := []) (rows_low S.length (splL 10 l)) (hS _)
      simp [lit_nl, rMth, tyM, sp, ofP, enumD, e, ln, c', c, this]
    · have c' : 64 < ((splL 10 l).length : Int) := by omega
      have := frz_any (S := S) (S' := S) (T := [.lst ((splL 10 l).map rowIn)]) (d := noneD .non) rfl rfl (hS _) (fun m e => by cases e)
      unfold noneD at this ⊢
      simp [lit_nl, rMth, tyM, sp, ofP, enumD, e, ln, c', c, this]
  | false =>
    obtain ⟨zs, q⟩ := a2 hr
    have := frz_any (S := S) (S' := S) (T := [.lst zs]) (d := noneD (.int (((splL 10 l).findIdx (fun l => isNo (rowIn l)) : Nat) : Int))) rfl rfl (hS _) (fun m e => by cases e)
    simp [lit_nl, rMth, tyM, sp, ofP, enumD, q, this]
theorem noneD_repr {d : Ev.D} (h : okD 2 d = true) : ∃ x, ∀ S : Store, reprD S [noneD d] = some (.str x) := okD_repr (by
  unfold noneD
  simp only [okD, List.length_cons, List.length_nil, List.all_cons, List.all_nil, Bool.and_true, Bool.and_eq_true]
  have s : decide ((Str.ofString "none").length ≤ 100) = true ∧ ((Str.ofString "none").cps.toList.all fun c => decide (c < 1114112)) = true := by decide +kernel
  exact ⟨rfl, s, h⟩)
theorem telT_repr {l : List Nat} (hl : l.length ≤ 600000) : ∃ x, ∀ S : Store, reprD S [telT l] = some (.str x) := by
  obtain ⟨h1, h2⟩ := spl_size 10 l []
  unfold telT
  split
  · rename_i c
    split
    · rename_i c2
      have ok : ∀ r ∈ (splL 10 l).map rowIn, okRow r = true := fun r hr => by
        obtain ⟨w, hw, rfl⟩ := List.mem_map.mp hr
        have := (List.all_eq_true.mp c) w hw
        rcases rowIn_cases w with e | ⟨xs, e, q, _⟩
        · rw [e] at this; simp [isNo] at this
        · rw [e]; exact q
      exact ⟨_, fun S => repr_rows (S := S) ok (by rw [List.length_map]; omega)⟩
    · exact noneD_repr rfl
  · refine noneD_repr ?_
    have := List.findIdx_le_length (xs := splL 10 l) (p := fun l => isNo (rowIn l))
    have : (splL 10 l).length ≤ l.length + 1 := h1
    simp only [okD, Bool.and_eq_true, decide_eq_true_eq]
    omega
end Lw
namespace Lw
open PySem PySem.Spec L2 Ev
theorem spl_sum (c : Nat) : ∀ (l acc : List Nat), lensum (TL.spl [c] 0 acc l) ≤ acc.length + l.length + 1
  | [], acc => by rw [TL.spl_nil]; simp [lensum]
  | x :: l, acc => by
    cases h : TL.pre [c] (x :: l) with
    | true =>
      rw [TL.spl_hit h]
      have := spl_sum c l []
      simp only [lensum, List.map_cons, List.sum_cons, List.length_cons, List.length_nil] at this ⊢
      have e : (l.drop ([c].length - 1)) = l := by simp
      simp only [List.length_cons, List.length_nil, Nat.zero_add, Nat.sub_self, List.drop_zero] at this ⊢
      omega
    | false =>
      rw [TL.spl_miss h]
      have := spl_sum c l (acc ++ [x])
      simp only [List.length_append, List.length_cons, List.length_nil] at this ⊢
      omega
theorem lensum_app (a b : List (List Nat)) : lensum (a ++ b) = lensum a + lensum b := by simp [lensum, List.map_append, List.sum_append]
theorem lensum_take (a : List (List Nat)) (k : Nat) : lensum (a.take k) ≤ lensum a := by
  conv => rhs; rw [← List.take_append_drop k a, lensum_app]
  omega
theorem lensum_drop (a : List (List Nat)) (k : Nat) : lensum (a.drop k) ≤ lensum a := by
  conv => rhs; rw [← List.take_append_drop k a, lensum_app]
  omega
theorem lensum_mem {a : List (List Nat)} {w : List Nat} (h : w ∈ a) : w.length + 1 ≤ lensum a := by
  induction a with
  | nil => simp at h
  | cons x a ih =>
    have e : lensum (x :: a) = x.length + 1 + lensum a := rfl
    rcases List.mem_cons.mp h with rfl | h
    · omega
    · have := ih h; omega
theorem lensum_len (a : List (List Nat)) : a.length ≤ lensum a := by
  induction a with
  | nil => simp
  | cons x a ih =>
    have e : lensum (x :: a) = x.length + 1 + lensum a := rfl
    simp only [List.length_cons]; omega
theorem cutS_sC (l : List Nat) (lo hi : Option Int) : ∃ l', cutS (sC l) lo hi = sC l' ∧ l'.length ≤ l.length := by
  refine ⟨(cutS (sC l) lo hi).cps.toList, (sC_eta _).symm, ?_⟩
  unfold cutS
  simp [sC]
  omega
theorem ix_w {S : Store} {ws : List (List Nat)} {r : Int} (h : 0 ≤ r) (h2 : r < ws.length) : ∃ w, w ∈ ws ∧ ∀ S : Store, ixD S (.lst (wD ws)) (.int r) = some (.str (sC w)) := by
  obtain ⟨d, hd, hm⟩ := atI_mem (xs := wD ws) h (by simp [wD]; exact h2)
  obtain ⟨w, hw, rfl⟩ := List.mem_map.mp hm
  exact ⟨w, hw, fun S => by simp [ixD, asL, hd]⟩
theorem sl_w_take {S : Store} {ws : List (List Nat)} {r : Int} (h : 0 ≤ r) : slD S (.lst (wD ws)) none (some r) = some (.lst (wD (ws.take r.toNat))) := by
  rw [sl_take h]; simp [wD, List.map_take]
theorem sl_w_drop {S : Store} {ws : List (List Nat)} {r : Int} (h : 0 ≤ r) : slD S (.lst (wD ws)) (some r) none = some (.lst (wD (ws.drop r.toNat))) := by
  rw [sl_drop h]; simp [wD, List.map_drop]
theorem add_w {S : Store} {a b : List (List Nat)} (h : a.length + b.length ≤ 1000000) : addD S (.lst (wD a)) (.lst (wD b)) = some (.lst (wD (a ++ b))) := by
  rw [add_lst (by simp [wD]; omega)]; simp [wD]
def ODDW : List (List Nat) := [[], [48], [56], [35, 53], [35, 54, 53, 53, 51, 54], [45, 49], [45, 57], [49, 54], [48, 48], [45, 48], [43, 49], [35, 45, 49], [114, 119], [119, 114], [45], [112, 108, 117, 115], [100, 111]]
def ODDV : List (List Nat) := [[115, 97, 109, 101], [109, 97, 114, 107], [52, 48, 57, 54], [120, 49], [35], [49, 46, 48], [115, 101, 116], [98, 97, 99, 107], [104, 101, 114, 101], [48, 48, 48, 48, 48, 49], [98, 97, 99, 107, 32, 98, 97, 99, 107]]
theorem oddw : ([Str.ofString "", Str.ofString "0", Str.ofString "8", Str.ofString "#5", Str.ofString "#65536", Str.ofString "-1", Str.ofString "-9", Str.ofString "16", Str.ofString "00", Str.ofString "-0", Str.ofString "+1", Str.ofString "#-1", Str.ofString "rw", Str.ofString "wr", Str.ofString "-", Str.ofString "plus", Str.ofString "do"].map Ev.D.str) = wD ODDW := by
  have : [Str.ofString "", Str.ofString "0", Str.ofString "8", Str.ofString "#5", Str.ofString "#65536", Str.ofString "-1", Str.ofString "-9", Str.ofString "16", Str.ofString "00", Str.ofString "-0", Str.ofString "+1", Str.ofString "#-1", Str.ofString "rw", Str.ofString "wr", Str.ofString "-", Str.ofString "plus", Str.ofString "do"] = ODDW.map sC := by decide +kernel
  rw [this, wD, List.map_map]; rfl
theorem oddv : ([Str.ofString "same", Str.ofString "mark", Str.ofString "4096", Str.ofString "x1", Str.ofString "#", Str.ofString "1.0", Str.ofString "set", Str.ofString "back", Str.ofString "here", Str.ofString "000001", Str.ofString "back back"].map Ev.D.str) = wD ODDV := by
  have : [Str.ofString "same", Str.ofString "mark", Str.ofString "4096", Str.ofString "x1", Str.ofString "#", Str.ofString "1.0", Str.ofString "set", Str.ofString "back", Str.ofString "here", Str.ofString "000001", Str.ofString "back back"] = ODDV.map sC := by decide +kernel
  rw [this, wD, List.map_map]; rfl
theorem odd_n : (ODDW ++ ODDV).length = 28 := by decide
theorem odd_small : ∀ w ∈ ODDW ++ ODDV, w.length ≤ 9 := by decide
theorem signs7 : [Str.ofString " ", Str.ofString "\n", Str.ofString "0", Str.ofString "a", Str.ofString "#", Str.ofString "-", Str.ofString "+"].map Ev.D.str = wD [[32], [10], [48], [97], [35], [45], [43]] := by
  have : [Str.ofString " ", Str.ofString "\n", Str.ofString "0", Str.ofString "a", Str.ofString "#", Str.ofString "-", Str.ofString "+"] = [[32], [10], [48], [97], [35], [45], [43]].map sC := by decide +kernel
  rw [this, wD, List.map_map]; rfl
theorem bent_ok {N n : Nat} {S : Store} {l : List Nat} (hp : PL N S n) (hl : l.length ≤ 100000) : ∃ l' S', g_law_bent [.loc n, .str (sC l)] S = .ok (.str (sC l')) S' ∧ PL N S' n ∧ l'.length ≤ 4 * l.length + 40 := by
  have lS : lensum (splL 10 l) ≤ l.length + 1 := by have := spl_sum 10 l []; simpa [splL] using this
  generalize hls : splL 10 l = ls at lS
  have ls0 : 1 ≤ ls.length := by
    cases ls with
    | nil => exact absurd hls (spl_ne 10 l [])
    | cons => simp
  have lsn := lensum_len ls
  have sp : ∀ S : Store, splitS S (.str (sC l)) [.str (sC [10])] = some (.lst (wD ls), S) := fun S => by rw [← hls]; exact split_eq (by decide) (by omega)
  have ln1 : ∀ S : Store, lenD S [.lst (wD ls)] = some (.int ls.length) := fun S => by simp [lenD, asL, wD]
  obtain ⟨r1, S1, t1, a1, b1, p1⟩ := take_okL (ls.length : Int) hp (by omega) (by omega)
  obtain ⟨w, hw, ixw⟩ := ix_w (S := S1) a1 b1
  have wl := lensum_mem hw
  have wS : lensum (splL 32 w) ≤ w.length + 1 := by have := spl_sum 32 w []; simpa [splL] using this
  have spw : ∀ S : Store, splitS S (.str (sC w)) [.str (sC [32])] = some (.lst (wD (splL 32 w)), S) := fun S => split_eq (by decide) (by omega)
  generalize hws : splL 32 w = ws at wS spw
  have ws0 : 1 ≤ ws.length := by
    cases ws with
    | nil => exact absurd hws (spl_ne 32 w [])
    | cons => simp
  have wsn := lensum_len ws
  have ln2 : ∀ S : Store, lenD S [.lst (wD ws)] = some (.int ws.length) := fun S => by simp [lenD, asL, wD]
  obtain ⟨r2, S2, t2, a2, b2, p2⟩ := take_okL (ws.length : Int) p1 (by omega) (by omega)
  obtain ⟨v, hv, ixv⟩ := ix_w (S := S2) a2 b2
  have vl := lensum_mem hv
  have ad0 := add_w (S := S2) (a := ODDW) (b := ODDV) (by decide)
  rw [← oddw, ← oddv] at ad0
  simp only [List.map_cons, List.map_nil] at ad0
  obtain ⟨r3, S3, t3, a3, b3, p3⟩ := take_okL 28 p2 (by omega) (by omega)
  obtain ⟨o1, ho1, ixo1⟩ := ix_w (S := S3) (ws := ODDW ++ ODDV) (r := r3) a3 (by rw [odd_n]; exact b3)
  obtain ⟨r4, S4, t4, a4, b4, p4⟩ := take_okL 28 p3 (by omega) (by omega)
  obtain ⟨o2, ho2, ixo2⟩ := ix_w (S := S4) (ws := ODDW ++ ODDV) (r := r4) a4 (by rw [odd_n]; exact b4)
  have l1 := odd_small o1 ho1
  have l2 := odd_small o2 ho2
  have mu : ∀ S : Store, mulL S (.lst [.str (sC v)]) (.int 2) = some (.lst [.str (sC v), .str (sC v)]) := fun S => by
    simp only [mulL]
    rw [if_pos ⟨by decide, by decide, by rw [sizeLine_eq]; simp⟩]; rfl
  obtain ⟨r5, S5, t5, a5, b5, p5⟩ := take_okL 4 p4 (by omega) (by omega)
  obtain ⟨dm, hdm, hmm⟩ := atI_mem (xs := [Ev.D.lst [.str (sC o1)], .lst [.str (sC v), .str (sC v)], .lst [], .lst [.str (sC v), .str (sC o2)]]) a5 (by simpa using b5)
  obtain ⟨ms, rfl, msum⟩ : ∃ ms, dm = .lst (wD ms) ∧ lensum ms ≤ 2 * w.length + 30 := by
    simp only [List.mem_cons, List.not_mem_nil, or_false] at hmm
    rcases hmm with rfl | rfl | rfl | rfl
    · exact ⟨[o1], rfl, by simp [lensum]; omega⟩
    · exact ⟨[v, v], rfl, by simp [lensum]; omega⟩
    · exact ⟨[], rfl, by simp [lensum]⟩
    · exact ⟨[v, o2], rfl, by simp [lensum]; omega⟩
  have ixm : ixD S5 (.lst [.lst [.str (sC o1)], .lst [.str (sC v), .str (sC v)], .lst [], .lst [.str (sC v), .str (sC o2)]]) (.int r5) = some (.lst (wD ms)) := by simp [ixD, asL, hdm]
  have mn := lensum_len ms
  have q1 := lensum_take ws r2.toNat
  have q2 := lensum_drop ws (r2 + 1).toNat
  have z1 := lensum_len (ws.take r2.toNat)
  have z2 := lensum_len (ws.drop (r2 + 1).toNat)
  have c1 : ∀ S : Store, slD S (.lst (wD ws)) none (some r2) = some (.lst (wD (ws.take r2.toNat))) := fun S => sl_w_take a2
  have c2 : ∀ S : Store, slD S (.lst (wD ws)) (some (r2 + 1)) none = some (.lst (wD (ws.drop (r2 + 1).toNat))) := fun S => sl_w_drop (by omega)
  have d1 : ∀ S : Store, addD S (.lst (wD (ws.take r2.toNat))) (.lst (wD ms)) = some (.lst (wD (ws.take r2.toNat ++ ms))) := fun S => add_w (by omega)
  have d2 : ∀ S : Store, addD S (.lst (wD (ws.take r2.toNat ++ ms))) (.lst (wD (ws.drop (r2 + 1).toNat))) = some (.lst (wD (ws.take r2.toNat ++ ms ++ ws.drop (r2 + 1).toNat))) := fun S => add_w (by rw [List.length_append]; omega)
  have qs : lensum (ws.take r2.toNat ++ ms ++ ws.drop (r2 + 1).toNat) ≤ 3 * w.length + 31 := by
    have e : lensum (ws.take r2.toNat) + lensum (ws.drop (r2 + 1).toNat) ≤ lensum ws := by
      have e1 : lensum ws = lensum (ws.take r2.toNat) + lensum (ws.drop r2.toNat) := by conv => lhs; rw [← List.take_append_drop r2.toNat ws, lensum_app]
      have e2 : ws.drop (r2 + 1).toNat = (ws.drop r2.toNat).drop 1 := by rw [List.drop_drop]; congr 1; omega
      have := lensum_drop (ws.drop r2.toNat) 1
      rw [e2]; omega
    rw [lensum_app, lensum_app]; omega
  generalize ws.take r2.toNat ++ ms ++ ws.drop (r2 + 1).toNat = us at d2 qs
  have jn : ∀ S : Store, joinD S (.str (sC [32])) [.lst (wD us)] = some (.str (sC (TL.joinL [32] us)), S) := fun S => join_w (by omega)
  have jl := joinL_len (c := 32) us
  generalize TL.joinL [32] us = g at jn jl
  obtain ⟨r6, S6, t6, a6, b6, p6⟩ := take_okL 7 p5 (by omega) (by omega)
  obtain ⟨sg, hsg, ixs⟩ := ix_w (S := S6) (ws := [[32], [10], [48], [97], [35], [45], [43]]) (r := r6) a6 (by simpa using b6)
  have sgl : sg.length ≤ 1 := by
    have : ∀ w ∈ [[32], [10], [48], [97], [35], [45], [43]], w.length ≤ 1 := by decide
    exact this sg hsg
  rw [← signs7] at ixs
  simp only [List.map_cons, List.map_nil] at ixs
  have lnw : ∀ S : Store, lenD S [.str (sC w)] = some (.int w.length) := fun S => lenD_sC (by omega)
  obtain ⟨r7, S7, t7, a7, b7, p7⟩ := take_okL ((w.length : Int) + 1) p6 (by omega) (by omega)
  obtain ⟨k1, ek1, kl1⟩ := cutS_sC w none (some r7)
  obtain ⟨k2, ek2, kl2⟩ := cutS_sC w (some r7) none
  have lw' : (sC w).length ≤ sizeLine := by rw [len_sC]; exact len_line (by omega)
  have s1 : ∀ S : Store, slD S (.str (sC w)) none (some r7) = some (.str (sC k1)) := fun S => by simp only [slD, if_pos lw', ek1]
  have s2 : ∀ S : Store, slD S (.str (sC w)) (some r7) none = some (.str (sC k2)) := fun S => by simp only [slD, if_pos lw', ek2]
  have f1 : ∀ S : Store, addD S (.str (sC w)) (.str (sC [10])) = some (.str (sC (w ++ [10]))) := fun S => addD_sC (by simp; omega)
  have f2 : ∀ S : Store, addD S (.str (sC (w ++ [10]))) (.str (sC w)) = some (.str (sC (w ++ [10] ++ w))) := fun S => addD_sC (by simp; omega)
  have f3 : ∀ S : Store, addD S (.str (sC k1)) (.str (sC sg)) = some (.str (sC (k1 ++ sg))) := fun S => addD_sC (by omega)
  have f4 : ∀ S : Store, addD S (.str (sC (k1 ++ sg))) (.str (sC k2)) = some (.str (sC (k1 ++ sg ++ k2))) := fun S => addD_sC (by rw [List.length_append]; omega)
  have kk : (k1 ++ sg ++ k2).length ≤ 2 * w.length + 1 := by rw [List.length_append, List.length_append]; omega
  obtain ⟨r8, S8, t8, a8, b8, p8⟩ := take_okL 6 p7 (by omega) (by omega)
  obtain ⟨x, hx, ixx⟩ := ix_w (S := S8) (ws := [g, g, g, [], w ++ [10] ++ w, k1 ++ sg ++ k2]) (r := r8) a8 (by simpa using b8)
  have xl : x.length ≤ 3 * w.length + 31 := by
    simp only [List.mem_cons, List.not_mem_nil, or_false] at hx
    rcases hx with rfl | rfl | rfl | rfl | rfl | rfl
    · omega
    · omega
    · omega
    · simp
    · simp; omega
    · omega
  have ixx' : ∀ S : Store, ixD S (.lst [.str (sC g), .str (sC g), .str (sC g), .str (sC []), .str (sC (w ++ [10] ++ w)), .str (sC (k1 ++ sg ++ k2))]) (.int r8) = some (.str (sC x)) := ixx
  have y1 := lensum_take ls r1.toNat
  have y2 := lensum_drop ls (r1 + 1).toNat
  have yz1 := lensum_len (ls.take r1.toNat)
  have yz2 := lensum_len (ls.drop (r1 + 1).toNat)
  have g1 : ∀ S : Store, slD S (.lst (wD ls)) none (some r1) = some (.lst (wD (ls.take r1.toNat))) := fun S => sl_w_take a1
  have g2 : ∀ S : Store, slD S (.lst (wD ls)) (some (r1 + 1)) none = some (.lst (wD (ls.drop (r1 + 1).toNat))) := fun S => sl_w_drop (by omega)
  have g3 : ∀ S : Store, addD S (.lst (wD (ls.take r1.toNat))) (.lst [.str (sC x)]) = some (.lst (wD (ls.take r1.toNat ++ [x]))) := fun S => add_w (b := [x]) (by simp; omega)
  have g4 : ∀ S : Store, addD S (.lst (wD (ls.take r1.toNat ++ [x]))) (.lst (wD (ls.drop (r1 + 1).toNat))) = some (.lst (wD (ls.take r1.toNat ++ [x] ++ ls.drop (r1 + 1).toNat))) := fun S => add_w (by rw [List.length_append]; simp; omega)
  have gs : lensum (ls.take r1.toNat ++ [x] ++ ls.drop (r1 + 1).toNat) ≤ 4 * l.length + 40 := by
    have e : lensum (ls.take r1.toNat) + lensum (ls.drop (r1 + 1).toNat) ≤ lensum ls := by
      have e1 : lensum ls = lensum (ls.take r1.toNat) + lensum (ls.drop r1.toNat) := by conv => lhs; rw [← List.take_append_drop r1.toNat ls, lensum_app]
      have e2 : ls.drop (r1 + 1).toNat = (ls.drop r1.toNat).drop 1 := by rw [List.drop_drop]; congr 1; omega
      have := lensum_drop (ls.drop r1.toNat) 1
      rw [e2]; omega
    rw [lensum_app, lensum_app]
    have : lensum [x] = x.length + 1 := by simp [lensum]
    omega
  generalize ls.take r1.toNat ++ [x] ++ ls.drop (r1 + 1).toNat = ts at g4 gs
  have jf : ∀ S : Store, joinD S (.str (sC [10])) [.lst (wD ts)] = some (.str (sC (TL.joinL [10] ts)), S) := fun S => join_w (by omega)
  have jfl := joinL_len (c := 10) ts
  refine ⟨TL.joinL [10] ts, S8, ?_, p8, by omega⟩
  have nl := lit_nl
  have ty : ∀ (S : Store) (x : Str), tyM S (.str x) = some "str" := fun S x => rfl
  rw [lit_nl, lit_sp, lit_0, lit_hash, lit_dash] at ixs
  rw [lit_nil, lit_0, lit_dash, lit_m0] at ad0
  rw [lit_hash] at ad0
  unfold g_law_bent runDef m_law_bent
  simp [-List.append_assoc, lit_nl, lit_sp, lit_nil, lit_0, lit_hash, lit_dash, lit_m0, rMth, ty, sp, ofP, ln1, t1, ixw, spw, ln2, t2, ad0, t3, ixo1, ixv, mu, t4, ixo2, c1, t5, ixm, d1, c2, d2, jn, t6, ixs, lnw, t7, f1, f2, s1, f3, s2, f4, g1, t8, ixx', g3, g2, g4, jf]
end Lw
namespace Lw
open PySem PySem.Spec L2 Ev
theorem txR_le {rs : List Ev.D} (h : ∀ r ∈ rs, okRow r = true) : (txR rs).length ≤ 61 * rs.length := by
  have ls : ∀ rs : List Ev.D, (∀ r ∈ rs, okRow r = true) → lensum (rs.map shR) ≤ 61 * rs.length := by
    intro rs
    induction rs with
    | nil => intro _; simp [lensum]
    | cons r rs ih =>
      intro h
      have h1 := (shR_ok (h r (by simp))).2
      have h2 := ih fun t ht => h t (List.mem_cons_of_mem _ ht)
      simp only [lensum, List.map_cons, List.sum_cons, List.length_cons] at h2 ⊢
      omega
  exact Nat.le_trans (joinL_len _) (ls rs h)
theorem drawn_text {N : Nat} {S : Store} {n : Nat} (hp : PL N S n) {x0 x1 x2 x4 x5 x6 x7 x8 : Option Ev.D} :
    ∃ l S', rCall g_law_text (rCons (rLc frzL (rRan ran1 (rCons (rBin addD (rCon (.int 1)) (rCall g_law_take (rCons (rVar 3) (rCons (rCon (.int 8)) rNil)))) rNil)) (.nm 5) [5] rYes (rCall g_law_row (rCons (rVar 3) rNil))) rNil) [x0, x1, x2, some (.loc n), x4, x5, x6, x7, x8] S = .ok (.str (sC l)) S' ∧ PL N S' n ∧ l.length ≤ 488 := by
  obtain ⟨r1, S1, t1, a1, b1, p1⟩ := take_okL 8 hp (by omega) (by omega)
  obtain ⟨A, S2, h1, p2, hl, hq⟩ := rows_ok (k := (1 + r1).toNat) (t := .nm 5) (elt := rCall g_law_row (rCons (rVar 3) rNil)) (e0 := [x0, x1, x2, some (.loc n), x4, none, x6, x7, x8]) p1 (fun i S hS => ⟨_, rfl, by simp⟩)
  have lc : rLc frzL (rRan ran1 (rCons (rBin addD (rCon (.int 1)) (rCall g_law_take (rCons (rVar 3) (rCons (rCon (.int 8)) rNil)))) rNil)) (.nm 5) [5] rYes (rCall g_law_row (rCons (rVar 3) rNil)) [x0, x1, x2, some (.loc n), x4, x5, x6, x7, x8] S = .ok (.lst A) S2 := by
    unfold rLc
    have it : rRan ran1 (rCons (rBin addD (rCon (.int 1)) (rCall g_law_take (rCons (rVar 3) (rCons (rCon (.int 8)) rNil)))) rNil) [x0, x1, x2, some (.loc n), x4, x5, x6, x7, x8] S = .ok (rangeD 0 (1 + r1).toNat) S1 := by
      simp [t1, ran1]
      rw [if_pos (by omega)]
      rfl
    have w : wipeE [x0, x1, x2, some (.loc n), x4, x5, x6, x7, x8] [5] = [x0, x1, x2, some (.loc n), x4, none, x6, x7, x8] := rfl
    rw [it, bind_ok, if_pos (len_small (by simp [rangeD]; omega)), w, h1]
    rfl
  have tx := law_text_eq (S := S2) p2.2.2 hq (by omega)
  refine ⟨txR A, S2, by rw [rCall_eq, rCons_eq, lc, bind_ok, rNil_eq, bind_ok, bind_ok, tx], p2, ?_⟩
  have := txR_le hq
  omega
theorem turn2 {S : Store} {d : Ev.D} (hS : ∀ m, lowS m S = true) (h : (∃ l, d = .str (sC l) ∧ l.length ≤ 600000) ∨ (plainK d = true ∧ isStr d = none)) {x0 x1 x2 x3 x4 x5 x6 x7 : Option Ev.D} :
    lb2_law [x0, x1, x2, x3, x4, x5, x6, x7, some d] S = .nx [x0, x1, x2, x3, x4, x5, x6, x7, some d] S := by
  obtain ⟨t, e1, e2, y, hy⟩ : ∃ t, g_law_told [d] S = .ok t S ∧ g_law_due [d] S = .ok t S ∧ ∃ y, ∀ S : Store, reprD S [t] = some (.str y) := by
    rcases h with ⟨l, rfl, hl⟩ | ⟨h1, h2⟩
    · exact ⟨_, told_text hS hl, due_text hS hl, telT_repr hl⟩
    · exact ⟨_, told_no hS h1 h2, due_no hS h1 h2, noneD_repr rfl⟩
  unfold lb2_law
  simp [e1, e2, hy]
def backR : Ev.D := .tup [.str (Str.ofString "back")]
theorem back_ok : okRow backR = true := by decide +kernel
theorem back_sh : shR backR = [98, 97, 99, 107] := by decide +kernel
theorem tel_tx {A : List Ev.D} (hne : A ≠ []) (h : ∀ r ∈ A, okRow r = true) : telT (txR A) = if A.length ≤ 64 then .lst A else noneD .non := by
  unfold telT
  rw [spl_txR hne h]
  have al : (A.map shR).all (fun l => !isNo (rowIn l)) = true := by
    rw [List.all_eq_true]
    intro l hl
    obtain ⟨r, hr, rfl⟩ := List.mem_map.mp hl
    rw [rowIn_shR (h r hr)]
    obtain ⟨w, s, ps, rfl, _⟩ := row_parts (h r hr)
    rfl
  rw [if_pos al, List.length_map, rows_back h]
theorem turn1 {S : Store} (hS : ∀ m, lowS m S = true) {k : Nat} (hk : k = 64 ∨ k = 65) {x0 x2 x3 x4 x5 x6 x7 x8 : Option Ev.D} :
    lb1_law [x0, some (.int k), x2, x3, x4, x5, x6, x7, x8] S = .nx [x0, some (.int k), x2, x3, x4, x5, x6, x7, x8] S := by
  have bo : ∀ r ∈ List.replicate k backR, okRow r = true := fun r hr => by rw [(List.mem_replicate.mp hr).2]; exact back_ok
  have ne : List.replicate k backR ≠ [] := fun z => by
    have := congrArg List.length z
    simp at this; omega
  have lit : Str.ofString "back" = sC [98, 97, 99, 107] := by decide +kernel
  have rp : ∀ n : Nat, repL n [Ev.D.str (sC [98, 97, 99, 107])] = wD (List.replicate n [98, 97, 99, 107]) := fun n => by
    induction n with
    | zero => rfl
    | succ n ih => rw [List.replicate_succ]; show [Ev.D.str (sC [98, 97, 99, 107])] ++ repL n _ = _; rw [ih]; rfl
  have mu : mulL S (.lst [.str (sC [98, 97, 99, 107])]) (.int k) = some (.lst (wD (List.replicate k [98, 97, 99, 107]))) := by
    simp only [mulL]
    rw [if_pos ⟨by omega, by omega, by rw [sizeLine_eq]; simp; omega⟩, ← rp]
    simp
  have ls : lensum (List.replicate k [98, 97, 99, 107]) = 5 * k := by
    clear mu ne bo hk
    induction k with
    | zero => rfl
    | succ k ih =>
      rw [List.replicate_succ]
      show 4 + 1 + lensum (List.replicate k [98, 97, 99, 107]) = _
      omega
  have jn := join_w (S := S) (c := 10) (ws := List.replicate k [98, 97, 99, 107]) (by omega)
  have te : TL.joinL [10] (List.replicate k [98, 97, 99, 107]) = txR (List.replicate k backR) := by
    unfold txR
    rw [List.map_replicate, back_sh]
  rw [te] at jn
  have tl := txR_le bo
  rw [List.length_replicate] at tl
  have e1 := told_text (S := S) (l := txR (List.replicate k backR)) hS (by omega)
  have e2 := due_text (S := S) (l := txR (List.replicate k backR)) hS (by omega)
  have eq : eqB S (telT (txR (List.replicate k backR))) (telT (txR (List.replicate k backR))) = some true := by
    rw [tel_tx ne bo]
    split
    · exact eq_same bo
    · unfold noneD; simp [PyData.eqvAll, PyData.eqv]
  have ty : tyM S (.str (sC [10])) = some "str" := rfl
  unfold lb1_law
  simp [lit_nl, lit, mu, rMth, ty, jn, ofP, e1, e2, eq]
theorem block_ok {N n : Nat} {S : Store} {l m : List Nat} (hp : PL N S n) (hl : l.length ≤ 488) (hm : m.length ≤ 2000) {x0 x1 x2 x5 x7 x8 : Option Ev.D} (hx0 : ∀ S, x0.bind (frzD N S) = x0) (hx2 : ∀ S, x2.bind (frzD N S) = x2) :
    ∃ A S' z1 z5 z8, frzS (sSeqs [(sSet 7 (rLstM (rCons (rVar 4) (rCons (rVar 6) (rCons (rCall g_law_bent (rCons (rVar 3) (rCons (rVar 6) rNil))) (rCons (rBin addD (rVar 4) (rCon (.str "\n"))) (rCons (rCon (.str "")) (rCons (rBin addD (rCon (.str "\n")) (rVar 4)) (rCons (rCon (.str "set 0 0065535")) rNil))))))))),
    (sSet 7 (rAddM (rVar 7) (rLst (rCons (rCon (.str "set 0 1234567")) (rCons (rCon (.str "set 0 +1")) (rCons (rCon (.str "set 0 1_0")) rNil)))))),
    (sExp (rMth "list" appendL (rVar 7) (rCons (rBin addD (rCon (.str "set 0 ")) (rBin mulU (rCon (.str "1")) (rCon (.int 61)))) rNil)))]) [x0, x1, x2, some (.loc n), some (.str (sC l)), x5, some (.str (sC m)), x7, x8] S
      = .nx [x0, z1, x2, some (.loc n), some (.str (sC l)), z5, some (.str (sC m)), some (.lst A), z8] S' ∧ PL N S' n ∧ A.length = 11 ∧ ∀ d ∈ A, ∃ w, d = .str (sC w) ∧ w.length ≤ 600000 := by
  obtain ⟨b, S1, t1, p1, bl⟩ := bent_ok hp (l := m) (by omega)
  have sN := p1.2.1
  have nN : n < N := by
    obtain ⟨⟨a, b, q, _⟩, hlen, _⟩ := p1
    have := (List.getElem?_eq_some_iff.mp q).1
    omega
  have s0 := hp.2.1
  have a1 : ∀ S : Store, addD S (.str (sC l)) (.str (sC [10])) = some (.str (sC (l ++ [10]))) := fun S => addD_sC (by simp; omega)
  have a2 : ∀ S : Store, addD S (.str (sC [10])) (.str (sC l)) = some (.str (sC ([10] ++ l))) := fun S => addD_sC (by simp; omega)
  obtain ⟨c1, e1, h1⟩ : ∃ c, Str.ofString "set 0 0065535" = sC c ∧ c.length ≤ 100 := ⟨_, (sC_eta _).symm, by decide +kernel⟩
  obtain ⟨c2, e2, h2⟩ : ∃ c, Str.ofString "set 0 1234567" = sC c ∧ c.length ≤ 100 := ⟨_, (sC_eta _).symm, by decide +kernel⟩
  obtain ⟨c3, e3, h3⟩ : ∃ c, Str.ofString "set 0 +1" = sC c ∧ c.length ≤ 100 := ⟨_, (sC_eta _).symm, by decide +kernel⟩
  obtain ⟨c4, e4, h4⟩ : ∃ c, Str.ofString "set 0 1_0" = sC c ∧ c.length ≤ 100 := ⟨_, (sC_eta _).symm, by decide +kernel⟩
  obtain ⟨c5, e5, h5⟩ : ∃ c, Str.ofString "set 0 " = sC c ∧ c.length ≤ 100 := ⟨_, (sC_eta _).symm, by decide +kernel⟩
  obtain ⟨c6, mu, h6⟩ : ∃ c, (∀ S : Store, mulU S (.str (Str.ofString "1")) (.int 61) = some (.str (sC c))) ∧ c.length ≤ 100 := by
    refine ⟨(repS (Str.ofString "1") 61).cps.toList, fun S => ?_, by decide +kernel⟩
    rw [sC_eta]
    show mulT S (.str (Str.ofString "1")) (.int 61) = _
    rw [mulT_str, if_pos ⟨by decide, by decide, by decide, by decide⟩]
    rfl
  have a5 : ∀ S : Store, addD S (.str (sC c5)) (.str (sC c6)) = some (.str (sC (c5 ++ c6))) := fun S => addD_sC (by omega)
  let A0 : List Ev.D := [.str (sC l), .str (sC m), .str (sC b), .str (sC (l ++ [10])), .str (sC []), .str (sC ([10] ++ l)), .str (sC c1)]
  let A1 : List Ev.D := A0 ++ [.str (sC c2), .str (sC c3), .str (sC c4)]
  let A : List Ev.D := A1 ++ [.str (sC (c5 ++ c6))]
  have hA : ∀ d ∈ A, ∃ w, d = .str (sC w) ∧ w.length ≤ 600000 := fun d hd => by
    simp only [A, A1, A0, List.cons_append, List.nil_append, List.mem_cons, List.not_mem_nil, or_false] at hd
    rcases hd with rfl | rfl | rfl | rfl | rfl | rfl | rfl | rfl | rfl | rfl | rfl
    · exact ⟨_, rfl, by omega⟩
    · exact ⟨_, rfl, by omega⟩
    · exact ⟨_, rfl, by omega⟩
    · exact ⟨_, rfl, by simp; omega⟩
    · exact ⟨_, rfl, by simp⟩
    · exact ⟨_, rfl, by simp; omega⟩
    · exact ⟨_, rfl, by omega⟩
    · exact ⟨_, rfl, by omega⟩
    · exact ⟨_, rfl, by omega⟩
    · exact ⟨_, rfl, by omega⟩
    · exact ⟨_, rfl, by rw [List.length_append]; omega⟩
  have lowA : ∀ k, lows k A = true := fun k => low_nice.lows_all fun x hx => by
    obtain ⟨w, rfl, _⟩ := hA x hx
    rfl
  have ap : appendL (S1 ++ [.lst A0] ++ [.lst A1]) (.loc (N + 1)) [.str (sC (c5 ++ c6))] = some (.non, S1 ++ [.lst A0] ++ [.lst A]) := by
    have hz : A1.length < sizeLine := by rw [sizeLine_eq]; show 10 < _; decide
    have g : (S1 ++ [MO.lst A0] ++ [MO.lst A1])[N + 1]? = some (.lst A1) := by
      rw [List.getElem?_append_right (by simp; omega)]; simp [sN]
    have st : (S1 ++ [MO.lst A0] ++ [MO.lst A1]).set (N + 1) (.lst A) = S1 ++ [MO.lst A0] ++ [.lst A] := by
      rw [List.set_append, if_neg (by simp; omega)]; simp [sN]
    simp only [appendL, g, if_pos hz]
    rw [show A1 ++ [Ev.D.str (sC (c5 ++ c6))] = A from rfl, st]
  have run : sSeqs [(sSet 7 (rLstM (rCons (rVar 4) (rCons (rVar 6) (rCons (rCall g_law_bent (rCons (rVar 3) (rCons (rVar 6) rNil))) (rCons (rBin addD (rVar 4) (rCon (.str "\n"))) (rCons (rCon (.str "")) (rCons (rBin addD (rCon (.str "\n")) (rVar 4)) (rCons (rCon (.str "set 0 0065535")) rNil))))))))),
    (sSet 7 (rAddM (rVar 7) (rLst (rCons (rCon (.str "set 0 1234567")) (rCons (rCon (.str "set 0 +1")) (rCons (rCon (.str "set 0 1_0")) rNil)))))),
    (sExp (rMth "list" appendL (rVar 7) (rCons (rBin addD (rCon (.str "set 0 ")) (rBin mulU (rCon (.str "1")) (rCon (.int 61)))) rNil)))] [x0, x1, x2, some (.loc n), some (.str (sC l)), x5, some (.str (sC m)), x7, x8] S
      = .nx [x0, x1, x2, some (.loc n), some (.str (sC l)), x5, some (.str (sC m)), some (.loc (N + 1)), x8] (S1 ++ [.lst A0] ++ [.lst A]) := by
    have g0 : (S1 ++ [MO.lst A0])[N]? = some (.lst A0) := by rw [List.getElem?_append_right (by omega)]; simp [sN]
    have z10 : ([Ev.D.str (sC l), .str (sC m), .str (sC b), .str (sC (l ++ [10])), .str (sC []), .str (sC ([10] ++ l)), .str (sC c1)]).length + 3 ≤ sizeLine := by rw [sizeLine_eq]; show 10 ≤ _; decide
    have l2 : (S1 ++ [MO.lst A0]).length = N + 1 := by simp [sN]
    have ty : tyM (S1 ++ [.lst A0] ++ [.lst A1]) (.loc (N + 1)) = some "list" := by
      have g : (S1 ++ [MO.lst A0] ++ [MO.lst A1])[N + 1]? = some (.lst A1) := by
        rw [List.getElem?_append_right (by simp; omega)]; simp [sN]
      simp only [tyM, g]
    have st1 : rLstM (rCons (rVar 4) (rCons (rVar 6) (rCons (rCall g_law_bent (rCons (rVar 3) (rCons (rVar 6) rNil))) (rCons (rBin addD (rVar 4) (rCon (.str "\n"))) (rCons (rCon (.str "")) (rCons (rBin addD (rCon (.str "\n")) (rVar 4)) (rCons (rCon (.str "set 0 0065535")) rNil))))))) [x0, x1, x2, some (.loc n), some (.str (sC l)), x5, some (.str (sC m)), x7, x8] S = .ok (.loc N) (S1 ++ [.lst A0]) := by
      simp [-List.append_assoc, -List.cons_append, -List.nil_append, lit_nl, lit_nil, t1, a1, a2, e1, sN, A0]
    have st2 : rAddM (rVar 7) (rLst (rCons (rCon (.str "set 0 1234567")) (rCons (rCon (.str "set 0 +1")) (rCons (rCon (.str "set 0 1_0")) rNil)))) [x0, x1, x2, some (.loc n), some (.str (sC l)), x5, some (.str (sC m)), some (.loc N), x8] (S1 ++ [.lst A0]) = .ok (.loc (N + 1)) (S1 ++ [.lst A0] ++ [.lst A1]) := by
      have q : A0.length + 3 ≤ sizeLine := z10
      simp only [rAddM_eq, rVar_eq, List.getElem?_cons_succ, List.getElem?_cons_zero, bind_ok, rLst_eq, rCons_eq, rCon_eq, rNil_eq, asL_loc, g0, asL_lst, e2, e3, e4, List.length_cons, List.length_nil]
      rw [if_pos (by simpa using q), l2]
    have st3 : rMth "list" appendL (rVar 7) (rCons (rBin addD (rCon (.str "set 0 ")) (rBin mulU (rCon (.str "1")) (rCon (.int 61)))) rNil) [x0, x1, x2, some (.loc n), some (.str (sC l)), x5, some (.str (sC m)), some (.loc (N + 1)), x8] (S1 ++ [.lst A0] ++ [.lst A1]) = .ok .non (S1 ++ [.lst A0] ++ [.lst A]) := by
      unfold rMth
      simp only [rVar_eq, List.getElem?_cons_succ, List.getElem?_cons_zero, bind_ok, ty, if_true, rCons_eq, rBin_eq, rCon_eq, mu, ofO_some, e5, a5, rNil_eq, ap]
      rfl
    simp only [sSeqs, sSeq_eq, sSet_eq, st1, fl_ok, then_nx, List.set_cons_succ, List.set_cons_zero, st2, sExp_eq, st3, sNil_eq]
  let S' : Store := S1 ++ [.lst A0] ++ [.lst A]
  have tk : S'.take N = S1 := by show (S1 ++ [MO.lst A0] ++ [MO.lst A]).take N = S1; rw [List.append_assoc, ← sN]; simp
  have gA : S'[N + 1]? = some (.lst A) := by
    show (S1 ++ [MO.lst A0] ++ [MO.lst A])[N + 1]? = _
    rw [List.getElem?_append_right (by simp; omega)]; simp [sN]
  have f7 : frzD N S' (.loc (N + 1)) = some (.lst A) := by simp only [frzD, gA, lowA, if_true, if_neg (show ¬ N + 1 < N by omega)]
  have f3 : frzD N S' (.loc n) = some (.loc n) := by simp only [frzD, if_pos nN]
  have fs : ∀ x, frzD N S' (.str x) = some (.str x) := fun x => rfl
  refine ⟨A, S1, x1.bind (frzD N S'), x5.bind (frzD N S'), x8.bind (frzD N S'), ?_, p1, rfl, hA⟩
  unfold frzS
  rw [run, s0]
  show (if lowS N (S'.take N) = true then Fl.nx (frzEnv N S' _) (S'.take N) else .bad) = _
  simp only [tk, p1.2.2, if_true, frzEnv, List.map_cons, List.map_nil, Option.bind_some, hx0, hx2, f3, f7, fs]
theorem cell_ok {ns : List Int} {k : Nat} {S : Store} (hS : ∀ m, lowS m S = true) (hk : k < 1000) {x1 x3 x4 x5 x6 x7 x8 : Option Ev.D} :
    ∃ S' z1 z3 z4 z5 z6 z7 z8, lb3_law [some (.lst (ns.map Ev.D.int)), x1, some (.int k), x3, x4, x5, x6, x7, x8] S = .nx [some (.lst (ns.map Ev.D.int)), z1, some (.int k), z3, z4, z5, z6, z7, z8] S' ∧ ∀ m, lowS m S' = true := by
  obtain ⟨S0, e0, p0⟩ := pool_PL ns k S hS (by omega) (by omega)
  obtain ⟨l, S1, e1, p1, l1⟩ := drawn_text p0 (x0 := some (.lst (ns.map Ev.D.int))) (x1 := x1) (x2 := some (.int k)) (x4 := x4) (x5 := x5) (x6 := x6) (x7 := x7) (x8 := x8)
  obtain ⟨m, S2, e2, p2, l2⟩ := bent_ok p1 (l := l) (by omega)
  have lns : ∀ m, lows m (ns.map Ev.D.int) = true := fun m => low_nice.lows_all fun x hx => by
    obtain ⟨i, _, rfl⟩ := List.mem_map.mp hx
    rfl
  obtain ⟨A, S3, y1, y5, y8, e3, p3, al, hA⟩ := block_ok p2 l1 (m := m) (by omega) (x0 := some (.lst (ns.map Ev.D.int))) (x1 := x1) (x2 := some (.int k)) (x5 := x5) (x7 := x7) (x8 := x8)
    (fun S => by simp [frzD, D.low, lns]) (fun S => by simp [frzD, D.low])
  have low3 := p3.2.2
  let B : List Ev.D := A ++ [.non, .int 5, .lst [.str (sC l)], .bl true, .dct [] [], .tup [.str (Str.ofString "back")]]
  have adB : addD S3 (.lst A) (.lst [.non, .int 5, .lst [.str (sC l)], .bl true, .dct [] [], .tup [.str (Str.ofString "back")]]) = some (.lst B) := add_lst (by rw [al]; show 11 + 6 ≤ 1000000; decide)
  have hB : ∀ d ∈ B, (∃ l, d = .str (sC l) ∧ l.length ≤ 600000) ∨ (plainK d = true ∧ isStr d = none) := fun d hd => by
    rcases List.mem_append.mp hd with q | q
    · exact .inl (hA d q)
    · simp only [List.mem_cons, List.not_mem_nil, or_false] at q
      rcases q with rfl | rfl | rfl | rfl | rfl | rfl <;> exact .inr ⟨rfl, rfl⟩
  obtain ⟨e', S', h1, hS', y8', rfl⟩ := forL_inv (t := .nm 8) (body := lb2_law) (fun e S' => S' = S3 ∧ ∃ y8, e = [some (.lst (ns.map Ev.D.int)), y1, some (.int k), some (.loc S.length), some (.str (sC l)), y5, some (.str (sC m)), some (.lst A), y8]) B
    (e := [some (.lst (ns.map Ev.D.int)), y1, some (.int k), some (.loc S.length), some (.str (sC l)), y5, some (.str (sC m)), some (.lst A), y8]) (S := S3)
    (fun d hd e S' ⟨hs, y8, he⟩ => by
      subst he hs
      exact ⟨_, rfl, _, _, turn2 low3 (hB d hd), rfl, _, rfl⟩) ⟨rfl, _, rfl⟩
  rw [hS'] at h1
  refine ⟨S3, y1, some (.loc S.length), some (.str (sC l)), y5, some (.str (sC m)), some (.lst A), y8', ?_, low3⟩
  unfold lb3_law
  rw [sSeq_eq, sSet_eq, rCall_eq]
  simp only [rCons_eq, rVar_eq, rNil_eq, bind_ok, List.getElem?_cons_succ, List.getElem?_cons_zero, e0, fl_ok, then_nx, List.set_cons_succ, List.set_cons_zero]
  rw [sSeq_eq, sSet_eq, e1, fl_ok, then_nx]
  simp only [List.set_cons_succ, List.set_cons_zero]
  rw [sSeq_eq, sSet_eq, rCall_eq]
  simp only [rCons_eq, rVar_eq, rNil_eq, bind_ok, List.getElem?_cons_succ, List.getElem?_cons_zero, e2, fl_ok, then_nx, List.set_cons_succ, List.set_cons_zero]
  rw [sSeq_eq, e3, then_nx]
  simp [-sFor_eq, sFor, adB]
  exact h1
theorem law_true (ns : List Int) (hl : ns.length ≤ 63) : ∃ S, g_law [.lst (ns.map Ev.D.int)] [] = .ok (.bl true) S := by
  obtain ⟨m, hm, hr⟩ := ran_cells ns.length 15 (by omega) (by omega)
  have h0 : forL (.nm 1) lb1_law [.int 64, .int 65] [some (.lst (ns.map Ev.D.int)), none, none, none, none, none, none, none, none] [] = .nx [some (.lst (ns.map Ev.D.int)), some (.int 65), none, none, none, none, none, none, none] [] := by
    have t1 := turn1 (S := []) (fun _ => rfl) (k := 64) (.inl rfl) (x0 := some (.lst (ns.map Ev.D.int))) (x2 := none) (x3 := none) (x4 := none) (x5 := none) (x6 := none) (x7 := none) (x8 := none)
    have t2 := turn1 (S := []) (fun _ => rfl) (k := 65) (.inr rfl) (x0 := some (.lst (ns.map Ev.D.int))) (x2 := none) (x3 := none) (x4 := none) (x5 := none) (x6 := none) (x7 := none) (x8 := none)
    have c1 : ((64 : Nat) : Int) = 64 := rfl
    have c2 : ((65 : Nat) : Int) = 65 := rfl
    rw [c1] at t1
    rw [c2] at t2
    simp [forL, t1, t2]
  obtain ⟨e', S', h1, _, y1, y2, y3, y4, y5, y6, y7, y8, rfl⟩ := forL_inv (t := .nm 2) (body := lb3_law) (fun e S' => (∀ m, lowS m S' = true) ∧ ∃ y1 y2 y3 y4 y5 y6 y7 y8, e = [some (.lst (ns.map Ev.D.int)), y1, y2, y3, y4, y5, y6, y7, y8]) (rangeD 0 m) (e := [some (.lst (ns.map Ev.D.int)), some (.int 65), none, none, none, none, none, none, none]) (S := [])
    (fun d hd e S' ⟨lo, y1, y2, y3, y4, y5, y6, y7, y8, he⟩ => by
      obtain ⟨i, hi, rfl⟩ := mem_rangeD hd
      subst he
      rw [Int.zero_add]
      obtain ⟨S3, z1, z3, z4, z5, z6, z7, z8, h2, h3⟩ := cell_ok (ns := ns) (k := i) (x1 := y1) (x3 := y3) (x4 := y4) (x5 := y5) (x6 := y6) (x7 := y7) (x8 := y8) (S := S') lo (by omega)
      exact ⟨_, rfl, _, S3, h2, h3, _, _, _, _, _, _, _, _, rfl⟩) ⟨fun _ => rfl, _, _, _, _, _, _, _, _, rfl⟩
  refine ⟨S', ?_⟩
  unfold g_law runDef m_law
  simp at hr
  simp [h0, hr, h1]
end Lw
open PySem PySem.W PyProof.Rows
set_option maxHeartbeats 0 in
theorem PySem.Challenge.cw_sealedreach_k27_texts_of_no_rows_holds : PySem.Challenge.rw_sealedreach_k27_texts_of_no_rows.Holds := by
  w_on; o_law; k_head; (case hw => w_witness2)
  k_fill
  refine Ev.walk_evG (l := PySem.Challenge.rw_sealedreach_k27_texts_of_no_rows) (n := 63) (k := 9) (x := "_law_script") (g := Lw.g_law) rfl (by decide) rfl ⟨rfl, by decide, by decide⟩ (fun w h Y => PySem.W.kIn_of Y) ?F Lw.law_true
  case F =>
    intro w mg fa h KX G hmg
    refine' Lw.all_mk KX G hmg ?a0 ?l0 ?o0 ?p0 ?a1 ?l1 ?o1 ?p1 ?a2 ?l2 ?o2 ?p2 ?a3 ?l3 ?o3 ?p3 ?a4 ?l4 ?o4 ?p4 ?a5 ?l5 ?o5 ?p5 ?a6 ?l6 ?o6 ?p6 ?a7 ?l7 ?o7 ?p7 ?a8 ?l8 ?o8 ?p8 ?a9 ?l9 ?o9 ?p9 ?a10 ?l10 ?o10 ?p10 ?a11 ?l11 ?o11 ?p11 ?a12 ?l12 ?o12 ?p12 ?a13 ?l13 ?o13 ?p13 ?a14 ?l14 ?o14 ?p14 ?a15 ?l15 ?o15 ?p15 ?a16 ?l16 ?o16 ?p16 ?a17 ?l17 ?o17 ?p17 ?a18 ?l18 ?o18 ?p18 ?a19 ?l19 ?o19 ?p19 ?a20 ?l20 ?o20 ?p20 ?a21 ?l21 ?o21 ?p21 ?a22 ?l22 ?o22 ?p22 ?a23 ?l23 ?o23 ?p23 ?a24 ?l24 ?o24 ?p24 ?a25 ?l25 ?o25 ?p25 ?a26 ?l26 ?o26 ?p26 ?a27 ?l27 ?o27 ?p27 ?a28 ?l28 ?o28 ?p28 ?a29 ?l29 ?o29 ?p29 ?a30 ?l30 ?o30 ?p30 ?k_CELLS ?k_RIGHTS ?k_BOXES ?k_MOST_WORTH ?k_LEAST_OFFSET ?k_MOST_OFFSET ?k_MOST_ROWS ?k_DEEDS ?l_DEEDS ?k_ASKS ?l_ASKS ?k_WHATS ?l_WHATS ?k_FORMS ?l_FORMS ?lo_FORMS ?k_FIGURES ?z_abs ?z_all ?z_bool ?z_enumerate ?z_int ?z_isinstance ?z_len ?z_list ?z_max ?z_min ?z_range ?z_repr ?z_sorted ?z_str ?z_sum ?z_tuple ?z_zip ?g_ReachError ?E1_ReachError ?E2_ReachError ?E3_ReachError ?E4_ReachError ?E5_ReachError ?E8_ReachError ?g_NoRows ?E1_NoRows ?E2_NoRows ?E3_NoRows ?E4_NoRows ?E5_NoRows ?E8_NoRows ?g_NoText ?E1_NoText ?E2_NoText ?E3_NoText ?E4_NoText ?E5_NoText ?E8_NoText ?E6 ?E7 ?sp_ReachError ?rd_ReachError ?vl_ReachError ?xL_NoText ?sa_NoText ?iC_NoText ?tI_NoText ?li_NoText ?oi_NoText ?pi_NoText ?p_NoText ?u_NoText ?y_NoText ?no_NoRows_number ?no_NoText_number ?e_NoRows_ReachError ?e_NoText_ReachError ?e_ReachError_ReachError ?q_NoRows_NoRows ?q_NoRows_NoText ?q_NoText_NoRows ?q_NoText_NoText ?q_ReachError_NoRows ?q_ReachError_NoText
    (case a0 => first | k_is | rfl); (case l0 => first | k_is | rfl); (case o0 => first | k_is | rfl); (case p0 => first | k_is | rfl); (case a1 => first | k_is | rfl); (case l1 => first | k_is | rfl)
    (case o1 => first | k_is | rfl); (case p1 => first | k_is | rfl); (case a2 => first | k_is | rfl); (case l2 => first | k_is | rfl); (case o2 => first | k_is | rfl); (case p2 => first | k_is | rfl)
    (case a3 => first | k_is | rfl); (case l3 => first | k_is | rfl); (case o3 => first | k_is | rfl); (case p3 => first | k_is | rfl); (case a4 => first | k_is | rfl); (case l4 => first | k_is | rfl)
    (case o4 => first | k_is | rfl); (case p4 => first | k_is | rfl); (case a5 => first | k_is | rfl); (case l5 => first | k_is | rfl); (case o5 => first | k_is | rfl); (case p5 => first | k_is | rfl)
    (case a6 => first | k_is | rfl); (case l6 => first | k_is | rfl); (case o6 => first | k_is | rfl); (case p6 => first | k_is | rfl); (case a7 => first | k_is | rfl); (case l7 => first | k_is | rfl)
    (case o7 => first | k_is | rfl); (case p7 => first | k_is | rfl); (case a8 => first | k_is | rfl); (case l8 => first | k_is | rfl); (case o8 => first | k_is | rfl); (case p8 => first | k_is | rfl)
    (case a9 => first | k_is | rfl); (case l9 => first | k_is | rfl); (case o9 => first | k_is | rfl); (case p9 => first | k_is | rfl); (case a10 => first | k_is | rfl); (case l10 => first | k_is | rfl)
    (case o10 => first | k_is | rfl); (case p10 => first | k_is | rfl); (case a11 => first | k_is | rfl); (case l11 => first | k_is | rfl); (case o11 => first | k_is | rfl); (case p11 => first | k_is | rfl)
    (case a12 => first | k_is | rfl); (case l12 => first | k_is | rfl); (case o12 => first | k_is | rfl); (case p12 => first | k_is | rfl); (case a13 => first | k_is | rfl); (case l13 => first | k_is | rfl)
    (case o13 => first | k_is | rfl); (case p13 => first | k_is | rfl); (case a14 => first | k_is | rfl); (case l14 => first | k_is | rfl); (case o14 => first | k_is | rfl); (case p14 => first | k_is | rfl)
    (case a15 => first | k_is | rfl); (case l15 => first | k_is | rfl); (case o15 => first | k_is | rfl); (case p15 => first | k_is | rfl); (case a16 => first | k_is | rfl); (case l16 => first | k_is | rfl)
    (case o16 => first | k_is | rfl); (case p16 => first | k_is | rfl); (case a17 => first | k_is | rfl); (case l17 => first | k_is | rfl); (case o17 => first | k_is | rfl); (case p17 => first | k_is | rfl)
    (case a18 => first | k_is | rfl); (case l18 => first | k_is | rfl); (case o18 => first | k_is | rfl); (case p18 => first | k_is | rfl); (case a19 => first | k_is | rfl); (case l19 => first | k_is | rfl)
    (case o19 => first | k_is | rfl); (case p19 => first | k_is | rfl); (case a20 => first | k_is | rfl); (case l20 => first | k_is | rfl); (case o20 => first | k_is | rfl); (case p20 => first | k_is | rfl)
    (case a21 => first | k_is | rfl); (case l21 => first | k_is | rfl); (case o21 => first | k_is | rfl); (case p21 => first | k_is | rfl); (case a22 => first | k_is | rfl); (case l22 => first | k_is | rfl)
    (case o22 => first | k_is | rfl); (case p22 => first | k_is | rfl); (case a23 => first | k_is | rfl); (case l23 => first | k_is | rfl); (case o23 => first | k_is | rfl); (case p23 => first | k_is | rfl)
    (case a24 => first | k_is | rfl); (case l24 => first | k_is | rfl); (case o24 => first | k_is | rfl); (case p24 => first | k_is | rfl); (case a25 => first | k_is | rfl); (case l25 => first | k_is | rfl)
    (case o25 => first | k_is | rfl); (case p25 => first | k_is | rfl); (case a26 => first | k_is | rfl); (case l26 => first | k_is | rfl); (case o26 => first | k_is | rfl); (case p26 => first | k_is | rfl)
    (case a27 => first | k_is | rfl); (case l27 => first | k_is | rfl); (case o27 => first | k_is | rfl); (case p27 => first | k_is | rfl); (case a28 => first | k_is | rfl); (case l28 => first | k_is | rfl)
    (case o28 => first | k_is | rfl); (case p28 => first | k_is | rfl); (case a29 => first | k_is | rfl); (case l29 => first | k_is | rfl); (case o29 => first | k_is | rfl); (case p29 => first | k_is | rfl)
    (case a30 => first | k_is | rfl); (case l30 => first | k_is | rfl); (case o30 => first | k_is | rfl); (case p30 => first | k_is | rfl); (case k_CELLS => first | k_is | rfl); (case k_RIGHTS => first | k_is | rfl)
    (case k_BOXES => first | k_is | rfl); (case k_MOST_WORTH => first | k_is | rfl); (case k_LEAST_OFFSET => first | k_is | rfl); (case k_MOST_OFFSET => first | k_is | rfl); (case k_MOST_ROWS => first | k_is | rfl); (case k_DEEDS => first | k_is | rfl)
    (case l_DEEDS => first | k_is | rfl); (case k_ASKS => first | k_is | rfl); (case l_ASKS => first | k_is | rfl); (case k_WHATS => first | k_is | rfl); (case l_WHATS => first | k_is | rfl); (case k_FORMS => first | k_is | rfl)
    (case l_FORMS => first | k_is | rfl); (case lo_FORMS => first | k_is | rfl); (case k_FIGURES => first | k_is | rfl); (case z_abs => first | k_is | rfl); (case z_all => first | k_is | rfl); (case z_bool => first | k_is | rfl)
    (case z_enumerate => first | k_is | rfl); (case z_int => first | k_is | rfl); (case z_isinstance => first | k_is | rfl); (case z_len => first | k_is | rfl); (case z_list => first | k_is | rfl); (case z_max => first | k_is | rfl)
    (case z_min => first | k_is | rfl); (case z_range => first | k_is | rfl); (case z_repr => first | k_is | rfl); (case z_sorted => first | k_is | rfl); (case z_str => first | k_is | rfl); (case z_sum => first | k_is | rfl)
    (case z_tuple => first | k_is | rfl); (case z_zip => first | k_is | rfl); (case g_ReachError => first | k_is | rfl); (case E1_ReachError => first | k_is | rfl); (case E2_ReachError => first | k_is | rfl); (case E3_ReachError => first | k_is | rfl)
    (case E4_ReachError => first | k_is | rfl); (case E5_ReachError => first | k_is | rfl); (case E8_ReachError => first | k_is | rfl); (case g_NoRows => first | k_is | rfl); (case E1_NoRows => first | k_is | rfl); (case E2_NoRows => first | k_is | rfl)
    (case E3_NoRows => first | k_is | rfl); (case E4_NoRows => first | k_is | rfl); (case E5_NoRows => first | k_is | rfl); (case E8_NoRows => first | k_is | rfl); (case g_NoText => first | k_is | rfl); (case E1_NoText => first | k_is | rfl)
    (case E2_NoText => first | k_is | rfl); (case E3_NoText => first | k_is | rfl); (case E4_NoText => first | k_is | rfl); (case E5_NoText => first | k_is | rfl); (case E8_NoText => first | k_is | rfl); (case E6 => first | k_is | rfl)
    (case E7 => first | k_is | rfl); (case sp_ReachError => first | k_is | rfl); (case rd_ReachError => first | k_is | rfl); (case vl_ReachError => first | k_is | rfl); (case xL_NoText => first | k_is | rfl); (case sa_NoText => first | k_is | rfl)
    (case iC_NoText => first | k_is | rfl); (case tI_NoText => first | k_is | rfl); (case li_NoText => first | k_is | rfl); (case oi_NoText => first | k_is | rfl); (case pi_NoText => first | k_is | rfl); (case p_NoText => first | k_is | rfl)
    (case u_NoText => first | k_is | rfl); (case y_NoText => first | k_is | rfl); (case no_NoRows_number => first | k_is | rfl); (case no_NoText_number => first | k_is | rfl); (case e_NoRows_ReachError => first | k_is | rfl); (case e_NoText_ReachError => first | k_is | rfl)
    (case e_ReachError_ReachError => first | k_is | rfl); (case q_NoRows_NoRows => first | k_is | rfl); (case q_NoRows_NoText => first | k_is | rfl); (case q_NoText_NoRows => first | k_is | rfl); (case q_NoText_NoText => first | k_is | rfl); (case q_ReachError_NoRows => first | k_is | rfl)
    (case q_ReachError_NoText => first | k_is | rfl)
