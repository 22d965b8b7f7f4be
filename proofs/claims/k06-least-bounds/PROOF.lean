import PyProof.Rows.All
import Wide.All
import OpenK.AllK
import Wide.FinOn
import HandS.ForMost
import HandS.ForExc
import HandS.IsInst
import HandS.Flow
import HandS.TupLe
import HandS.TupAny
import HandS.WideBits
import HandS.Wide
import HandS.Style
import KE.DataEq
import HandS.ExcCtx
import HandS.ExcIs
import HandS.EndBits
import KE.KExcIs
import PyProof.Draws
import PyProof.EnumMake
import HandS.Zip
import KE.GoesMore
import HandS.Text
import HandS.Conv
import HandS.Replace
import KE.DatumIndex
import PyProof.ReprRoads
import HandS.Defaults
import HandS.TryOnly
import PyProof.ListStr
import PyProof.TupleOfGen
import PyProof.Rows.StrRev
import HandS.ExcInit
import HandS.ExcField
import HandS.StrSplit
import HandS.ReplaceLit
import HandS.FStr
import HandS.Dict
import HandS.ExcOwn
import HandS.RaiseMore
import HandS.WrittenGet
import PyProof.AutoListH
import PyProof.ListMulRoad
import KE.KUnpackStar
import HandS.SetFor
import HandS.Strs
import HandS.SortOrd
import HandS.SortInts
import HandS.TupMul
import PyProof.NeKinds
import PyProof.Rows.AssignMoreSeq
import HandS.DictComp
import HandS.More
import HandS.OwnEq
import HandS.MakeKwOnly
import HandS.SortRule
import HandS.HotCalls
import HandS.ExcInitHot
import HandS.Deep
import KE.KEqNest
import PyProof.InstNe
import HandS.TryMany
import HandS.Spec
import PySem.Challenge.RW_sealedreach_k06_least_bounds_told
set_option Elab.async false
set_option linter.all false
set_option maxRecDepth 100000
set_option maxHeartbeats 4000000
namespace Ev
open PySem PySem.Spec PyProof.Rows L2
inductive D where
  | non
  | bl (b : Bool)
  | int (i : Int)
  | str (x : Str)
  | tup (xs : List D)
  | lst (xs : List D)
  | dct (ks : List Key) (xs : List D)
  | loc (n : Nat)
  | dcf (ks : List Key) (xs : List D)
  | exn (c : Nat) (ns : List Str) (xs : List D)
  | dcT (ks : List (List Key)) (xs : List D)
  deriving Inhabited
inductive MO where
  | lst (xs : List D)
  | dK (ks : List Key) (xs : List D)
  | ins (c : Nat) (ns : List Str) (xs : List D)
  | dT (ks : List (List Key)) (xs : List D)
abbrev Store := List MO
abbrev Env := List (Option D)
structure Exn where
  c : Nat
  ns : List Str
  xs : List D
inductive Res (A : Type) where
  | ok (a : A) (S : Store)
  | err (x : Exn) (S : Store)
  | bad
def Res.bind {A B : Type} : Res A → (A → Store → Res B) → Res B
  | .ok a S, f => f a S
  | .err x S, _ => .err x S
  | .bad, _ => .bad
def ofO {A : Type} : Option A → Store → Res A
  | some a, S => .ok a S
  | none, _ => .bad
structure Io where
  l : List Addr
  h : List (Addr × HO)
def Io.all (io : Io) : List Addr := io.l ++ io.h.map (·.1)
def Fz (io : Io) (H : Hp) : Hp := fun a => if a ∈ io.all then none else H a
theorem Fz_out {io : Io} {H : Hp} {a : Addr} (h : a ∉ io.all) : Fz io H a = H a := by unfold Fz; rw [if_neg h]
theorem Fz_in {io : Io} {H : Hp} {a : Addr} (h : a ∈ io.all) : Fz io H a = none := by unfold Fz; rw [if_pos h]
theorem Fz_same (io : Io) (H : Hp) : Same (Fz io H) H := fun b o e => by
  unfold Fz at e
  split at e
  · cases e
  · exact e
theorem sqT_same {K : PySem.W.Frag} {H H' : Hp} {a : Addr} {xs : List V} (e : Same H H') (h : SqT K H a xs) : SqT K H' a xs := by
  rcases h with (h | ⟨o, h⟩) | h
  · exact .inl (.inl (e _ _ h))
  · exact .inl (.inr ⟨o, e _ _ h⟩)
  · exact .inr h
def exH (a : Addr) (cls : Value) (d : Option Addr) : HO := .ext fun h => ∃ oe vs, h.get? a = some oe ∧ oe.cls = cls ∧ oe.dict = d ∧ oe.data = .fields vs
variable (K : PySem.W.Frag) (C : Nat → Addr)
mutual
inductive Rep (io : Io) (F : Hp) : D → V → Prop
  | non : Rep io F .non .non
  | bl (b : Bool) : Rep io F (.bl b) (.bl b)
  | int (i : Int) : Rep io F (.int i) (.int i)
  | str (x : Str) : Rep io F (.str x) (.str x)
  | tup {a : Addr} {vs : List V} {ds : List D} : SqT K F a vs → Reps io F ds vs → Rep io F (.tup ds) (.ref a)
  | lst {a : Addr} {vs : List V} {ds : List D} : SqL K F a vs → Reps io F ds vs → Rep io F (.lst ds) (.ref a)
  | dct {a : Addr} {kvs : List (Key × V)} {ks : List Key} {vs : List V} {ds : List D} : F a = some (.dK kvs) → kvs.map (·.1) = ks → kvs.map (·.2) = vs → Reps io F ds vs → Rep io F (.dct ks ds) (.ref a)
  | loc {n : Nat} {a : Addr} : io.l[n]? = some a → Rep io F (.loc n) (.ref a)
  | dcf {a : Addr} {o : Obj} {kvs : List (Key × V)} {ks : List Key} {vs : List V} {ds : List D} : F a = some (.frz o (.dK kvs)) → kvs.map (·.1) = ks → kvs.map (·.2) = vs → Reps io F ds vs → Rep io F (.dcf ks ds) (.ref a)
  | dcT {a : Addr} {o : Obj} {kvs : List (List Key × V)} {ks : List (List Key)} {vs : List V} {ds : List D} : F a = some (.frz o (.dT kvs)) → kvs.map (·.1) = ks → kvs.map (·.2) = vs → Reps io F ds vs → Rep io F (.dcT ks ds) (.ref a)
  | exn0 {c : Nat} {a : Addr} : F a = some (exH a (.ref (C c)) none) → Rep io F (.exn c [] []) (.ref a)
  | exnF {c : Nat} {a d : Addr} {fs : List (Str × V)} {ns : List Str} {vs : List V} {ds : List D} : F a = some (exH a (.ref (C c)) (some d)) → F d = some (.xd fs) → fs.map (·.1) = ns → fs.map (·.2) = vs → Reps io F ds vs → Rep io F (.exn c ns ds) (.ref a)
inductive Reps (io : Io) (F : Hp) : List D → List V → Prop
  | nil : Reps io F [] []
  | cons {d : D} {ds : List D} {v : V} {vs : List V} : Rep io F d v → Reps io F ds vs → Reps io F (d :: ds) (v :: vs)
end
variable {K C}
structure Ext (io : Io) (H : Hp) (io' : Io) (H' : Hp) : Prop where
  pre : ∀ (n : Nat) (a : Addr), io.l[n]? = some a → io'.l[n]? = some a
  hid : io'.h = io.h
  same : Same (Fz io H) (Fz io' H')
theorem Ext.refl (io : Io) (H : Hp) : Ext io H io H := ⟨fun _ _ h => h, rfl, fun _ _ h => h⟩
theorem Ext.trans {io io1 io2 : Io} {H H1 H2 : Hp} (a : Ext io H io1 H1) (b : Ext io1 H1 io2 H2) : Ext io H io2 H2 :=
  ⟨fun n x h => b.pre n x (a.pre n x h), b.hid.trans a.hid, a.same.trans b.same⟩
mutual
theorem Rep.mono {io io' : Io} {F F' : Hp} (hp : ∀ (n : Nat) (a : Addr), io.l[n]? = some a → io'.l[n]? = some a) (hs : Same F F') : ∀ {d : D} {v : V}, Rep K C io F d v → Rep K C io' F' d v
  | _, _, .non => .non
  | _, _, .bl b => .bl b
  | _, _, .int i => .int i
  | _, _, .str x => .str x
  | _, _, .tup h r => .tup (sqT_same hs h) (Reps.mono hp hs r)
  | _, _, .lst h r => .lst (hs.seq h) (Reps.mono hp hs r)
  | _, _, .dct h e1 e2 r => .dct (hs _ _ h) e1 e2 (Reps.mono hp hs r)
  | _, _, .loc h => .loc (hp _ _ h)
  | _, _, .dcf h e1 e2 r => .dcf (hs _ _ h) e1 e2 (Reps.mono hp hs r)
  | _, _, .dcT h e1 e2 r => .dcT (hs _ _ h) e1 e2 (Reps.mono hp hs r)
  | _, _, .exn0 h => .exn0 (hs _ _ h)
  | _, _, .exnF h h2 e1 e2 r => .exnF (hs _ _ h) (hs _ _ h2) e1 e2 (Reps.mono hp hs r)
theorem Reps.mono {io io' : Io} {F F' : Hp} (hp : ∀ (n : Nat) (a : Addr), io.l[n]? = some a → io'.l[n]? = some a) (hs : Same F F') : ∀ {ds : List D} {vs : List V}, Reps K C io F ds vs → Reps K C io' F' ds vs
  | _, _, .nil => .nil
  | _, _, .cons h r => .cons (Rep.mono hp hs h) (Reps.mono hp hs r)
end
theorem Rep.ext {io io' : Io} {H H' : Hp} (e : Ext io H io' H') {d : D} {v : V} (r : Rep K C io (Fz io H) d v) : Rep K C io' (Fz io' H') d v := r.mono e.pre e.same
theorem Reps.ext {io io' : Io} {H H' : Hp} (e : Ext io H io' H') {d : List D} {v : List V} (r : Reps K C io (Fz io H) d v) : Reps K C io' (Fz io' H') d v := r.mono e.pre e.same
theorem Reps.length {io : Io} {F : Hp} : ∀ {ds : List D} {vs : List V}, Reps K C io F ds vs → ds.length = vs.length
  | _, _, .nil => rfl
  | _, _, .cons _ r => by simp [Reps.length r]
theorem Reps.get {io : Io} {F : Hp} : ∀ {ds : List D} {vs : List V} {i : Nat} {d : D}, Reps K C io F ds vs → ds[i]? = some d → ∃ v, vs[i]? = some v ∧ Rep K C io F d v
  | _, _, 0, _, .cons h _, e => by simp at e; subst e; exact ⟨_, rfl, h⟩
  | _, _, i + 1, d, .cons _ r, e => by
    obtain ⟨v, h1, h2⟩ := Reps.get (i := i) (d := d) r (by simpa using e)
    exact ⟨v, by simpa using h1, h2⟩
theorem Reps.append {io : Io} {F : Hp} : ∀ {ds es : List D} {vs us : List V}, Reps K C io F ds vs → Reps K C io F es us → Reps K C io F (ds ++ es) (vs ++ us)
  | _, _, _, _, .nil, s => s
  | _, _, _, _, .cons h r, s => .cons h (Reps.append r s)
theorem Reps.set {io : Io} {F : Hp} {d : D} {v : V} (h : Rep K C io F d v) : ∀ {ds : List D} {vs : List V} (i : Nat), Reps K C io F ds vs → Reps K C io F (ds.set i d) (vs.set i v)
  | _, _, _, .nil => .nil
  | _, _, 0, .cons _ r => .cons h r
  | _, _, i + 1, .cons q r => .cons q (Reps.set h i r)
theorem Reps.take {io : Io} {F : Hp} : ∀ {ds : List D} {vs : List V} (n : Nat), Reps K C io F ds vs → Reps K C io F (ds.take n) (vs.take n)
  | _, _, 0, _ => .nil
  | _, _, _ + 1, .nil => .nil
  | _, _, n + 1, .cons h r => .cons h (Reps.take n r)
theorem Reps.drop {io : Io} {F : Hp} : ∀ {ds : List D} {vs : List V} (n : Nat), Reps K C io F ds vs → Reps K C io F (ds.drop n) (vs.drop n)
  | _, _, 0, r => r
  | _, _, _ + 1, .nil => .nil
  | _, _, n + 1, .cons _ r => Reps.drop n r
variable (K C) in
def ORep (io : Io) (H : Hp) (a : Addr) : MO → Prop
  | .lst ds => ∃ vs, H a = some (.lst vs) ∧ Reps K C io (Fz io H) ds vs
  | .dK ks ds => ∃ kvs, H a = some (.dK kvs) ∧ kvs.map (·.1) = ks ∧ Reps K C io (Fz io H) ds (kvs.map (·.2))
  | .dT ks ds => ∃ kvs, H a = some (.dT kvs) ∧ kvs.map (·.1) = ks ∧ Reps K C io (Fz io H) ds (kvs.map (·.2))
  | .ins c ns ds => ∃ dx fs, H a = some (.ins (C c) dx fs) ∧ H dx = some (.own a) ∧ fs.map (·.1) = ns ∧ Reps K C io (Fz io H) ds (fs.map (·.2))
def isMut : HO → Bool
  | .lst _ => true
  | .dK _ => true
  | .dT _ => true
  | .ins _ _ _ => true
  | _ => false
variable (K C) in
structure Den (io : Io) (S : Store) (H : Hp) : Prop where
  len : io.l.length = S.length
  nd : io.all.Nodup
  obj : ∀ (n : Nat) (o : MO) (a : Addr), S[n]? = some o → io.l[n]? = some a → ORep K C io H a o
  hid : ∀ p ∈ io.h, H p.1 = some p.2 ∧ isMut p.2 = true
theorem ORep.at {io : Io} {H : Hp} {a : Addr} {o : MO} (h : ORep K C io H a o) : ∃ u, H a = some u ∧ isMut u = true := by
  cases o with
  | lst ds => obtain ⟨vs, e, _⟩ := h; exact ⟨_, e, rfl⟩
  | dK ks ds => obtain ⟨vs, e, _⟩ := h; exact ⟨_, e, rfl⟩
  | dT ks ds => obtain ⟨vs, e, _⟩ := h; exact ⟨_, e, rfl⟩
  | ins c ns ds => obtain ⟨_, _, e, _⟩ := h; exact ⟨_, e, rfl⟩
theorem Den.at {io : Io} {S : Store} {H : Hp} (d : Den K C io S H) {a : Addr} (h : a ∈ io.all) : ∃ u, H a = some u ∧ isMut u = true := by
  rcases List.mem_append.mp h with h | h
  · obtain ⟨n, hn, e⟩ := List.getElem_of_mem h
    have hS : n < S.length := by rw [← d.len]; exact hn
    exact (d.obj n S[n] a (by simp [hS]) (by simp [hn, e])).at
  · obtain ⟨p, hp, rfl⟩ := List.mem_map.mp h
    exact ⟨p.2, d.hid p hp⟩
theorem Den.fresh {io : Io} {S : Store} {H : Hp} (d : Den K C io S H) {p : Addr} (h : H p = none) : p ∉ io.all := fun z => by
  obtain ⟨u, e, _⟩ := d.at z
  rw [h] at e; cases e
theorem Den.notOwn {io : Io} {S : Store} {H : Hp} (d : Den K C io S H) {p x : Addr} (h : H p = some (.own x)) : p ∉ io.all := fun z => by
  obtain ⟨u, e, m⟩ := d.at z
  rw [h] at e; cases e; cases m
theorem mem_all {io : Io} {n : Nat} {a : Addr} (h : io.l[n]? = some a) : a ∈ io.all := List.mem_append_left _ (List.mem_of_getElem? h)
theorem Fz_upd_new {io : Io} {H : Hp} {p : Addr} {o : HO} (hp : p ∉ io.all) : Fz io (upd H p o) = upd (Fz io H) p o := by
  funext b
  unfold Fz upd
  by_cases e : b = p
  · subst e; simp [hp]
  · simp [e]
theorem Fz_upd_old {io : Io} {H : Hp} {p : Addr} {o : HO} (hp : p ∈ io.all) : Fz io (upd H p o) = Fz io H := by
  funext b
  unfold Fz upd
  by_cases e : b = p
  · subst e; simp [hp]
  · simp [e]
def Io.add (io : Io) (p : Addr) : Io := ⟨io.l ++ [p], io.h⟩
theorem mem_add {io : Io} {p b : Addr} : b ∈ (io.add p).all ↔ b = p ∨ b ∈ io.all := by
  unfold Io.add Io.all
  simp only [List.mem_append, List.mem_singleton]
  constructor
  · rintro ((h | h) | h)
    · exact .inr (.inl h)
    · exact .inl h
    · exact .inr (.inr h)
  · rintro (h | h | h)
    · exact .inl (.inr h)
    · exact .inl (.inl h)
    · exact .inr h
theorem Fz_upd_loc {io : Io} {H : Hp} {p : Addr} {o : HO} (hp : H p = none) : Fz (io.add p) (upd H p o) = Fz io H := by
  funext b
  unfold Fz upd
  simp only [mem_add]
  by_cases e : b = p
  · subst e; simp [hp]
  · simp [e]
theorem same_new {H : Hp} {p : Addr} {o : HO} (h : H p = none) : Same H (upd H p o) := fun b x e => by
  rw [upd_ne (ne_of_none e h)]; exact e
theorem Ext.new {io : Io} {S : Store} {H : Hp} {p : Addr} {o : HO} (d : Den K C io S H) (h : H p = none) : Ext io H io (upd H p o) :=
  ⟨fun _ _ e => e, rfl, by rw [Fz_upd_new (d.fresh h)]; exact same_new (by rw [Fz_out (d.fresh h)]; exact h)⟩
theorem ORep.mono {io io' : Io} {S : Store} {H H' : Hp} {a : Addr} {o : MO} (d : Den K C io S H) (e : Ext io H io' H') (ha : H' a = H a) (h : ORep K C io H a o) : ORep K C io' H' a o := by
  cases o with
  | lst ds => obtain ⟨vs, q, r⟩ := h; exact ⟨vs, by rw [ha]; exact q, r.ext e⟩
  | dK ks ds => obtain ⟨vs, q, q2, r⟩ := h; exact ⟨vs, by rw [ha]; exact q, q2, r.ext e⟩
  | dT ks ds => obtain ⟨vs, q, q2, r⟩ := h; exact ⟨vs, by rw [ha]; exact q, q2, r.ext e⟩
  | ins c ns ds =>
    obtain ⟨dx, fs, q, q1, q2, r⟩ := h
    refine ⟨dx, fs, by rw [ha]; exact q, ?_, q2, r.ext e⟩
    exact Fz_same _ _ _ _ (e.same dx _ (by rw [Fz_out (d.notOwn q1)]; exact q1))
theorem hid_mem {io : Io} {p : Addr × HO} (h : p ∈ io.h) : p.1 ∈ io.all := List.mem_append_right _ (List.mem_map.mpr ⟨p, h, rfl⟩)
theorem Den.new {io : Io} {S : Store} {H : Hp} {p : Addr} {o : HO} (d : Den K C io S H) (h : H p = none) : Den K C io S (upd H p o) :=
  ⟨d.len, d.nd, fun n x a e1 e2 => by
    have e : a ≠ p := fun z => d.fresh h (z ▸ mem_all e2)
    exact (d.obj n x a e1 e2).mono d (Ext.new d h) (upd_ne e), fun q hq => by
    have e : q.1 ≠ p := fun z => d.fresh h (z ▸ hid_mem hq)
    rw [upd_ne e]; exact d.hid q hq⟩
theorem Ext.loc {io : Io} {H : Hp} {p : Addr} {o : HO} (h : H p = none) : Ext io H (io.add p) (upd H p o) :=
  ⟨fun n a e => by
    have := (List.getElem?_eq_some_iff.mp e).1
    show (io.l ++ [p])[n]? = some a
    rw [List.getElem?_append_left this]; exact e, rfl, by rw [Fz_upd_loc h]; exact fun _ _ e => e⟩
theorem nodup_add {io : Io} {p : Addr} (nd : io.all.Nodup) (h : p ∉ io.all) : (io.add p).all.Nodup := by
  unfold Io.add Io.all at *
  simp only [List.mem_append, not_or] at h
  rw [List.append_assoc]
  rw [List.nodup_append] at nd ⊢
  refine ⟨nd.1, ?_, fun a ha b hb => ?_⟩
  · rw [List.singleton_append, List.nodup_cons]
    exact ⟨h.2, nd.2.1⟩
  · rw [List.singleton_append, List.mem_cons] at hb
    rcases hb with rfl | hb
    · exact fun z => h.1 (z ▸ ha)
    · exact nd.2.2 a ha b hb
theorem Den.loc {io : Io} {S : Store} {H : Hp} {p : Addr} {o : HO} {m : MO} (d : Den K C io S H) (h : H p = none) (hm : ORep K C (io.add p) (upd H p o) p m) : Den K C (io.add p) (S ++ [m]) (upd H p o) := by
  refine ⟨by simp [Io.add, d.len], nodup_add d.nd (d.fresh h), fun n x a e1 e2 => ?_, fun q hq => ?_⟩
  · have e2' : (io.l ++ [p])[n]? = some a := e2
    by_cases hn : n < io.l.length
    · rw [List.getElem?_append_left hn] at e2'
      rw [List.getElem?_append_left (by rw [← d.len]; exact hn)] at e1
      have e : a ≠ p := fun z => d.fresh h (z ▸ mem_all e2')
      exact (d.obj n x a e1 e2').mono d (Ext.loc h) (upd_ne e)
    · have h1 : n = io.l.length := by
        have := (List.getElem?_eq_some_iff.mp e2').1
        simp at this; omega
      subst h1
      rw [List.getElem?_append_right (Nat.le_refl _)] at e2'
      rw [d.len, List.getElem?_append_right (Nat.le_refl _)] at e1
      simp at e1 e2'
      subst e1; subst e2'
      exact hm
  · have hq' : q ∈ io.h := hq
    have e : q.1 ≠ p := fun z => d.fresh h (z ▸ hid_mem hq')
    rw [upd_ne e]; exact d.hid q hq'
theorem Ext.put {io : Io} {H : Hp} {p : Addr} {o : HO} (h : p ∈ io.all) : Ext io H io (upd H p o) :=
  ⟨fun _ _ e => e, rfl, by rw [Fz_upd_old h]; exact fun _ _ e => e⟩
theorem nodup_at {io : List Addr} (nd : io.Nodup) {n m : Nat} {a : Addr} (h1 : io[n]? = some a) (h2 : io[m]? = some a) : n = m := by
  obtain ⟨p1, e1⟩ := List.getElem?_eq_some_iff.mp h1
  obtain ⟨p2, e2⟩ := List.getElem?_eq_some_iff.mp h2
  exact (List.getElem_inj nd).mp (e1.trans e2.symm)
theorem Den.put {io : Io} {S : Store} {H : Hp} {n : Nat} {p : Addr} {o : HO} {m : MO} (d : Den K C io S H) (h : io.l[n]? = some p) (hm : ORep K C io (upd H p o) p m) : Den K C io (S.set n m) (upd H p o) := by
  have nd := List.nodup_append.mp d.nd
  refine ⟨by simp [d.len], d.nd, fun k x a e1 e2 => ?_, fun q hq => ?_⟩
  · by_cases hk : k = n
    · subst hk
      rw [h] at e2
      cases e2
      rw [List.getElem?_set_self (by have := (List.getElem?_eq_some_iff.mp h).1; rw [← d.len]; exact this)] at e1
      cases e1
      exact hm
    · rw [List.getElem?_set_ne (Ne.symm hk)] at e1
      have e : a ≠ p := fun z => hk (nodup_at nd.1 e2 (z ▸ h))
      exact (d.obj k x a e1 e2).mono d (Ext.put (mem_all h)) (upd_ne e)
  · have e : q.1 ≠ p := fun z => nd.2.2 p (List.mem_of_getElem? h) q.1 (List.mem_map.mpr ⟨q, hq, rfl⟩) z.symm
    rw [upd_ne e]; exact d.hid q hq
theorem ORep.same {io io' : Io} {S : Store} {H H' : Hp} {a : Addr} {o : MO} (d : Den K C io S H) (hl : io'.l = io.l) (hs : Same (Fz io H) (Fz io' H')) (ha : H' a = H a) (h : ORep K C io H a o) : ORep K C io' H' a o := by
  have hp : ∀ (n : Nat) (a : Addr), io.l[n]? = some a → io'.l[n]? = some a := fun n a e => by rw [hl]; exact e
  cases o with
  | lst ds => obtain ⟨vs, q, r⟩ := h; exact ⟨vs, by rw [ha]; exact q, r.mono hp hs⟩
  | dK ks ds => obtain ⟨vs, q, q2, r⟩ := h; exact ⟨vs, by rw [ha]; exact q, q2, r.mono hp hs⟩
  | dT ks ds => obtain ⟨vs, q, q2, r⟩ := h; exact ⟨vs, by rw [ha]; exact q, q2, r.mono hp hs⟩
  | ins c ns ds =>
    obtain ⟨dx, fs, q, q1, q2, r⟩ := h
    refine ⟨dx, fs, by rw [ha]; exact q, ?_, q2, r.mono hp hs⟩
    exact Fz_same _ _ _ _ (hs dx _ (by rw [Fz_out (d.notOwn q1)]; exact q1))
end Ev
namespace Ev
open PySem PySem.Spec L2
structure Slots (K : PySem.W.Frag) (C : Nat → Addr) (io : Io) (F : Hp) (e : Env) (sg : St) : Prop where
  len : e.length = sg.length
  get : ∀ (i : Nat) (d : D), e[i]? = some (some d) → ∃ v, sg[i]? = some (some v) ∧ Rep K C io F d v
theorem Slots.ext {K : PySem.W.Frag} {C : Nat → Addr} {io io' : Io} {H H' : Hp} {e : Env} {sg : St} (x : Ext io H io' H') (s : Slots K C io (Fz io H) e sg) : Slots K C io' (Fz io' H') e sg :=
  ⟨s.len, fun i d h => let ⟨v, h1, h2⟩ := s.get i d h; ⟨v, h1, h2.ext x⟩⟩
theorem Slots.set {K : PySem.W.Frag} {C : Nat → Addr} {io : Io} {F : Hp} {e : Env} {sg : St} {d : D} {v : V} (s : Slots K C io F e sg) (i : Nat) (r : Rep K C io F d v) : Slots K C io F (e.set i (some d)) (sg.set i (some v)) := by
  refine ⟨by simp [s.len], fun j x h => ?_⟩
  by_cases hj : j = i
  · subst hj
    by_cases hl : j < e.length
    · rw [List.getElem?_set_self hl] at h
      cases h
      exact ⟨v, by rw [List.getElem?_set_self (by rw [← s.len]; exact hl)], r⟩
    · rw [List.getElem?_eq_none (by simp; omega)] at h; cases h
  · rw [List.getElem?_set_ne (Ne.symm hj)] at h
    obtain ⟨u, h1, h2⟩ := s.get j x h
    exact ⟨u, by rw [List.getElem?_set_ne (Ne.symm hj)]; exact h1, h2⟩
theorem Slots.none {K : PySem.W.Frag} {C : Nat → Addr} {io : Io} {F : Hp} {e : Env} {sg : St} (s : Slots K C io F e sg) (i : Nat) : Slots K C io F (e.set i none) (sg.set i none) := by
  refine ⟨by simp [s.len], fun j x h => ?_⟩
  by_cases hj : j = i
  · subst hj
    by_cases hl : j < e.length
    · rw [List.getElem?_set_self hl] at h; cases h
    · rw [List.getElem?_eq_none (by simp; omega)] at h; cases h
  · rw [List.getElem?_set_ne (Ne.symm hj)] at h
    obtain ⟨u, h1, h2⟩ := s.get j x h
    exact ⟨u, by rw [List.getElem?_set_ne (Ne.symm hj)]; exact h1, h2⟩
def XR (K : PySem.W.Frag) (C : Nat → Addr) (io : Io) (H : Hp) (x : Exn) (cls : Value) (dd : Option Addr) : Prop :=
  cls = .ref (C x.c) ∧ ((x.ns = [] ∧ x.xs = [] ∧ dd = none) ∨ ∃ d fs, dd = some d ∧ H d = some (.xd fs) ∧ fs.map (·.1) = x.ns ∧ Reps K C io (Fz io H) x.xs (fs.map (·.2)))
def Post {A B : Type} (K : PySem.W.Frag) (C : Nat → Addr) (R : Io → Hp → A → B → Prop) (W : WX) (sg : St) (io : Io) (H : Hp) (r : Res A) (Q : B → Hp → Prop) : Prop :=
  match r with
  | .ok a S => ∀ b H' io', Ext io H io' H' → Den K C io' S H' → R io' (Fz io' H') a b → Q b H'
  | .err x S => ∀ cls dd H' io', Ext io H io' H' → Den K C io' S H' → XR K C io' H' x cls dd → W cls dd sg H'
  | .bad => False
abbrev RepR (K : PySem.W.Frag) (C : Nat → Addr) : Io → Hp → D → V → Prop := fun io F d v => Rep K C io F d v
abbrev RepsR (K : PySem.W.Frag) (C : Nat → Addr) : Io → Hp → List D → List V → Prop := fun io F d v => Reps K C io F d v
abbrev EqR {A : Type} : Io → Hp → A → A → Prop := fun _ _ a b => a = b
section
variable {K : PySem.W.Frag} {C : Nat → Addr} {A B A' B' : Type} {R : Io → Hp → A → B → Prop} {R' : Io → Hp → A' → B' → Prop} {W : WX} {sg : St} {io io' : Io} {H H' : Hp} {r : Res A} {Q Q' : B → Hp → Prop}
theorem Post.ext (e : Ext io H io' H') (h : Post K C R W sg io H r Q) : Post K C R W sg io' H' r Q := by
  cases r with
  | ok a S => exact fun b H2 io2 x d q => h b H2 io2 (e.trans x) d q
  | err x S => exact fun c dd H2 io2 x' d q => h c dd H2 io2 (e.trans x') d q
  | bad => exact h
theorem Post.mono (h : Post K C R W sg io H r Q) (m : ∀ b H', Q b H' → Q' b H') : Post K C R W sg io H r Q' := by
  cases r with
  | ok a S => exact fun b H2 io2 x d q => m _ _ (h b H2 io2 x d q)
  | err x S => exact h
  | bad => exact h
theorem Post.bind {k : A → Store → Res A'} {Q : B' → Hp → Prop} (h : Post K C R' W sg io H (r.bind k) Q) :
    Post K C R W sg io H r (fun b H1 => ∃ io1 S1 a, Ext io H io1 H1 ∧ Den K C io1 S1 H1 ∧ R io1 (Fz io1 H1) a b ∧ Post K C R' W sg io1 H1 (k a S1) Q) := by
  cases r with
  | ok a S => exact fun b H2 io2 x d q => ⟨io2, S, a, x, d, q, Post.ext x h⟩
  | err x S => exact h
  | bad => exact h
theorem Post.ofO {o : Option A} {S : Store} (h : Post K C R W sg io H (ofO o S) Q) : ∃ a, o = some a ∧ ∀ b H' io', Ext io H io' H' → Den K C io' S H' → R io' (Fz io' H') a b → Q b H' := by
  cases o with
  | some a => exact ⟨a, rfl, h⟩
  | none => exact h.elim
theorem Post.here {a : A} {S : Store} {b : B} (h : Post K C R W sg io H (.ok a S) Q) (d : Den K C io S H) (q : R io (Fz io H) a b) : Q b H := h b H io (Ext.refl io H) d q
end
abbrev RE := Env → Store → Res D
abbrev RT := Env → Store → Res Bool
abbrev RA := Env → Store → Res (List D)
def tR {A B : Type} (K : PySem.W.Frag) (C : Nat → Addr) (R : Io → Hp → A → B → Prop) (W : WX) (r : Env → Store → Res A) : St → Hp → (B → Hp → Prop) → Prop := fun sg H Q =>
  ∃ (e : Env) (S : Store) (io : Io), Den K C io S H ∧ Slots K C io (Fz io H) e sg ∧ Post K C R W sg io H (r e S) Q
abbrev tE (K : PySem.W.Frag) (C : Nat → Addr) (W : WX) (r : RE) : TE := tR K C (RepR K C) W r
abbrev tT (K : PySem.W.Frag) (C : Nat → Addr) (W : WX) (r : RT) : TT := tR K C EqR W r
abbrev tA (K : PySem.W.Frag) (C : Nat → Addr) (W : WX) (r : RA) : TA := tR K C (RepsR K C) W r
section
variable {K : PySem.W.Frag} {C : Nat → Addr} {A B A' B' A2 B2 : Type} {R : Io → Hp → A → B → Prop} {R' : Io → Hp → A' → B' → Prop} {R2 : Io → Hp → A2 → B2 → Prop} {W : WX} {sg : St} {H : Hp}
theorem tR.mono {r : Env → Store → Res A} {Q Q' : B → Hp → Prop} (h : tR K C R W r sg H Q) (m : ∀ b H', Q b H' → Q' b H') : tR K C R W r sg H Q' := by
  obtain ⟨e, S, io, d, s, p⟩ := h
  exact ⟨e, S, io, d, s, p.mono m⟩
theorem tR.seq1 {r : Env → Store → Res A} {r' : Env → Store → Res A'} {Q : B' → Hp → Prop} (k : Env → A → Store → Res A') (h : tR K C R' W r' sg H Q) (e' : ∀ e S, r' e S = (r e S).bind (k e)) :
    tR K C R W r sg H fun b H1 => ∃ e S io a, Den K C io S H1 ∧ Slots K C io (Fz io H1) e sg ∧ R io (Fz io H1) a b ∧ Post K C R' W sg io H1 (k e a S) Q := by
  obtain ⟨e, S, io, d, s, p⟩ := h
  rw [e'] at p
  exact ⟨e, S, io, d, s, p.bind.mono fun b H1 ⟨io1, S1, a, x, d1, q, p1⟩ => ⟨e, S1, io1, a, d1, s.ext x, q, p1⟩⟩
theorem tR.seq2 {r : Env → Store → Res A} {r2 : Env → Store → Res A2} {r' : Env → Store → Res A'} (hm : ∀ {io io' H H' a b}, Ext io H io' H' → R io (Fz io H) a b → R io' (Fz io' H') a b) {Q : B' → Hp → Prop} (k : Env → A → A2 → Store → Res A')
    (h : tR K C R' W r' sg H Q) (e' : ∀ e S, r' e S = (r e S).bind fun a S1 => (r2 e S1).bind (k e a)) :
    tR K C R W r sg H fun b H1 => tR K C R2 W r2 sg H1 fun b2 H2 => ∃ e S io a a2, Den K C io S H2 ∧ Slots K C io (Fz io H2) e sg ∧ R io (Fz io H2) a b ∧ R2 io (Fz io H2) a2 b2 ∧ Post K C R' W sg io H2 (k e a a2 S) Q := by
  obtain ⟨e, S, io, d, s, p⟩ := h
  rw [e'] at p
  refine ⟨e, S, io, d, s, p.bind.mono fun b H1 ⟨io1, S1, a, x, d1, q, p1⟩ => ?_⟩
  exact ⟨e, S1, io1, d1, s.ext x, p1.bind.mono fun b2 H2 ⟨io2, S2, a2, x2, d2, q2, p2⟩ => ⟨e, S2, io2, a, a2, d2, (s.ext x).ext x2, hm x2 q, q2, p2⟩⟩
theorem bind_assoc {A B E : Type} (r : Res A) (f : A → Store → Res B) (g : B → Store → Res E) : (r.bind f).bind g = r.bind fun a S => (f a S).bind g := by cases r <;> rfl
end
theorem repM {K : PySem.W.Frag} {C : Nat → Addr} {io io' : Io} {H H' : Hp} {a : D} {b : V} (x : Ext io H io' H') (h : RepR K C io (Fz io H) a b) : RepR K C io' (Fz io' H') a b := Rep.ext x h
theorem _root_.L2.PE.imp {X : Cx} {e : Expr} {t t' : TE} (h : PE X e t) (hi : ∀ sg H Q, t' sg H Q → t sg H Q) : PE X e t' := ⟨fun pins s sg H Q I hw => h.run pins s sg H Q I (hi _ _ _ hw)⟩
theorem _root_.L2.PT.imp {X : Cx} {e : Expr} {t t' : TT} (h : PT X e t) (hi : ∀ sg H Q, t' sg H Q → t sg H Q) : PT X e t' := ⟨fun pins s sg H Q I hw => h.run pins s sg H Q I (hi _ _ _ hw)⟩
theorem _root_.L2.PW.imp {X : Cx} {e : Expr} {t t' : TT} (h : PW X e t) (hi : ∀ sg H Q, t' sg H Q → t sg H Q) : PW X e t' := ⟨fun wh pins s sg H Q I hw => h.run wh pins s sg H Q I (hi _ _ _ hw)⟩
theorem _root_.L2.PA.imp {X : Cx} {e : List Expr} {t t' : TA} (h : PA X e t) (hi : ∀ sg H Q, t' sg H Q → t sg H Q) : PA X e t' := ⟨fun p pins s sg H Q I hw => h.run p pins s sg H Q I (hi _ _ _ hw)⟩
theorem _root_.L2.PS.imp {X : Cx} {e : Stmt} {t t' : TS} (h : PS X e t) (hi : ∀ D sg H, t' D sg H → t D sg H) : PS X e t' := ⟨fun pins s sg H D I hw => h.run pins s sg H D I (hi _ _ _ hw)⟩
theorem _root_.L2.PSs.imp {X : Cx} {e : List Stmt} {t t' : TS} (h : PSs X e t) (hi : ∀ D sg H, t' D sg H → t D sg H) : PSs X e t' := ⟨fun pins s sg H D I hw => h.run pins s sg H D I (hi _ _ _ hw)⟩
theorem _root_.L2.PE.or {X : Cx} {e : Expr} {t t' : TE} (h : PE X e t) (h' : PE X e t') : PE X e (fun sg H Q => t sg H Q ∨ t' sg H Q) := ⟨fun pins s sg H Q I hw => hw.elim (h.run pins s sg H Q I) (h'.run pins s sg H Q I)⟩
def OpD (X : Cx) (C : Nat → Addr) (g : Value → Value → Sem Value) (f : Store → D → D → Option D) : Prop :=
  OpR X g (fun x y H Q => ∃ io S a b d, Den X.K C io S H ∧ Rep X.K C io (Fz io H) a x ∧ Rep X.K C io (Fz io H) b y ∧ f S a b = some d ∧ ∀ v H' io', Ext io H io' H' → Den X.K C io' S H' → Rep X.K C io' (Fz io' H') d v → Q v H')
def UnD (X : Cx) (C : Nat → Addr) (g : Value → Sem Value) (f : Store → D → Option D) : Prop :=
  UnR X g (fun x H Q => ∃ io S a d, Den X.K C io S H ∧ Rep X.K C io (Fz io H) a x ∧ f S a = some d ∧ ∀ v H' io', Ext io H io' H' → Den X.K C io' S H' → Rep X.K C io' (Fz io' H') d v → Q v H')
def CallD (X : Cx) (C : Nat → Addr) (g : Value) (f : Store → List D → Option D) : Prop :=
  CallR X g (fun xs H Q => ∃ io S as d, Den X.K C io S H ∧ Reps X.K C io (Fz io H) as xs ∧ f S as = some d ∧ ∀ v H' io', Ext io H io' H' → Den X.K C io' S H' → Rep X.K C io' (Fz io' H') d v → Q v H')
def rBin (f : Store → D → D → Option D) (a b : RE) : RE := fun e S => (a e S).bind fun x S1 => (b e S1).bind fun y S2 => ofO (f S2 x y) S2
def rUn (f : Store → D → Option D) (a : RE) : RE := fun e S => (a e S).bind fun x S1 => ofO (f S1 x) S1
def rCal (f : Store → List D → Option D) (a : RA) : RE := fun e S => (a e S).bind fun xs S1 => ofO (f S1 xs) S1
section
variable {X : Cx} {C : Nat → Addr} {W : WX} {a b : Expr} {ra rb : RE} {pos : Pos}
theorem ee_op {op : Operator} {f : Store → D → D → Option D} (ho : OpD X C (binaryOp op) f) (ha : PE X a (tE X.K C W ra)) (hb : PE X b (tE X.K C W rb)) : PE X (.BinOp a op b pos) (tE X.K C W (rBin f ra rb)) :=
  (pe_op ho ha hb).imp fun sg H Q h => (tR.seq2 repM (fun _ x y S => ofO (f S x y) S) h fun _ _ => rfl).mono fun x H1 h1 => h1.mono fun y H2 ⟨e, S, io, x1, y1, d, s, r1, r2, p⟩ => by
    obtain ⟨z, ez, p⟩ := p.ofO
    exact ⟨io, S, x1, y1, z, d, r1, r2, ez, p⟩
theorem ee_un {op : UnaryOp} {f : Store → D → Option D} (ho : UnD X C (unaryOp op) f) (ha : PE X a (tE X.K C W ra)) : PE X (.UnaryOp op a pos) (tE X.K C W (rUn f ra)) :=
  (pe_un ho ha).imp fun sg H Q h => (tR.seq1 (fun _ x S => ofO (f S x) S) h fun _ _ => rfl).mono fun x H1 ⟨e, S, io, x1, d, s, r1, p⟩ => by
    obtain ⟨z, ez, p⟩ := p.ofO
    exact ⟨io, S, x1, z, d, r1, ez, p⟩
theorem ee_cmp {op : CmpOp} {f : Store → D → D → Option D} (ho : OpD X C (compareOp op) f) (ha : PE X a (tE X.K C W ra)) (hb : PE X b (tE X.K C W rb)) (hm : behindInMarks op b = false) : PE X (.Compare a [op] [b] pos) (tE X.K C W (rBin f ra rb)) :=
  (pe_cmpR ho ha hb hm).imp fun sg H Q h => (tR.seq2 repM (fun _ x y S => ofO (f S x y) S) h fun _ _ => rfl).mono fun x H1 h1 => h1.mono fun y H2 ⟨e, S, io, x1, y1, d, s, r1, r2, p⟩ => by
    obtain ⟨z, ez, p⟩ := p.ofO
    exact ⟨io, S, x1, y1, z, d, r1, r2, ez, p⟩
def asB : D → Option Bool
  | .bl b => some b
  | _ => none
def rTest (a : RE) : RT := fun e S => (a e S).bind fun x S1 => ofO (asB x) S1
theorem asB_rep {K : PySem.W.Frag} {C : Nat → Addr} {io : Io} {F : Hp} {d : D} {v : V} {k : Bool} (h : asB d = some k) (r : Rep K C io F d v) : v = .bl k := by
  cases d <;> cases h
  cases r
  rfl
theorem tTest_of {t : TE} {r : RE} (h1 : ∀ sg H Q, tE X.K C W r sg H Q → t sg H Q) (sg : L2.St) (H : Hp) (Q : Bool → Hp → Prop) (h : tT X.K C W (rTest r) sg H Q) : tTest t sg H Q :=
  h1 sg H _ ((tR.seq1 (R := RepR X.K C) (r := r) (fun _ x S => ofO (asB x) S) h fun _ _ => rfl).mono fun x H1 ⟨e, S, io, x1, d, s, r1, p⟩ => by
    obtain ⟨k, ek, p⟩ := p.ofO
    exact ⟨k, asB_rep ek r1, p k H1 io (Ext.refl _ _) d rfl⟩)
theorem et_cmp {op : CmpOp} {f : Store → D → D → Option D} (ho : OpD X C (compareOp op) f) (ha : PE X a (tE X.K C W ra)) (hb : PE X b (tE X.K C W rb)) (hm : behindInMarks op b = false) : PT X (.Compare a [op] [b] pos) (tT X.K C W (rTest (rBin f ra rb))) :=
  (pt_cmpR ho ha hb hm).imp (tTest_of fun sg H Q h => (tR.seq2 repM (fun _ x y S => ofO (f S x y) S) h fun _ _ => rfl).mono fun x H1 h1 => h1.mono fun y H2 ⟨e, S, io, x1, y1, d, s, r1, r2, p⟩ => by
    obtain ⟨z, ez, p⟩ := p.ofO
    exact ⟨io, S, x1, y1, z, d, r1, r2, ez, p⟩)
end
end Ev
namespace Ev
open PySem PySem.Spec L2
def rVar (i : Nat) : RE := fun e S => match e[i]? with
  | some (some d) => .ok d S
  | _ => .bad
def rCon (d : D) : RE := fun _ S => .ok d S
section
variable {X : Cx} {C : Nat → Addr} {W : WX}
theorem ee_var (i : Nat) {x : Str} {pos : Pos} (hN : X.N[i]? = some x := by rfl) (hv : Vis X.env.scope x := by first | exact Or.inl rfl | exact Or.inr (Or.inl rfl) | exact Or.inr (Or.inr rfl)) (hd : (x == ("__debug__" : Str)) = false := by decide)
    (hcd : (x == ("__classdict__" : Str)) = false := by decide) : PE X (.Name x pos) (tE X.K C W (rVar i)) :=
  (pv i hN hv hd hcd).imp fun sg H Q h => by
    obtain ⟨e, S, io, d, s, p⟩ := h
    unfold rVar at p
    split at p
    · rename_i y ey
      obtain ⟨v, h1, h2⟩ := s.get i y ey
      exact ⟨v, h1, p.here d h2⟩
    · exact p.elim
theorem ee_con {v : V} {d : D} {e : Expr} (h : PE X e (tC v)) (r : ∀ io F, Rep X.K C io F d v) : PE X e (tE X.K C W (rCon d)) :=
  h.imp fun sg H Q h => by
    obtain ⟨e, S, io, d, s, p⟩ := h
    exact p.here d (r _ _)
theorem ee_int {i j pos} : PE X (.Constant (.int i) j pos) (tE X.K C W (rCon (.int i))) := ee_con pe_int fun _ _ => .int i
theorem ee_bl {i j pos} : PE X (.Constant (.bool i) j pos) (tE X.K C W (rCon (.bl i))) := ee_con pe_bl fun _ _ => .bl i
theorem ee_glob {x : Str} {v : V} {u : Value} {d : D} {pos : Pos} (hg : Gl X x) (hm : X.mg x = some u) (r : RelV v u) (rd : ∀ io F, Rep X.K C io F d v) (hd : (x == ("__debug__" : Str)) = false := by decide) : PE X (.Name x pos) (tE X.K C W (rCon d)) :=
  ee_con (pe_glob hg hm r hd) rd
end
def asL (S : Store) : D → Option (List D)
  | .lst xs => some xs
  | .loc n => match S[n]? with
    | some (.lst xs) => some xs
    | _ => none
  | _ => none
theorem asL_rep {K : PySem.W.Frag} {C : Nat → Addr} {io : Io} {S : Store} {H : Hp} {d : D} {v : V} {xs : List D} (h : asL S d = some xs) (dn : Den K C io S H) (r : Rep K C io (Fz io H) d v) :
    ∃ a vs, v = .ref a ∧ SqL K H a vs ∧ Reps K C io (Fz io H) xs vs := by
  cases r with
  | lst q rs => cases h; exact ⟨_, _, rfl, (Fz_same _ _).seq q, rs⟩
  | @loc n a q =>
    simp only [asL] at h
    split at h
    · rename_i ys e
      cases h
      obtain ⟨vs, h1, h2⟩ := dn.obj n _ a e q
      exact ⟨a, vs, rfl, .of h1, h2⟩
    · cases h
  | _ => cases h
theorem SqL.len {X : Cx} {pins : List (Addr × Obj)} {sg : L2.St} {H : Hp} {s : Shared} {a : Addr} {vs : List V} (I : Inv X pins sg H s) (h : SqL X.K H a vs) : vs.length ≤ sizeLine := let ⟨_, _, _, z⟩ := I.list h; z
def truthD (S : Store) : D → Option Bool
  | .non => some false
  | .bl b => some b
  | .int i => some (i != 0)
  | .str x => if x.length ≤ sizeLine then some ((x.length : Int) != 0) else none
  | .tup xs => some (!xs.isEmpty)
  | .lst xs => some (!xs.isEmpty)
  | .dct ks _ => some (!ks.isEmpty)
  | .loc n => match S[n]? with
    | some (.lst xs) => some (!xs.isEmpty)
    | some (.dK ks _) => some (!ks.isEmpty)
    | _ => none
  | .exn _ _ _ => none
  | .dcf _ _ => none
  | .dcT _ _ => none
theorem isEmpty_len {A B : Type} {xs : List A} {ys : List B} (h : xs.length = ys.length) : xs.isEmpty = ys.isEmpty := by
  cases xs <;> cases ys <;> first | rfl | cases h
theorem truth_rep {K : PySem.W.Frag} {C : Nat → Addr} {io : Io} {S : Store} {H : Hp} {d : D} {v : V} {k : Bool} (h : truthD S d = some k) (dn : Den K C io S H) (r : Rep K C io (Fz io H) d v) : TruV K v H k := by
  cases r with
  | non => cases h; rfl
  | bl => cases h; rfl
  | int => cases h; rfl
  | str x =>
    simp only [truthD] at h
    split at h
    · cases h; exact ⟨by assumption, rfl⟩
    · cases h
  | tup q rs => cases h; exact .inr (.inl ⟨_, sqT_same (Fz_same _ _) q, by rw [isEmpty_len rs.length]⟩)
  | lst q rs => cases h; exact .inl ⟨_, (Fz_same _ _).seq q, by rw [isEmpty_len rs.length]⟩
  | dcf _ _ _ _ => cases h
  | dcT _ _ _ _ => cases h
  | dct q e1 e2 rs => cases h; subst e1; exact .inr (.inr ⟨_, Fz_same _ _ _ _ q, by rw [isEmpty_len (List.length_map ..)]⟩)
  | @loc n a q =>
    simp only [truthD] at h
    split at h
    · rename_i ys e
      cases h
      obtain ⟨vs, h1, h2⟩ := dn.obj n _ a e q
      exact .inl ⟨vs, .of h1, by rw [isEmpty_len h2.length]⟩
    · rename_i ks ys e
      cases h
      obtain ⟨kvs, h1, h2, h3⟩ := dn.obj n _ a e q
      subst h2
      exact .inr (.inr ⟨kvs, h1, by rw [isEmpty_len (List.length_map ..)]⟩)
    · cases h
  | exn0 => cases h
  | exnF => cases h
def rTruth (a : RE) : RT := fun e S => (a e S).bind fun x S1 => ofO (truthD S1 x) S1
def rAndT (a b : RT) : RT := fun e S => (a e S).bind fun k S1 => if k = true then b e S1 else .ok false S1
def rOrT (a b : RT) : RT := fun e S => (a e S).bind fun k S1 => if k = true then .ok true S1 else b e S1
def rNotT (a : RT) : RT := fun e S => (a e S).bind fun k S1 => .ok (!k) S1
def rAnd (a b : RE) : RE := fun e S => (a e S).bind fun x S1 => (ofO (truthD S1 x) S1).bind fun k S2 => if k = true then b e S2 else .ok x S2
def rOr (a b : RE) : RE := fun e S => (a e S).bind fun x S1 => (ofO (truthD S1 x) S1).bind fun k S2 => if k = true then .ok x S2 else b e S2
def rNot (a : RE) : RE := fun e S => (a e S).bind fun x S1 => (ofO (truthD S1 x) S1).bind fun k S2 => .ok (.bl (!k)) S2
def rIf (t : RT) (a b : RE) : RE := fun e S => (t e S).bind fun k S1 => if k = true then a e S1 else b e S1
section
variable {X : Cx} {C : Nat → Addr} {W : WX} {a b c : Expr} {ra rb : RE} {ta tb tc : RT} {rest : List Expr} {pos : Pos}
theorem et_val (ha : PE X a (tE X.K C W ra)) (he : ∀ whole, isTrue a X.env whole = (do let v ← whole; standAt a.pos; holding [v] (truthy v)) := by intro _; rfl) : PT X a (tT X.K C W (rTruth ra)) :=
  (pt_truth ha he).imp fun sg H Q h => (tR.seq1 (fun _ x S => ofO (truthD S x) S) h fun _ _ => rfl).mono fun x H1 ⟨e, S, io, x1, d, s, r1, p⟩ => by
    obtain ⟨k, ek, p⟩ := p.ofO
    exact ⟨k, truth_rep ek d r1, p k H1 io (Ext.refl _ _) d rfl⟩
theorem et_and1 (ha : PT X a (tT X.K C W ta)) : PW X (.BoolOp .And [a] pos) (tT X.K C W ta) := pw_and1 ha
theorem et_or1 (ha : PT X a (tT X.K C W ta)) : PW X (.BoolOp .Or [a] pos) (tT X.K C W ta) := pw_or1 ha
theorem et_and (ha : PT X a (tT X.K C W ta)) (hb : PW X (.BoolOp .And (b :: rest) pos) (tT X.K C W tb)) : PW X (.BoolOp .And (a :: b :: rest) pos) (tT X.K C W (rAndT ta tb)) :=
  (pw_and ha hb).imp fun sg H Q h => (tR.seq1 (R := EqR) (fun e k S1 => if k = true then tb e S1 else .ok false S1) h fun _ _ => rfl).mono fun x H1 ⟨e, S, io, x1, d, s, r1, p⟩ => by
    cases r1
    cases x with
    | true => exact ⟨e, S, io, d, s, p⟩
    | false => exact p false H1 io (Ext.refl _ _) d rfl
theorem et_or (ha : PT X a (tT X.K C W ta)) (hb : PW X (.BoolOp .Or (b :: rest) pos) (tT X.K C W tb)) : PW X (.BoolOp .Or (a :: b :: rest) pos) (tT X.K C W (rOrT ta tb)) :=
  (pw_or ha hb).imp fun sg H Q h => (tR.seq1 (R := EqR) (fun e k S1 => if k = true then .ok true S1 else tb e S1) h fun _ _ => rfl).mono fun x H1 ⟨e, S, io, x1, d, s, r1, p⟩ => by
    cases r1
    cases x with
    | true => exact p true H1 io (Ext.refl _ _) d rfl
    | false => exact ⟨e, S, io, d, s, p⟩
theorem et_not (ha : PT X a (tT X.K C W ta)) : PT X (.UnaryOp .Not a pos) (tT X.K C W (rNotT ta)) :=
  (pt_not ha).imp fun sg H Q h => (tR.seq1 (R := EqR) (fun e k S1 => .ok (!k) S1) h fun _ _ => rfl).mono fun x H1 ⟨e, S, io, x1, d, s, r1, p⟩ => by
    cases r1
    exact p _ H1 io (Ext.refl _ _) d rfl
theorem ee_one {op} (h : PE X a (tE X.K C W ra)) : PE X (.BoolOp op [a] pos) (tE X.K C W ra) := pe_one h
theorem ee_and (ha : PE X a (tE X.K C W ra)) (hb : PE X (.BoolOp .And (b :: rest) pos) (tE X.K C W rb)) : PE X (.BoolOp .And (a :: b :: rest) pos) (tE X.K C W (rAnd ra rb)) :=
  (pe_andT ha hb).imp fun sg H Q h => (tR.seq1 (R := RepR X.K C) (fun e x S1 => (ofO (truthD S1 x) S1).bind fun k S2 => if k = true then rb e S2 else .ok x S2) h fun _ _ => rfl).mono fun x H1 ⟨e, S, io, x1, d, s, r1, p⟩ => by
    cases ek : truthD S x1 with
    | none => simp only [ek, ofO, Res.bind] at p; exact p.elim
    | some k =>
      simp only [ek, ofO, Res.bind] at p
      refine ⟨k, truth_rep ek d r1, ?_⟩
      cases k with
      | true => exact ⟨e, S, io, d, s, p⟩
      | false => exact p _ H1 io (Ext.refl _ _) d r1
theorem ee_not (ha : PE X a (tE X.K C W ra)) : PE X (.UnaryOp .Not a pos) (tE X.K C W (rNot ra)) :=
  (pe_notT ha).imp fun sg H Q h => (tR.seq1 (R := RepR X.K C) (fun e x S1 => (ofO (truthD S1 x) S1).bind fun k S2 => .ok (.bl (!k)) S2) h fun _ _ => rfl).mono fun x H1 ⟨e, S, io, x1, d, s, r1, p⟩ => by
    cases ek : truthD S x1 with
    | none => simp only [ek, ofO, Res.bind] at p; exact p.elim
    | some k =>
      simp only [ek, ofO, Res.bind] at p
      exact ⟨k, truth_rep ek d r1, p _ H1 io (Ext.refl _ _) d (.bl _)⟩
end
def rNil : RA := fun _ S => .ok [] S
def rCons (a : RE) (r : RA) : RA := fun e S => (a e S).bind fun x S1 => (r e S1).bind fun xs S2 => .ok (x :: xs) S2
def AL (n : Nat) (r : RA) : Prop := ∀ e S xs S', r e S = .ok xs S' → xs.length = n
theorem al_nil : AL 0 rNil := fun e S xs S' h => by cases h; rfl
theorem al_cons {n : Nat} {a : RE} {r : RA} (h : AL n r) : AL (n + 1) (rCons a r) := fun e S xs S' q => by
  unfold rCons at q
  cases h1 : a e S with
  | ok x S1 =>
    rw [h1] at q
    simp only [Res.bind] at q
    cases h2 : r e S1 with
    | ok ys S2 =>
      rw [h2] at q
      cases q
      simp [h e S1 ys _ h2]
    | err x S2 => rw [h2] at q; cases q
    | bad => rw [h2] at q; cases q
  | err x S1 => rw [h1] at q; cases q
  | bad => rw [h1] at q; cases q
def rTup (r : RA) : RE := fun e S => (r e S).bind fun xs S1 => .ok (.tup xs) S1
def rLst (r : RA) : RE := fun e S => (r e S).bind fun xs S1 => .ok (.lst xs) S1
def rLstM (r : RA) : RE := fun e S => (r e S).bind fun xs S1 => .ok (.loc S1.length) (S1 ++ [.lst xs])
section
variable {X : Cx} {C : Nat → Addr} {W : WX} {a : Expr} {es : List Expr} {ra : RE} {rs : RA} {pos : Pos}
theorem ea_nil : PA X [] (tA X.K C W rNil) := pa_nil.imp fun sg H Q h => by
  obtain ⟨e, S, io, d, s, p⟩ := h
  exact p.here d .nil
theorem ea_cons (ha : PE X a (tE X.K C W ra)) (hr : PA X es (tA X.K C W rs)) (hs : starEach (a :: es) X.env = (false, eval a X.env) :: starEach es X.env := by rfl) : PA X (a :: es) (tA X.K C W (rCons ra rs)) :=
  (pa_cons ha hr hs).imp fun sg H Q h => (tR.seq2 repM (fun _ x xs S => .ok (x :: xs) S) h fun _ _ => rfl).mono fun x H1 h1 => h1.mono fun y H2 ⟨e, S, io, x1, y1, d, s, r1, r2, p⟩ =>
    p _ H2 io (Ext.refl _ _) d (.cons r1 r2)
theorem new_tup {K : PySem.W.Frag} {C : Nat → Addr} {io : Io} {S : Store} {H : Hp} {xs : List D} {vs : List V} {p : Addr} (d : Den K C io S H) (r : Reps K C io (Fz io H) xs vs) (hp : H p = none) :
    Ext io H io (upd H p (.tup vs)) ∧ Den K C io S (upd H p (.tup vs)) ∧ Rep K C io (Fz io (upd H p (.tup vs))) (.tup xs) (.ref p) :=
  ⟨Ext.new d hp, d.new hp, .tup (.inl (.inl (by rw [Fz_out (d.fresh hp)]; exact upd_same))) (r.ext (Ext.new d hp))⟩
theorem new_lst {K : PySem.W.Frag} {C : Nat → Addr} {io : Io} {S : Store} {H : Hp} {xs : List D} {vs : List V} {p : Addr} (d : Den K C io S H) (r : Reps K C io (Fz io H) xs vs) (hp : H p = none) :
    Ext io H io (upd H p (.lst vs)) ∧ Den K C io S (upd H p (.lst vs)) ∧ Rep K C io (Fz io (upd H p (.lst vs))) (.lst xs) (.ref p) :=
  ⟨Ext.new d hp, d.new hp, .lst (.inl (.inl (by rw [Fz_out (d.fresh hp)]; exact upd_same))) (r.ext (Ext.new d hp))⟩
theorem new_lstM {K : PySem.W.Frag} {C : Nat → Addr} {io : Io} {S : Store} {H : Hp} {xs : List D} {vs : List V} {p : Addr} (d : Den K C io S H) (r : Reps K C io (Fz io H) xs vs) (hp : H p = none) :
    Ext io H (io.add p) (upd H p (.lst vs)) ∧ Den K C (io.add p) (S ++ [.lst xs]) (upd H p (.lst vs)) ∧ Rep K C (io.add p) (Fz (io.add p) (upd H p (.lst vs))) (.loc S.length) (.ref p) :=
  ⟨Ext.loc hp, d.loc hp ⟨vs, upd_same, r.ext (Ext.loc hp)⟩, .loc (by rw [← d.len]; show (io.l ++ [p])[io.l.length]? = some p; rw [List.getElem?_append_right (Nat.le_refl _)]; simp)⟩
theorem tA.alen {n : Nat} {K : PySem.W.Frag} {C : Nat → Addr} {sg : L2.St} {H : Hp} {Q : List V → Hp → Prop} (hn : AL n rs) (h : tA K C W rs sg H Q) : tA K C W rs sg H (fun vs H1 => vs.length = n ∧ Q vs H1) := by
  obtain ⟨e, S, io, d, s, p⟩ := h
  refine ⟨e, S, io, d, s, ?_⟩
  cases q : rs e S with
  | ok xs S1 =>
    rw [q] at p
    exact fun b H' io' x d' r => ⟨r.length.symm.trans (hn e S xs S1 q), p b H' io' x d' r⟩
  | err x S1 => rw [q] at p; exact p
  | bad => rw [q] at p; exact p
theorem ee_tup {n : Nat} {k} (h : PA X es (tA X.K C W rs)) (hn : AL n rs) (hz : n ≤ sizeLine := by decide) : PE X (.Tuple es k pos) (tE X.K C W (rTup rs)) :=
  (pe_tup h).imp fun sg H Q h => tR.mono (tA.alen hn (tR.seq1 (fun _ xs S => .ok (.tup xs) S) h fun _ _ => rfl)) fun vs H1 ⟨hl, e, S, io, xs, d, s, r1, p⟩ =>
    ⟨by rw [hl]; exact hz, fun q hq => let ⟨x, d', r'⟩ := new_tup d r1 hq; p _ _ _ x d' r'⟩
theorem ee_lst {n : Nat} (h : PA X es (tA X.K C W rs)) (hn : AL n rs) (hz : n ≤ sizeLine := by decide) : PE X (.List es pos) (tE X.K C W (rLst rs)) :=
  (pe_lst h).imp fun sg H Q h => tR.mono (tA.alen hn (tR.seq1 (fun _ xs S => .ok (.lst xs) S) h fun _ _ => rfl)) fun vs H1 ⟨hl, e, S, io, xs, d, s, r1, p⟩ =>
    ⟨by rw [hl]; exact hz, fun q hq => let ⟨x, d', r'⟩ := new_lst d r1 hq; p _ _ _ x d' r'⟩
theorem ee_lstM {n : Nat} (h : PA X es (tA X.K C W rs)) (hn : AL n rs) (hz : n ≤ sizeLine := by decide) : PE X (.List es pos) (tE X.K C W (rLstM rs)) :=
  (pe_lst h).imp fun sg H Q h => tR.mono (tA.alen hn (tR.seq1 (fun _ xs S => .ok (.loc S.length) (S ++ [.lst xs])) h fun _ _ => rfl)) fun vs H1 ⟨hl, e, S, io, xs, d, s, r1, p⟩ =>
    ⟨by rw [hl]; exact hz, fun q hq => let ⟨x, d', r'⟩ := new_lstM d r1 hq; p _ _ _ x d' r'⟩
end
end Ev
namespace Ev
open PySem PySem.Spec L2
section
variable {X : Cx} {C : Nat → Addr}
theorem opD_flat {g : Value → Value → Sem Value} {f : Store → D → D → Option D} {r : R2} (h : OpR X g r)
    (hf : ∀ io S H a b d x y, Den X.K C io S H → Rep X.K C io (Fz io H) a x → Rep X.K C io (Fz io H) b y → f S a b = some d → ∃ z, (∀ F, Rep X.K C io F d z) ∧ ∀ Q : VK, Q z H → r x y H Q) : OpD X C g f := by
  intro pins s sg H x y v u Q I rx ry ⟨io, S, a, b, d, dn, ra, rb, e, q⟩
  obtain ⟨z, rz, hq⟩ := hf io S H a b d x y dn ra rb e
  exact h pins s sg H x y v u Q I rx ry (hq Q (q z H io (Ext.refl _ _) dn (rz _)))
theorem OpD.or {g : Value → Value → Sem Value} {f f1 f2 : Store → D → D → Option D} (h1 : OpD X C g f1) (h2 : OpD X C g f2) (h : ∀ S a b d, f S a b = some d → f1 S a b = some d ∨ f2 S a b = some d) : OpD X C g f := by
  intro pins s sg H x y v u Q I rx ry ⟨io, S, a, b, d, dn, ra, rb, e, q⟩
  rcases h S a b d e with e | e
  · exact h1 pins s sg H x y v u Q I rx ry ⟨io, S, a, b, d, dn, ra, rb, e, q⟩
  · exact h2 pins s sg H x y v u Q I rx ry ⟨io, S, a, b, d, dn, ra, rb, e, q⟩
def i2 (c : Int → Int → Bool) (g : Int → Int → D) : Store → D → D → Option D
  | _, .int i, .int j => if c i j = true then some (g i j) else none
  | _, _, _ => none
theorem i2_some {c : Int → Int → Bool} {g : Int → Int → D} {S : Store} {a b d : D} (h : i2 c g S a b = some d) : ∃ i j, a = .int i ∧ b = .int j ∧ c i j = true ∧ d = g i j := by
  cases a <;> cases b <;> simp only [i2] at h <;> first | cases h | skip
  rename_i i j
  split at h
  · cases h; exact ⟨i, j, rfl, rfl, by assumption, rfl⟩
  · cases h
theorem opD_i2 {g : Value → Value → Sem Value} {c : Int → Int → Bool} {Cc : Int → Int → Prop} {k : Int → Int → V} {kd : Int → Int → D} (h : OpR X g (rI Cc k)) (hc : ∀ i j, c i j = true → Cc i j) (hk : ∀ io F i j, Rep X.K C io F (kd i j) (k i j)) : OpD X C g (i2 c kd) :=
  opD_flat h fun io S H a b d x y dn ra rb e => by
    obtain ⟨i, j, rfl, rfl, hb, rfl⟩ := i2_some e
    cases ra; cases rb
    exact ⟨k i j, fun F => hk io F i j, fun Q q => ⟨i, j, rfl, rfl, hc i j hb, q⟩⟩
theorem opD_i20 {g : Value → Value → Sem Value} {k : Int → Int → V} {kd : Int → Int → D} (h : OpR X g (rI0 k)) (hk : ∀ io F i j, Rep X.K C io F (kd i j) (k i j)) : OpD X C g (i2 (fun _ _ => true) kd) :=
  opD_flat h fun io S H a b d x y dn ra rb e => by
    obtain ⟨i, j, rfl, rfl, hb, rfl⟩ := i2_some e
    cases ra; cases rb
    exact ⟨k i j, fun F => hk io F i j, fun Q q => ⟨i, j, rfl, rfl, q⟩⟩
def addD (S : Store) (a b : D) : Option D := match a, b with
  | .int i, .int j => some (.int (i + j))
  | .str x, .str y => if x.length + y.length ≤ sizeLine then some (.str (x ++ y)) else none
  | .tup xs, .tup ys => if xs.length + ys.length ≤ sizeLine then some (.tup (xs ++ ys)) else none
  | a, b => match asL S a, asL S b with
    | some xs, some ys => if xs.length + ys.length ≤ sizeLine then some (.lst (xs ++ ys)) else none
    | _, _ => none
def rCatL (K : PySem.W.Frag) : R2 := fun x y H Q => ∃ l b xs zs, x = .ref l ∧ y = .ref b ∧ SqL K H l xs ∧ SqL K H b zs ∧ xs.length + zs.length ≤ sizeLine ∧ ∀ p, H p = none → Q (.ref p) (upd H p (.lst (xs ++ zs)))
open PyProof.Rows PySem.P in
theorem op_catL : OpR X (binaryOp .Add) (rCatL X.K) := by
  intro pins s sg H x y v u Q I rx ry h
  obtain ⟨l, b, xs, zs, rfl, rfl, hH, hB, hz, q⟩ := h
  cases rx
  cases ry
  obtain ⟨its, r, ⟨⟨c1, d1, t1, sl1⟩, n, e, hc, hd, hs⟩, z⟩ := I.list hH
  obtain ⟨its2, r2, ⟨⟨c2, d2, t2, sl2⟩, n2, e2, hc2, hd2, hs2⟩, z2⟩ := I.list hB
  simp only at hc hd hs hc2 hd2 hs2
  subst hc hd hs hc2 hd2 hs2
  have hl := r.length
  have hl2 := r2.length
  have ea : its.toArray ++ its2.toArray = (its ++ its2).toArray := by simp
  refine concat_meets ⟨_, e, rfl⟩ ⟨_, e2, rfl⟩ noFill_list_add seq_list_add PySem.F.slot_list_add PySem.F.entry_list_add (PySem.F.args_list_add_2 _ _) (list_addW l b its.toArray its2.toArray n n2 none none sl1 sl2 (by rw [List.size_toArray, List.size_toArray]; omega)) ⟨e, e2, ?_⟩
  rw [ea]
  exact ⟨.ref _, _, I.lnew (t' := s.toks) (r.append r2) (by rw [List.length_append]; omega), rfl, q _ I.fresh⟩
theorem addD_ok : OpD X C (binaryOp .Add) addD := by
  intro pins s sg H x y v u Q I rx ry ⟨io, S, a, b, d, dn, ra, rb, e, q⟩
  unfold addD at e
  split at e
  · cases e; cases ra; cases rb
    exact op_add pins s sg H _ _ v u Q I rx ry ⟨_, _, rfl, rfl, q _ H io (Ext.refl _ _) dn (.int _)⟩
  · split at e
    · cases e; cases ra; cases rb
      exact op_add_str pins s sg H _ _ v u Q I rx ry ⟨_, _, rfl, rfl, by assumption, q _ H io (Ext.refl _ _) dn (.str _)⟩
    · cases e
  · split at e
    · rename_i xs ys hz
      cases e
      cases ra with
      | @tup pa va _ qa ra =>
      cases rb with
      | @tup pb vb _ qb rb =>
      have l1 := ra.length
      have l2 := rb.length
      refine op_catA pins s sg H _ _ v u Q I rx ry ⟨_, _, _, _, rfl, rfl, sqT_same (Fz_same _ _) qa, sqT_same (Fz_same _ _) qb, by omega, fun ex => ?_, fun nx ey => ?_, fun nx ny p hp => ?_⟩
      · subst ex
        cases xs with
        | nil => exact q _ H io (Ext.refl _ _) dn (.tup qb rb)
        | cons _ _ => cases l1
      · subst ey
        cases ys with
        | nil => rw [List.append_nil] at q; exact q _ H io (Ext.refl _ _) dn (.tup qa ra)
        | cons _ _ => cases l2
      · obtain ⟨x1, d1, r1⟩ := new_tup dn (ra.append rb) hp
        exact q _ _ io x1 d1 r1
    · cases e
  · split at e
    · rename_i xs ys e1 e2
      split at e
      · cases e
        obtain ⟨p1, v1, rfl, h1, r1⟩ := asL_rep e1 dn ra
        obtain ⟨p2, v2, rfl, h2, r2⟩ := asL_rep e2 dn rb
        have l1 := r1.length
        have l2 := r2.length
        refine op_catL pins s sg H _ _ v u Q I rx ry ⟨_, _, _, _, rfl, rfl, h1, h2, by omega, fun p hp => ?_⟩
        obtain ⟨x1, d1, r1⟩ := new_lst dn (r1.append r2) hp
        exact q _ _ io x1 d1 r1
      · cases e
    · cases e
def mulOk (i j : Int) : Bool := (decide (-(2 ^ 64) < i) && decide (i < 2 ^ 64)) || (decide (-(2 ^ 64) < j) && decide (j < 2 ^ 64))
def subD : Store → D → D → Option D := i2 (fun _ _ => true) fun i j => .int (i - j)
def mulD : Store → D → D → Option D := i2 mulOk fun i j => .int (i * j)
def divD : Store → D → D → Option D := i2 (fun _ j => decide (0 < j) && decide (j < 18446744073709551616)) fun i j => .int (i / j)
def modD : Store → D → D → Option D := i2 (fun _ j => decide (0 < j)) fun i j => .int (i % j)
def powOk (i j : Int) : Bool := decide (0 ≤ j) && decide (j ≤ 1000000) && decide (i.natAbs < 2 ^ 64)
def powD : Store → D → D → Option D := i2 powOk fun i j => .int (i ^ j.toNat)
def shlD : Store → D → D → Option D := i2 powOk fun i j => .int (i * 2 ^ j.toNat)
def shrD : Store → D → D → Option D := i2 (fun _ j => decide (0 ≤ j)) fun i j => .int (i / 2 ^ j.toNat)
def ltD : Store → D → D → Option D := i2 (fun _ _ => true) fun i j => .bl (decide (i < j))
def leD : Store → D → D → Option D := i2 (fun _ _ => true) fun i j => .bl (decide (i ≤ j))
def gtD : Store → D → D → Option D := i2 (fun _ _ => true) fun i j => .bl (decide (j < i))
def geD : Store → D → D → Option D := i2 (fun _ _ => true) fun i j => .bl (decide (j ≤ i))
theorem subD_ok : OpD X C (binaryOp .Sub) subD := opD_i20 op_sub fun _ _ _ _ => .int _
theorem mulD_ok : OpD X C (binaryOp .Mult) mulD := opD_i2 op_mul (fun i j h => by simpa [mulOk, CMul] using h) fun _ _ _ _ => .int _
theorem divD_ok : OpD X C (binaryOp .FloorDiv) divD := opD_i2 op_fdivW (fun i j h => by
  simp only [Bool.and_eq_true, decide_eq_true_eq] at h
  exact wide_div (b := 64) h.1 (by omega) (by decide) (by decide)) fun _ _ _ _ => .int _
theorem modD_ok : OpD X C (binaryOp .Mod) modD := opD_i2 op_mod (fun i j h => by simpa using h) fun _ _ _ _ => .int _
theorem powOk_of {i j : Int} (h : powOk i j = true) : CPow i j := by
  unfold powOk at h
  rw [Bool.and_eq_true, Bool.and_eq_true, decide_eq_true_iff, decide_eq_true_iff, decide_eq_true_iff] at h
  exact ⟨h.1.1, h.1.2, h.2⟩
theorem powD_ok : OpD X C (binaryOp .Pow) powD := opD_i2 op_pow (fun i j h => powOk_of h) fun _ _ _ _ => .int _
theorem shlD_ok : OpD X C (binaryOp .LShift) shlD := opD_i2 op_shl (fun i j h => powOk_of h) fun _ _ _ _ => .int _
theorem shrD_ok : OpD X C (binaryOp .RShift) shrD := opD_i2 op_shr (fun i j h => by simpa using h) fun _ _ _ _ => .int _
theorem ltD_ok : OpD X C (compareOp .Lt) ltD := opD_i20 op_lt fun _ _ _ _ => .bl _
theorem leD_ok : OpD X C (compareOp .LtE) leD := opD_i20 op_le fun _ _ _ _ => .bl _
theorem gtD_ok : OpD X C (compareOp .Gt) gtD := opD_i20 op_gt fun _ _ _ _ => .bl _
theorem geD_ok : OpD X C (compareOp .GtE) geD := opD_i20 op_ge fun _ _ _ _ => .bl _
def negD : Store → D → Option D
  | _, .int i => some (.int (-i))
  | _, _ => none
theorem negD_ok : UnD X C (unaryOp .USub) negD := by
  intro pins s sg H x v Q I rx ⟨io, S, a, d, dn, ra, e, q⟩
  cases ra <;> cases e
  exact un_neg pins s sg H _ v Q I rx ⟨_, rfl, q _ H io (Ext.refl _ _) dn (.int _)⟩
def isN : Store → D → D → Option D
  | _, .non, .non => some (.bl true)
  | _, .loc _, .non => some (.bl false)
  | _, .exn _ _ _, .non => some (.bl false)
  | _, .bl _, .non => some (.bl false)
  | _, .int _, .non => some (.bl false)
  | _, .str _, .non => some (.bl false)
  | _, .tup _, .non => some (.bl false)
  | _, .lst _, .non => some (.bl false)
  | _, .dct _ _, .non => some (.bl false)
  | _, .dcf _ _, .non => some (.bl false)
  | _, .dcT _ _, .non => some (.bl false)
  | _, .bl a, .bl b => some (.bl (decide (a = b)))
  | _, _, _ => none
def isNot : Store → D → D → Option D
  | _, .non, .non => some (.bl false)
  | _, .loc _, .non => some (.bl true)
  | _, .exn _ _ _, .non => some (.bl true)
  | _, .bl _, .non => some (.bl true)
  | _, .int _, .non => some (.bl true)
  | _, .str _, .non => some (.bl true)
  | _, .tup _, .non => some (.bl true)
  | _, .lst _, .non => some (.bl true)
  | _, .dct _ _, .non => some (.bl true)
  | _, .dcf _ _, .non => some (.bl true)
  | _, .dcT _ _, .non => some (.bl true)
  | _, .bl a, .bl b => some (.bl (!decide (a = b)))
  | _, _, _ => none
theorem isNot_ok : OpD X C (compareOp .IsNot) isNot := opD_flat (op_notN.or op_isnot_bl) fun io S H a b d x y dn ra rb e => by
  cases rb <;> cases ra <;> cases e <;> first
    | exact ⟨.bl true, fun _ => .bl _, fun Q q => .inl ⟨rfl, q⟩⟩
    | exact ⟨.bl false, fun _ => .bl _, fun Q q => .inl ⟨rfl, q⟩⟩
    | exact ⟨_, fun _ => .bl _, fun Q q => .inr ⟨_, _, rfl, rfl, q⟩⟩
end
def pyAll (f : D → Option PyData) : List D → Option (List PyData)
  | [] => some []
  | x :: xs => (f x).bind fun y => (pyAll f xs).bind fun ys => some (y :: ys)
def pyD (S : Store) : Nat → D → Option PyData
  | _, .non => some .none
  | _, .bl b => some (.bool b)
  | _, .int i => some (.int i)
  | _, .str x => some (.str x)
  | n + 1, .tup xs => (pyAll (pyD S n) xs).bind fun ys => some (.tuple ys)
  | n + 1, .lst xs => (pyAll (pyD S n) xs).bind fun ys => some (.list ys)
  | n + 1, .loc k => match S[k]? with
    | some (.lst xs) => (pyAll (pyD S n) xs).bind fun ys => some (.list ys)
    | _ => none
  | _, _ => none
theorem pyAll_cons {f : D → Option PyData} {x : D} {xs : List D} {ps : List PyData} (h : pyAll f (x :: xs) = some ps) : ∃ y ys, f x = some y ∧ pyAll f xs = some ys ∧ ps = y :: ys := by
  simp only [pyAll] at h
  cases h1 : f x with
  | none => rw [h1] at h; cases h
  | some y =>
    rw [h1] at h
    cases h2 : pyAll f xs with
    | none => rw [h2] at h; cases h
    | some ys => rw [h2] at h; cases h; exact ⟨y, ys, rfl, rfl, rfl⟩
theorem bind_some' {A B : Type} {o : Option A} {f : A → Option B} {b : B} (h : o.bind f = some b) : ∃ a, o = some a ∧ f a = some b := by
  cases o with
  | none => cases h
  | some a => exact ⟨a, rfl, h⟩
section
variable {X : Cx} {C : Nat → Addr} {io : Io} {S : Store} {H : Hp} {pins : List (Addr × Obj)} {sg : L2.St} {s : Shared}
theorem pyAll_reads {K : PySem.W.Frag} {C : Nat → Addr} {f : D → Option PyData} (hf : ∀ d v p, f d = some p → Rep K C io (Fz io H) d v → Dp K H v p ∧ p.plain = true) : ∀ {xs : List D} {vs : List V} {ps : List PyData}, pyAll f xs = some ps → Reps K C io (Fz io H) xs vs → DpAll K H vs ps ∧ PyData.plainAll ps = true
  | _, _, _, h, .nil => by cases h; exact ⟨.nil, rfl⟩
  | _, _, _, h, .cons r rs => by
    obtain ⟨y, ys, h1, h2, rfl⟩ := pyAll_cons h
    obtain ⟨a, b⟩ := hf _ _ _ h1 r
    obtain ⟨c, d⟩ := pyAll_reads hf h2 rs
    exact ⟨.cons a c, by simp only [PyData.plainAll, b, d, Bool.and_self]⟩
theorem pyD_reads {K : PySem.W.Frag} {C : Nat → Addr} (dn : Den K C io S H) : ∀ (n : Nat) (d : D) (v : V) (p : PyData), pyD S n d = some p → Rep K C io (Fz io H) d v → Dp K H v p ∧ p.plain = true := by
  intro n
  induction n with
  | zero =>
    intro d v p h r
    cases r <;> simp only [pyD] at h <;> cases h
    · exact ⟨.non, rfl⟩
    · exact ⟨.bl _, rfl⟩
    · exact ⟨.int _, rfl⟩
    · exact ⟨.str _, rfl⟩
  | succ n ih =>
    intro d v p h r
    cases r with
    | non => cases h; exact ⟨.non, rfl⟩
    | bl => cases h; exact ⟨.bl _, rfl⟩
    | int => cases h; exact ⟨.int _, rfl⟩
    | str => cases h; exact ⟨.str _, rfl⟩
    | tup q rs =>
      obtain ⟨ys, h1, h2⟩ := bind_some' h
      cases h2
      obtain ⟨a, b⟩ := pyAll_reads ih h1 rs
      exact ⟨.tup (sqT_same (Fz_same _ _) q) a, by simp only [PyData.plain]; exact b⟩
    | lst q rs =>
      obtain ⟨ys, h1, h2⟩ := bind_some' h
      cases h2
      obtain ⟨a, b⟩ := pyAll_reads ih h1 rs
      exact ⟨.lst ((Fz_same _ _).seq q) a, by simp only [PyData.plain]; exact b⟩
    | @loc k a q =>
      simp only [pyD] at h
      split at h
      · rename_i xs e
        obtain ⟨ys, h1, h2⟩ := bind_some' h
        cases h2
        obtain ⟨vs, e1, rs⟩ := dn.obj k _ a e q
        obtain ⟨a, b⟩ := pyAll_reads ih h1 rs
        exact ⟨.lst (.of e1) a, by simp only [PyData.plain]; exact b⟩
      · cases h
    | dct => cases h
    | dcf => cases h
    | dcT => cases h
    | exn0 => cases h
    | exnF => cases h
theorem pyAll_depth {f : D → Option PyData} {n : Nat} (hf : ∀ d p, f d = some p → p.depth ≤ n) : ∀ {xs : List D} {ps : List PyData}, pyAll f xs = some ps → PyData.depthAll ps ≤ n
  | [], _, h => by cases h; simp [PyData.depthAll]
  | x :: xs, _, h => by
    obtain ⟨y, ys, h1, h2, rfl⟩ := pyAll_cons h
    have a := hf _ _ h1
    have b := pyAll_depth hf h2
    simp only [PyData.depthAll]
    omega
theorem pyD_depth : ∀ (n : Nat) (d : D) (p : PyData), pyD S n d = some p → p.depth ≤ n := by
  intro n
  induction n with
  | zero => intro d p h; cases d <;> simp only [pyD] at h <;> cases h <;> simp [PyData.depth]
  | succ n ih =>
    intro d p h
    cases d with
    | non => cases h; simp [PyData.depth]
    | bl => cases h; simp [PyData.depth]
    | int => cases h; simp [PyData.depth]
    | str => cases h; simp [PyData.depth]
    | tup xs =>
      obtain ⟨ys, h1, h2⟩ := bind_some' h
      cases h2
      simp only [PyData.depth]
      exact Nat.succ_le_succ (pyAll_depth ih h1)
    | lst xs =>
      obtain ⟨ys, h1, h2⟩ := bind_some' h
      cases h2
      simp only [PyData.depth]
      exact Nat.succ_le_succ (pyAll_depth ih h1)
    | loc k =>
      simp only [pyD] at h
      split at h
      · obtain ⟨ys, h1, h2⟩ := bind_some' h
        cases h2
        simp only [PyData.depth]
        exact Nat.succ_le_succ (pyAll_depth ih h1)
      · cases h
    | dct => cases h
    | dcf => cases h
    | dcT => cases h
    | exn => cases h
theorem reads_of (I : L2.Inv X pins sg H s) (dn : Den X.K C io S H) {n : Nat} {d : D} {v : V} {p : PyData} {u : Value} (h : pyD S n d = some p) (r : Rep X.K C io (Fz io H) d v) (ru : RelV v u) :
    (∃ as, Reads s.heap u p as) ∧ p.plain = true ∧ p.depth ≤ n := by
  obtain ⟨a, b⟩ := pyD_reads dn n d v p h r
  exact ⟨Dp.reads I p v u a ru, b, pyD_depth n d p h⟩
end
def deepN : Nat := 60
def eqB (S : Store) (a b : D) : Option Bool := (pyD S deepN a).bind fun x => (pyD S deepN b).bind fun y => some (PyData.eqv x y)
def eqD (S : Store) (a b : D) : Option D := (eqB S a b).bind fun k => some (.bl k)
def neD (S : Store) (a b : D) : Option D := (eqB S a b).bind fun k => some (.bl (!k))
section
variable {X : Cx} {C : Nat → Addr}
theorem eqD_ok (hu : X.A.units + 64 < cLine) : OpD X C (compareOp .Eq) eqD := by
  intro pins s sg H x y v u Q I rx ry ⟨io, S, a, b, d, dn, ra, rb, e, q⟩
  obtain ⟨k, e1, e2⟩ := bind_some' e
  obtain ⟨p, h1, e1⟩ := bind_some' e1
  obtain ⟨p', h2, e1⟩ := bind_some' e1
  cases e1; cases e2
  obtain ⟨⟨as, r1⟩, b1, l1⟩ := reads_of I dn h1 ra rx
  obtain ⟨⟨bs, r2⟩, b2, l2⟩ := reads_of I dn h2 rb ry
  have hl : min p.depth p'.depth ≤ 60 := Nat.le_trans (Nat.min_le_left _ _) l1
  exact SeqAt.eq_plain r1 r2 b1 b2 (by omega) ⟨.bl _, H, I, rfl, q _ H io (Ext.refl _ _) dn (.bl _)⟩
theorem neD_ok (hu : X.A.units + 64 < cLine) : OpD X C (compareOp .NotEq) neD := by
  intro pins s sg H x y v u Q I rx ry ⟨io, S, a, b, d, dn, ra, rb, e, q⟩
  obtain ⟨k, e1, e2⟩ := bind_some' e
  obtain ⟨p, h1, e1⟩ := bind_some' e1
  obtain ⟨p', h2, e1⟩ := bind_some' e1
  cases e1; cases e2
  obtain ⟨⟨as, r1⟩, b1, l1⟩ := reads_of I dn h1 ra rx
  obtain ⟨⟨bs, r2⟩, b2, l2⟩ := reads_of I dn h2 rb ry
  have hl : min p.depth p'.depth ≤ 60 := Nat.le_trans (Nat.min_le_left _ _) l1
  exact SeqAt.ne_plain r1 r2 b1 b2 (by omega) ⟨.bl _, H, I, rfl, q _ H io (Ext.refl _ _) dn (.bl _)⟩
end
end Ev
namespace Ev
open PySem PySem.Spec L2
abbrev RC := D → RE
def rLast (f : Store → D → D → Option D) (b : RE) : RC := fun x e S => (b e S).bind fun y S1 => ofO (f S1 x y) S1
def rLink (f : Store → D → D → Option D) (b : RE) (k : RC) : RC := fun x e S => (b e S).bind fun y S1 => (ofO ((f S1 x y).bind asB) S1).bind fun t S2 => if t = true then k y e S2 else .ok (.bl false) S2
def rChain (a : RE) (k : RC) : RE := fun e S => (a e S).bind fun x S1 => k x e S1
structure PCh (X : Cx) (C : Nat → Addr) (W : WX) (ops : List CmpOp) (es : List Expr) (r : RC) : Prop where
  run : ∀ (pos : Pos) (pins : List (Addr × Obj)) (s : Shared) (sg : L2.St) (H : Hp) (Q : VK) (x : V) (v : Value) (e : Env) (S : Store) (io : Io) (d : D), L2.Inv X pins sg H s → RelV x v → Den X.K C io S H → Slots X.K C io (Fz io H) e sg → Rep X.K C io (Fz io H) d x →
    Post X.K C (RepR X.K C) W sg io H (r d e S) Q → wpAny (model X.prog X.w) X.A (compareChain pos v ops (evalEach es X.env)) (EP X pins sg Q) X.xe s
  runT : ∀ (pos : Pos) (pins : List (Addr × Obj)) (s : Shared) (sg : L2.St) (H : Hp) (Q : Bool → Hp → Prop) (x : V) (v : Value) (e : Env) (S : Store) (io : Io) (d : D), L2.Inv X pins sg H s → RelV x v → Den X.K C io S H → Slots X.K C io (Fz io H) e sg → Rep X.K C io (Fz io H) d x →
    Post X.K C EqR W sg io H ((r d e S).bind fun z S1 => ofO (asB z) S1) Q → wpAny (model X.prog X.w) X.A (testChain pos v ops (evalEach es X.env)) (TP X pins sg Q) X.xe s
section
variable {X : Cx} {C : Nat → Addr} {W : WX} {a b b' c : Expr} {bs : List Expr} {ra rb : RE} {op op' : CmpOp} {ops : List CmpOp} {f : Store → D → D → Option D} {k : RC} {pos : Pos}
theorem Post.asB {K : PySem.W.Frag} {C : Nat → Addr} {sg : L2.St} {io : Io} {H : Hp} {z : D} {S : Store} {Q : Bool → Hp → Prop} (h : Post K C EqR W sg io H (Ev.ofO (Ev.asB z) S) Q) : ∃ t, Ev.asB z = some t ∧ ∀ H' io', Ext io H io' H' → Den K C io' S H' → Q t H' := by
  obtain ⟨t, e, p⟩ := h.ofO
  exact ⟨t, e, fun H' io' x d => p t H' io' x d rfl⟩
theorem ch_last (ho : OpD X C (compareOp op) f) (hb : PE X b (tE X.K C W rb)) : PCh X C W [op] [b] (rLast f rb) where
  run := fun pos pins s sg H Q x v e S io d I rx dn sl r p =>
    PyProof.Rows.chain_last (thn (hb.run pins s sg H _ I ⟨e, S, io, dn, sl, Post.bind (R := RepR X.K C) (k := fun y S1 => ofO (f S1 d y) S1) p⟩) fun u s1 ⟨y, H1, I1, r1, io1, S1, y1, x1, d1, q1, p1⟩ => by
      obtain ⟨z, ez, p1⟩ := p1.ofO
      exact ho pins s1 sg H1 x y v u Q I1 rx r1 ⟨io1, S1, d, y1, z, d1, r.ext x1, q1, ez, p1⟩)
  runT := fun pos pins s sg H Q x v e S io d I rx dn sl r p =>
    PyProof.Rows.test_last (thn (hb.run pins s sg H _ I ⟨e, S, io, dn, sl, Post.bind (R := RepR X.K C) (R' := EqR) (Q := Q) (k := fun y S1 => (ofO (f S1 d y) S1).bind fun z S2 => ofO (asB z) S2) (by rw [← bind_assoc]; exact p)⟩) fun u s1 ⟨y, H1, I1, r1, io1, S1, y1, x1, d1, q1, p1⟩ => by
      cases ez : f S1 d y1 with
      | none => rw [ez] at p1; exact p1.elim
      | some z =>
        rw [ez] at p1
        obtain ⟨t, et, p1⟩ := p1.asB
        refine thn (ho pins s1 sg H1 x y v u (fun w H' => w = .bl t ∧ Q t H') I1 rx r1 ⟨io1, S1, d, y1, z, d1, r.ext x1, q1, ez, fun w H' io' x' d' r' => ⟨asB_rep et r', p1 H' io' x' d'⟩⟩) fun w s2 ⟨w', H2, I2, r2, e2, q2⟩ => ?_
        subst e2
        cases r2
        exact wpAny_truthy_bool ⟨H2, I2, q2⟩)
theorem ch_link (ho : OpD X C (compareOp op) f) (hb : PE X b (tE X.K C W rb)) (hr : PCh X C W (op' :: ops) (b' :: bs) k) : PCh X C W (op :: op' :: ops) (b :: b' :: bs) (rLink f rb k) where
  run := fun pos pins s sg H Q x v e S io d I rx dn sl r p =>
    PyProof.Rows.chain_link (thn (hb.run pins s sg H _ I ⟨e, S, io, dn, sl, Post.bind (R := RepR X.K C) (k := fun y S1 => (ofO ((f S1 d y).bind asB) S1).bind fun t S2 => if t = true then k y e S2 else .ok (.bl false) S2) p⟩) fun u s1 ⟨y, H1, I1, r1, io1, S1, y1, x1, d1, q1, p1⟩ => by
      cases ez : f S1 d y1 with
      | none => rw [ez] at p1; exact p1.elim
      | some z =>
        rw [ez] at p1
        cases et : asB z with
        | none => simp only [Option.bind, et] at p1; exact p1.elim
        | some t =>
        simp only [Option.bind, et, Ev.ofO, Res.bind] at p1
        refine thn (ho pins s1 sg H1 x y v u (fun w H' => w = .bl t ∧ ∃ io', Ext io1 H1 io' H' ∧ Den X.K C io' S1 H') I1 rx r1 ⟨io1, S1, d, y1, z, d1, r.ext x1, q1, ez, fun w H' io' x' d' r' => ⟨asB_rep et r', io', x', d'⟩⟩) fun w s2 ⟨w', H2, I2, r2, e2, io2, x2, d2⟩ => ?_
        subst e2
        cases r2
        refine wpAny_truthy_bool ?_
        cases t with
        | true => exact hr.run pos pins s2 sg H2 Q y u e S1 io2 y1 I2 r1 d2 ((sl.ext x1).ext x2) (q1.ext x2) (p1.ext x2)
        | false => exact ⟨.bl false, H2, I2, rfl, p1 _ H2 io2 x2 d2 (.bl _)⟩)
  runT := fun pos pins s sg H Q x v e S io d I rx dn sl r p =>
    PyProof.Rows.test_link (thn (hb.run pins s sg H _ I ⟨e, S, io, dn, sl, Post.bind (R := RepR X.K C) (R' := EqR) (Q := Q) (k := fun y S1 => ((ofO ((f S1 d y).bind asB) S1).bind fun t S2 => if t = true then k y e S2 else .ok (.bl false) S2).bind fun z S2 => ofO (asB z) S2) (by rw [← bind_assoc]; exact p)⟩) fun u s1 ⟨y, H1, I1, r1, io1, S1, y1, x1, d1, q1, p1⟩ => by
      cases ez : f S1 d y1 with
      | none => rw [ez] at p1; exact p1.elim
      | some z =>
        rw [ez] at p1
        cases et : asB z with
        | none => simp only [Option.bind, et] at p1; exact p1.elim
        | some t =>
        simp only [Option.bind, et, Ev.ofO, Res.bind] at p1
        refine thn (ho pins s1 sg H1 x y v u (fun w H' => w = .bl t ∧ ∃ io', Ext io1 H1 io' H' ∧ Den X.K C io' S1 H') I1 rx r1 ⟨io1, S1, d, y1, z, d1, r.ext x1, q1, ez, fun w H' io' x' d' r' => ⟨asB_rep et r', io', x', d'⟩⟩) fun w s2 ⟨w', H2, I2, r2, e2, io2, x2, d2⟩ => ?_
        subst e2
        cases r2
        refine wpAny_truthy_bool ?_
        cases t with
        | true => exact hr.runT pos pins s2 sg H2 Q y u e S1 io2 y1 I2 r1 d2 ((sl.ext x1).ext x2) (q1.ext x2) (p1.ext x2)
        | false => exact ⟨H2, I2, p1 _ H2 io2 x2 d2 rfl⟩)
theorem et_chain (ha : PE X a (tE X.K C W ra)) (hr : PCh X C W (op :: op' :: ops) (b :: b' :: bs) k) (hm : lastMarks (op :: op' :: ops) (b :: b' :: bs) = false := by with_unfolding_all rfl) : PT X (.Compare a (op :: op' :: ops) (b :: b' :: bs) pos) (tT X.K C W (rTest (rChain ra k))) :=
  ⟨fun pins s sg H Q I h => PyProof.Rows.isTrue_chain (thn (ha.run pins s sg H _ I (tR.seq1 (R := RepR X.K C) (fun e x S => (k x e S).bind fun z S1 => ofO (asB z) S1) h fun e S => by
      show (rChain ra k e S).bind _ = _
      unfold rChain
      rw [bind_assoc])) fun v s1 ⟨x, H1, I1, r1, e, S, io, x1, d, sl, q, p⟩ =>
    hr.runT pos pins s1 sg H1 Q x v e S io x1 I1 r1 d sl q p) hm⟩
end
section
variable {X : Cx} {C : Nat → Addr} {W : WX} {e : Expr} {es : List Expr} {rs : RA} {x : Str} {p pos : Pos} {bid T : String} {f : Store → List D → Option D}
theorem ee_callB (hc : CallD X C (.builtin bid) f) (hg : Gl X x) (hm : X.mg x = none) (hv : bootBuiltins x = some (.builtin bid)) (ha : PA X (e :: es) (tA X.K C W rs)) (hn : x ≠ "__name__" := by decide) (hdb : (x == ("__debug__" : Str)) = false := by decide)
    (he : starEach (e :: es) X.env = (false, eval e X.env) :: starEach es X.env := by rfl) (hpl : (backTo pos (starEach es X.env)).any (·.1) = false := by rfl) : PE X (.Call (.Name x p) (e :: es) [] pos) (tE X.K C W (rCal f rs)) :=
  (pe_callB hc hg hm hv ha hn hdb he hpl).imp fun sg H Q h => (tR.seq1 (R := RepsR X.K C) (fun _ xs S => ofO (f S xs) S) h fun _ _ => rfl).mono fun vs H1 ⟨e, S, io, x1, d, s, r1, p⟩ => by
    obtain ⟨z, ez, p⟩ := p.ofO
    exact ⟨io, S, x1, z, d, r1, ez, p⟩
theorem ee_callTy (hc : CallD X C (.type T) f) (hg : Gl X x) (hm : X.mg x = none) (hv : bootBuiltins x = some (.type T)) (ha : PA X (e :: es) (tA X.K C W rs)) (hn : x ≠ "__name__" := by decide) (hdb : (x == ("__debug__" : Str)) = false := by decide)
    (he : starEach (e :: es) X.env = (false, eval e X.env) :: starEach es X.env := by rfl) (hpl : (backTo pos (starEach es X.env)).any (·.1) = false := by rfl) : PE X (.Call (.Name x p) (e :: es) [] pos) (tE X.K C W (rCal f rs)) :=
  (pe_callTy hc hg hm hv ha hn hdb he hpl).imp fun sg H Q h => (tR.seq1 (R := RepsR X.K C) (fun _ xs S => ofO (f S xs) S) h fun _ _ => rfl).mono fun vs H1 ⟨e, S, io, x1, d, s, r1, p⟩ => by
    obtain ⟨z, ez, p⟩ := p.ofO
    exact ⟨io, S, x1, z, d, r1, ez, p⟩
theorem callD_flat {g : Value} {r : List V → Hp → VK → Prop} (h : CallR X g r)
    (hf : ∀ io S H as d xs, Den X.K C io S H → Reps X.K C io (Fz io H) as xs → f S as = some d → ∃ z, (∀ F, Rep X.K C io F d z) ∧ ∀ Q : VK, Q z H → r xs H Q) : CallD X C g f := by
  intro pins s sg H xs us Q I rx ⟨io, S, as, d, dn, ra, e, q⟩
  obtain ⟨z, rz, hq⟩ := hf io S H as d xs dn ra e
  exact h pins s sg H xs us Q I rx (hq Q (q z H io (Ext.refl _ _) dn (rz _)))
def absD : Store → List D → Option D
  | _, [.int i] => some (.int (if i < 0 then -i else i))
  | _, _ => none
theorem reps1 {K : PySem.W.Frag} {C : Nat → Addr} {io : Io} {F : Hp} {a : D} {xs : List V} (r : Reps K C io F [a] xs) : ∃ v, xs = [v] ∧ Rep K C io F a v := by
  cases r with
  | cons h t => cases t; exact ⟨_, rfl, h⟩
theorem reps2 {K : PySem.W.Frag} {C : Nat → Addr} {io : Io} {F : Hp} {a b : D} {xs : List V} (r : Reps K C io F [a, b] xs) : ∃ v u, xs = [v, u] ∧ Rep K C io F a v ∧ Rep K C io F b u := by
  cases r with
  | cons h t => obtain ⟨u, rfl, h2⟩ := reps1 t; exact ⟨_, u, rfl, h, h2⟩
theorem absD_ok : CallD X C (.builtin "abs") absD := callD_flat call_abs fun io S H as d xs dn ra e => by
  unfold absD at e
  split at e <;> cases e
  obtain ⟨v, rfl, h⟩ := reps1 ra
  cases h
  exact ⟨.int _, fun _ => .int _, fun Q q => ⟨_, rfl, q⟩⟩
def maxD2 : Store → List D → Option D
  | _, [.int i, .int j] => some (.int (if j > i then j else i))
  | _, _ => none
def minD2 : Store → List D → Option D
  | _, [.int i, .int j] => some (.int (if j < i then j else i))
  | _, _ => none
theorem maxD2_ok (hc : X.calm = true) : CallD X C (.builtin "max") maxD2 := callD_flat (call_max2 hc) fun io S H as d xs dn ra e => by
  unfold maxD2 at e
  split at e <;> cases e
  obtain ⟨v, u, rfl, h, h2⟩ := reps2 ra
  cases h; cases h2
  exact ⟨.int _, fun _ => .int _, fun Q q => ⟨_, _, rfl, q⟩⟩
theorem minD2_ok (hc : X.calm = true) : CallD X C (.builtin "min") minD2 := callD_flat (call_min2 hc) fun io S H as d xs dn ra e => by
  unfold minD2 at e
  split at e <;> cases e
  obtain ⟨v, u, rfl, h, h2⟩ := reps2 ra
  cases h; cases h2
  exact ⟨.int _, fun _ => .int _, fun Q q => ⟨_, _, rfl, q⟩⟩
def intD : Store → List D → Option D
  | _, [.int i] => some (.int i)
  | _, [.bl b] => some (.int (if b then 1 else 0))
  | _, _ => none
theorem intD_ok : CallD X C (.type "int") intD := callD_flat call_int1 fun io S H as d xs dn ra e => by
  unfold intD at e
  split at e <;> cases e
  · obtain ⟨v, rfl, h⟩ := reps1 ra
    cases h
    exact ⟨.int _, fun _ => .int _, fun Q q => .inl ⟨_, rfl, q⟩⟩
  · obtain ⟨v, rfl, h⟩ := reps1 ra
    cases h
    exact ⟨.int _, fun _ => .int _, fun Q q => .inr ⟨_, rfl, q⟩⟩
def lenD : Store → List D → Option D
  | _, [.str x] => if x.length ≤ sizeLine then some (.int x.length) else none
  | _, [.tup xs] => some (.int xs.length)
  | S, [a] => (asL S a).bind fun xs => some (.int xs.length)
  | _, _ => none
theorem lenD_ok : CallD X C (.builtin "len") lenD := callD_flat call_len fun io S H as d xs dn ra e => by
  unfold lenD at e
  split at e
  · split at e <;> cases e
    obtain ⟨v, rfl, h⟩ := reps1 ra
    cases h
    exact ⟨.int _, fun _ => .int _, fun Q q => ⟨_, _, rfl, ⟨by assumption, rfl⟩, q⟩⟩
  · cases e
    obtain ⟨v, rfl, h⟩ := reps1 ra
    cases h with
    | tup q rs => exact ⟨.int _, fun _ => .int _, fun Q q' => ⟨_, _, rfl, .inr ⟨_, sqT_same (Fz_same _ _) q, rs.length⟩, q'⟩⟩
  · obtain ⟨ys, e1, e2⟩ := bind_some' e
    cases e2
    obtain ⟨v, rfl, h⟩ := reps1 ra
    obtain ⟨a, vs, rfl, hq, rs⟩ := asL_rep e1 dn h
    exact ⟨.int _, fun _ => .int _, fun Q q' => ⟨_, _, rfl, .inl ⟨_, hq, rs.length⟩, q'⟩⟩
  · cases e
def asI : D → Option Int
  | .int i => some i
  | _ => none
def allI : List D → Option (List Int)
  | [] => some []
  | .int i :: r => (allI r).bind fun l => some (i :: l)
  | _ => none
theorem allI_rep {K : PySem.W.Frag} {C : Nat → Addr} {io : Io} {F : Hp} : ∀ {xs : List D} {vs : List V} {ns : List Int}, allI xs = some ns → Reps K C io F xs vs → vs = ns.map V.int ∧ xs = ns.map D.int
  | _, _, _, h, .nil => by cases h; exact ⟨rfl, rfl⟩
  | _, _, _, h, .cons r rs => by
    cases r <;> simp only [allI] at h <;> first | cases h | skip
    obtain ⟨l, h1, h2⟩ := bind_some' h
    cases h2
    obtain ⟨a, b⟩ := allI_rep h1 rs
    exact ⟨by rw [a]; rfl, by rw [b]; rfl⟩
theorem allI_map (ns : List Int) : allI (ns.map D.int) = some ns := by
  induction ns with
  | nil => rfl
  | cons i r ih => simp [allI, ih]
def sumD : Store → List D → Option D
  | S, [a] => (asL S a).bind fun xs => (allI xs).bind fun ns => some (.int ns.sum)
  | _, _ => none
theorem sumD_ok (hc : X.calm = true) : CallD X C (.builtin "sum") sumD := callD_flat (cr_sum hc) fun io S H as d xs dn ra e => by
  unfold sumD at e
  split at e
  · obtain ⟨ys, e1, e2⟩ := bind_some' e
    obtain ⟨ns, e4, e3⟩ := bind_some' e2
    cases e3
    obtain ⟨v, rfl, h⟩ := reps1 ra
    obtain ⟨a, vs, rfl, hq, rs⟩ := asL_rep e1 dn h
    obtain ⟨rfl, _⟩ := allI_rep e4 rs
    exact ⟨.int _, fun _ => .int _, fun Q q' => ⟨_, _, rfl, hq, q'⟩⟩
  · cases e
end
def ixD (S : Store) (a b : D) : Option D := match a, b with
  | .tup xs, .int i => atI xs i
  | .str z, .int i => if z.length ≤ sizeLine then (atI z.cps.toList i).bind fun c => some (.str ⟨#[c]⟩) else none
  | a, .int i => (asL S a).bind fun xs => atI xs i
  | _, _ => none
theorem atI_reps {K : PySem.W.Frag} {C : Nat → Addr} {io : Io} {F : Hp} {xs : List D} {vs : List V} {i : Int} {d : D} (h : atI xs i = some d) (r : Reps K C io F xs vs) : ∃ v, atI vs i = some v ∧ Rep K C io F d v := by
  unfold atI at h ⊢
  obtain ⟨j, h1, h2⟩ := bind_some' h
  obtain ⟨v, h3, h4⟩ := r.get h2
  exact ⟨v, by rw [← r.length, h1]; exact h3, h4⟩
def cutD (xs : List D) (lo hi : Option Int) : List D := (xs.drop (HT.sIx xs.length 0 lo)).take (HT.sIx xs.length xs.length hi - HT.sIx xs.length 0 lo)
theorem cut_reps {K : PySem.W.Frag} {C : Nat → Addr} {io : Io} {F : Hp} {xs : List D} {vs : List V} (r : Reps K C io F xs vs) (lo hi : Option Int) : Reps K C io F (cutD xs lo hi) (cutV vs lo hi) := by
  unfold cutD cutV
  rw [r.length]
  exact (r.drop _).take _
abbrev RO := Env → Store → Res (Option Int)
def rNoP : RO := fun _ S => .ok none S
def rPart (a : RE) : RO := fun e S => (a e S).bind fun x S1 => (ofO (asI x) S1).bind fun i S2 => .ok (some i) S2
abbrev tO (K : PySem.W.Frag) (C : Nat → Addr) (W : WX) (r : RO) : TO := tR K C EqR W r
def slD (S : Store) (a : D) (lo hi : Option Int) : Option D := match a with
  | .tup xs => some (.tup (cutD xs lo hi))
  | .str z => if z.length ≤ sizeLine then some (.str (cutS z lo hi)) else none
  | a => (asL S a).bind fun xs => some (.lst (cutD xs lo hi))
def rSl (a : RE) (lo hi : RO) : RE := fun e S => (a e S).bind fun x S1 => (lo e S1).bind fun l S2 => (hi e S2).bind fun h S3 => ofO (slD S3 x l h) S3
section
variable {X : Cx} {C : Nat → Addr} {W : WX} {a b : Expr} {ra rb : RE} {lo hi : Option Expr} {rl rh : RO} {pos p2 : Pos}
theorem ixD_ok : IxR X (fun x y H Q => ∃ io S a b d, Den X.K C io S H ∧ Rep X.K C io (Fz io H) a x ∧ Rep X.K C io (Fz io H) b y ∧ ixD S a b = some d ∧ ∀ v H' io', Ext io H io' H' → Den X.K C io' S H' → Rep X.K C io' (Fz io' H') d v → Q v H') := by
  intro value slice pins s sg H x y v u Q I rx ry ⟨io, S, a, b, d, dn, ra, rb, e, q⟩ hs
  refine ix_seq value slice pins s sg H x y v u Q I rx ry ?_ hs
  unfold ixD at e
  split at e
  · cases rb
    cases ra with
    | tup q1 rs =>
      obtain ⟨w, h1, h2⟩ := atI_reps e rs
      exact .inr (.inl ⟨_, _, _, w, rfl, rfl, sqT_same (Fz_same _ _) q1, h1, q _ H io (Ext.refl _ _) dn h2⟩)
  · split at e
    · obtain ⟨c, h1, h2⟩ := bind_some' e
      cases h2
      cases ra; cases rb
      exact .inr (.inr ⟨_, _, c, rfl, rfl, by assumption, h1, q _ H io (Ext.refl _ _) dn (.str _)⟩)
    · cases e
  · obtain ⟨xs, h1, h2⟩ := bind_some' e
    cases rb
    obtain ⟨p, vs, rfl, hq, rs⟩ := asL_rep h1 dn ra
    obtain ⟨w, h3, h4⟩ := atI_reps h2 rs
    exact .inl ⟨_, _, _, w, rfl, rfl, hq, h3, q _ H io (Ext.refl _ _) dn h4⟩
  · cases e
theorem ee_ix (ha : PE X a (tE X.K C W ra)) (hb : PE X b (tE X.K C W rb)) (hs : PlainIx b := by exact fun _ _ => rfl) : PE X (.Subscript a b pos) (tE X.K C W (rBin ixD ra rb)) :=
  (pe_ix ixD_ok ha hb hs).imp fun sg H Q h => (tR.seq2 repM (fun _ x y S => ofO (ixD S x y) S) h fun _ _ => rfl).mono fun x H1 h1 => h1.mono fun y H2 ⟨e, S, io, x1, y1, d, s, r1, r2, p⟩ => by
    obtain ⟨z, ez, p⟩ := p.ofO
    exact ⟨io, S, x1, y1, z, d, r1, r2, ez, p⟩
theorem eo_none : PO X none (tO X.K C W rNoP) := ⟨fun pins s sg H Q I h => po_none.run pins s sg H Q I (by
  obtain ⟨e, S, io, d, sl, p⟩ := h
  exact p none H io (Ext.refl _ _) d rfl)⟩
theorem eo_some (ha : PE X a (tE X.K C W ra)) : PO X (some a) (tO X.K C W (rPart ra)) := ⟨fun pins s sg H Q I h => (po_some ha).run pins s sg H Q I (by
  refine (tR.seq1 (R := RepR X.K C) (fun _ x S => (ofO (asI x) S).bind fun i S2 => .ok (some i) S2) h fun _ _ => rfl).mono fun x H1 ⟨e, S, io, x1, d, sl, r1, p⟩ => ?_
  cases x1 <;> simp only [asI, ofO, Res.bind] at p <;> first | exact p.elim | skip
  cases r1
  exact ⟨_, rfl, p _ H1 io (Ext.refl _ _) d rfl⟩)⟩
theorem slD_ok : SlR X (fun x l h H Q => ∃ io S a d, Den X.K C io S H ∧ Rep X.K C io (Fz io H) a x ∧ slD S a l h = some d ∧ ∀ v H' io', Ext io H io' H' → Den X.K C io' S H' → Rep X.K C io' (Fz io' H') d v → Q v H') := by
  have hr := (SlR.or (SlR.or (sl_list (X := X)) sl_tupA) sl_str)
  intro pins s sg H x v vl vu l h sl Q I rx h1 h2 h3 ⟨io, S, a, d, dn, ra, e, q⟩
  refine hr pins s sg H x v vl vu l h sl Q I rx h1 h2 h3 ?_
  unfold slD at e
  split at e
  · cases e
    cases ra with
    | tup q1 rs =>
      refine .inl (.inr ⟨_, _, rfl, sqT_same (Fz_same _ _) q1, fun hw => ?_, fun hw p hp => ?_⟩)
      · refine q _ H io (Ext.refl _ _) dn ?_
        rename_i xs va vs
        have e2 : cutD xs l h = xs := by
          unfold cutD
          rw [rs.length, hw.1, hw.2, List.drop_zero, Nat.sub_zero, ← rs.length, List.take_length]
        rw [e2]
        exact .tup q1 rs
      · obtain ⟨x1, d1, r1⟩ := new_tup dn (cut_reps rs l h) hp
        exact q _ _ io x1 d1 r1
  · split at e
    · cases e
      cases ra
      exact .inr ⟨_, rfl, by assumption, q _ H io (Ext.refl _ _) dn (.str _)⟩
    · cases e
  · obtain ⟨xs, e1, e2⟩ := bind_some' e
    cases e2
    obtain ⟨p, vs, rfl, hq, rs⟩ := asL_rep e1 dn ra
    refine .inl (.inl ⟨_, _, rfl, hq, fun p hp => ?_⟩)
    obtain ⟨x1, d1, r1⟩ := new_lst dn (cut_reps rs l h) hp
    exact q _ _ io x1 d1 r1
theorem ee_sl (ha : PE X a (tE X.K C W ra)) (hl : PO X lo (tO X.K C W rl)) (hh : PO X hi (tO X.K C W rh)) : PE X (.Subscript a (.Slice lo hi none p2) pos) (tE X.K C W (rSl ra rl rh)) :=
  (pe_slice slD_ok ha hl hh).imp fun sg H Q h => (tR.seq2 (R2 := EqR) repM (fun e x l S2 => (rh e S2).bind fun h S3 => ofO (slD S3 x l h) S3) h fun _ _ => rfl).mono fun x H1 h1 => h1.mono fun l H2 ⟨e, S, io, x1, l1, d, sl, r1, r2, p⟩ => by
    cases r2
    exact ⟨e, S, io, d, sl, p.bind.mono fun h H3 ⟨io3, S3, h3, x3, d3, r3, p3⟩ => by
      cases r3
      obtain ⟨z, ez, p3⟩ := p3.ofO
      exact ⟨io3, S3, x1, z, d3, r1.ext x3, ez, p3⟩⟩
end
end Ev
namespace Ev
open PySem PySem.Spec L2
theorem _root_.L2.Fun.okN {CX : CXT} {P : Program} {w : World} {K : PySem.W.Frag} {mg : Str → Option Value} {base : Heap} {x qual : Str} {st : Stmt} {f : Addr} {fd : FuncData} {N ps : List Str} {k : Nat} {sp : Sp} (F : Fun K x qual st f fd) (S : FnScope N ps (defScope st)) (len : ∀ vs H Q E, sp vs H Q E → vs.length = ps.length)
    (hbody : ∀ (cdv : Value) (A : Around) (outer : List PySem.Env) (s : Shared) (H : Hp) (vs : List V) (Q : VK) (E : XK), Room k (A.deeper (PyProof.Rows.envOfC qual (defScope st) s.heap.objs.size f cdv)) → sp vs H Q E →
      ∃ t, PSs (cxOf CX P w K mg base N qual (defScope st) f cdv A outer s H E) (defBody st) t ∧ t { nx := fun _ H' => Q .non H', rt := Q } (L2.start N vs) H) : FnOk P w K mg base CX (k + 1) f fd ps sp := by
  obtain ⟨oc, od, kV, doc, pm, an, cdv, ct, osl, rfl, lk, hcd⟩ := F.ex
  exact fn_of lk hcd S len fun A outer s H vs Q E hr hsp => hbody cdv A outer s H vs Q E hr hsp
inductive Fl where
  | nx (e : Env) (S : Store)
  | rt (d : D) (S : Store)
  | er (x : Exn) (e : Env) (S : Store)
  | bad
abbrev RS := Env → Store → Fl
def Res.fl {A : Type} (e : Env) : Res A → (A → Store → Fl) → Fl
  | .ok a S, k => k a S
  | .err x S, _ => .er x e S
  | .bad, _ => .bad
def Fl.andThen : Fl → RS → Fl
  | .nx e S, k => k e S
  | .rt d S, _ => .rt d S
  | .er x e S, _ => .er x e S
  | .bad, _ => .bad
def PostS (K : PySem.W.Frag) (C : Nat → Addr) (W : WX) (io : Io) (H : Hp) (f : Fl) (Dn : Ends) : Prop :=
  match f with
  | .nx e S => ∀ sg H' io', Ext io H io' H' → Den K C io' S H' → Slots K C io' (Fz io' H') e sg → Dn.nx sg H'
  | .rt d S => ∀ v H' io', Ext io H io' H' → Den K C io' S H' → Rep K C io' (Fz io' H') d v → Dn.rt v H'
  | .er x e S => ∀ cls dd sg H' io', Ext io H io' H' → Den K C io' S H' → Slots K C io' (Fz io' H') e sg → XR K C io' H' x cls dd → W cls dd sg H'
  | .bad => False
def tS (K : PySem.W.Frag) (C : Nat → Addr) (W : WX) (r : RS) : TS := fun Dn sg H =>
  ∃ (e : Env) (S : Store) (io : Io), Den K C io S H ∧ Slots K C io (Fz io H) e sg ∧ PostS K C W io H (r e S) Dn
section
variable {K : PySem.W.Frag} {C : Nat → Addr} {A B : Type} {R : Io → Hp → A → B → Prop} {W : WX} {sg : L2.St} {io io' : Io} {H H' : Hp} {Dn : Ends}
theorem PostS.ext {f : Fl} (e : Ext io H io' H') (h : PostS K C W io H f Dn) : PostS K C W io' H' f Dn := by
  cases f with
  | nx a S => exact fun sg H2 io2 x d q => h sg H2 io2 (e.trans x) d q
  | rt a S => exact fun sg H2 io2 x d q => h sg H2 io2 (e.trans x) d q
  | er x a S => exact fun c dd sg H2 io2 x' d q => h c dd sg H2 io2 (e.trans x') d q
  | bad => exact h
theorem PostS.of_res {r : Res A} {e : Env} {k : A → Store → Fl} (h : PostS K C W io H (r.fl e k) Dn) (s : Slots K C io (Fz io H) e sg) :
    Post K C R W sg io H r (fun b H1 => ∃ io1 S1 a, Ext io H io1 H1 ∧ Den K C io1 S1 H1 ∧ R io1 (Fz io1 H1) a b ∧ PostS K C W io1 H1 (k a S1) Dn) := by
  cases r with
  | ok a S => exact fun b H2 io2 x d q => ⟨io2, S, a, x, d, q, PostS.ext x h⟩
  | err x S => exact fun cls dd H2 io2 x' d q => h cls dd sg H2 io2 x' d (s.ext x') q
  | bad => exact h
theorem tS.seq {r : Env → Store → Res A} {m : RS} (k : Env → A → Store → Fl) (h : tS K C W m Dn sg H) (e' : ∀ e S, m e S = (r e S).fl e (k e)) :
    tR K C R W r sg H fun b H1 => ∃ e S io a, Den K C io S H1 ∧ Slots K C io (Fz io H1) e sg ∧ R io (Fz io H1) a b ∧ PostS K C W io H1 (k e a S) Dn := by
  obtain ⟨e, S, io, d, s, p⟩ := h
  rw [e'] at p
  exact ⟨e, S, io, d, s, (p.of_res s).mono fun b H1 ⟨io1, S1, a, x, d1, q, p1⟩ => ⟨e, S1, io1, a, d1, s.ext x, q, p1⟩⟩
end
def sNil : RS := fun e S => .nx e S
def sSeq (a b : RS) : RS := fun e S => (a e S).andThen b
def sIf (t : RT) (a b : RS) : RS := fun e S => (t e S).fl e fun k S1 => if k = true then a e S1 else b e S1
def sRet (a : RE) : RS := fun e S => (a e S).fl e fun d S1 => .rt d S1
def sExp (a : RE) : RS := fun e S => (a e S).fl e fun _ S1 => .nx e S1
def sSet (i : Nat) (a : RE) : RS := fun e S => (a e S).fl e fun d S1 => .nx (e.set i (some d)) S1
section
variable {X : Cx} {C : Nat → Addr} {W : WX} {st : Stmt} {rest sa sb : List Stmt} {ma mb : RS} {a c : Expr} {ra : RE} {tc : RT} {pos : Pos}
theorem es_nil : PSs X [] (tS X.K C W sNil) := pss_nil.imp fun Dn sg H ⟨e, S, io, d, s, p⟩ => p sg H io (Ext.refl _ _) d s
theorem es_cons (h1 : PS X st (tS X.K C W ma)) (h2 : PSs X rest (tS X.K C W mb)) : PSs X (st :: rest) (tS X.K C W (sSeq ma mb)) :=
  (pss_cons h1 h2).imp fun Dn sg H ⟨e, S, io, d, s, p⟩ => ⟨e, S, io, d, s, by
    unfold sSeq at p
    cases q : ma e S with
    | nx e1 S1 =>
      rw [q] at p
      exact fun sg' H' io' x d' s' => ⟨e1, S1, io', d', s', PostS.ext x p⟩
    | rt d1 S1 => rw [q] at p; exact p
    | er x e1 S1 => rw [q] at p; exact p
    | bad => rw [q] at p; exact p⟩
theorem es_one (h1 : PS X st (tS X.K C W ma)) : PSs X [st] (tS X.K C W ma) := pss_one h1
theorem s_if (hc : PT X c (tT X.K C W tc)) (ha : PSs X sa (tS X.K C W ma)) (hb : PSs X sb (tS X.K C W mb)) : PS X (.If c sa sb pos) (tS X.K C W (sIf tc ma mb)) :=
  (ps_if hc ha hb).imp fun Dn sg H h => (tS.seq (R := EqR) (fun e k S1 => if k = true then ma e S1 else mb e S1) h fun _ _ => rfl).mono fun k H1 ⟨e, S, io, k1, d, s, q, p⟩ => by
    cases q
    cases k with
    | true => exact ⟨e, S, io, d, s, p⟩
    | false => exact ⟨e, S, io, d, s, p⟩
theorem s_ret (ha : PE X a (tE X.K C W ra)) : PS X (.Return (some a) pos) (tS X.K C W (sRet ra)) :=
  (ps_ret ha).imp fun Dn sg H h => (tS.seq (R := RepR X.K C) (fun e d S1 => .rt d S1) h fun _ _ => rfl).mono fun v H1 ⟨e, S, io, k1, d, s, q, p⟩ => p v H1 io (Ext.refl _ _) d q
theorem s_exp (ha : PE X a (tE X.K C W ra)) (hs : swapsWith a none pos.line X.env = pure false := by rfl) : PS X (.Expr a pos) (tS X.K C W (sExp ra)) :=
  (ps_expr ha hs).imp fun Dn sg H h => (tS.seq (R := RepR X.K C) (fun e d S1 => .nx e S1) h fun _ _ => rfl).mono fun v H1 ⟨e, S, io, k1, d, s, q, p⟩ => p sg H1 io (Ext.refl _ _) d s
theorem s_set (i : Nat) {x : Str} {pos' : Pos} (hN : X.N.Nodup) (ha : PE X a (tE X.K C W ra)) (hi : X.N[i]? = some x := by rfl) (hx : Loc X.env.scope x := by first | exact Or.inl rfl | exact Or.inr rfl) (hs : swapsWith a (some (.Name x pos')) pos.line X.env = pure false := by rfl)
    (hf : X.fn x = true ∨ X.env.scope.names.lookup x = some .local := by first | exact .inl rfl | exact .inr rfl | assumption) : PS X (.Assign [.Name x pos'] a pos) (tS X.K C W (sSet i ra)) :=
  (ps_set hN hi hx ha hs hf).imp fun Dn sg H h => (tS.seq (R := RepR X.K C) (fun e d S1 => .nx (e.set i (some d)) S1) h fun _ _ => rfl).mono fun v H1 ⟨e, S, io, k1, d, s, q, p⟩ => p _ H1 io (Ext.refl _ _) d (s.set i q)
end
def setAll {A : Type} : List Nat → List A → List (Option A) → List (Option A)
  | i :: is, d :: ds, e => setAll is ds (e.set i (some d))
  | _, _, e => e
def parts (S : Store) : D → Option (List D)
  | .tup xs => some xs
  | d => asL S d
inductive Tg where
  | nm (i : Nat)
  | tp (is : List Nat)
  | tn (qs : List (Nat ⊕ List Nat))
def bindN (S : Store) : List (Nat ⊕ List Nat) → List D → Env → Option Env
  | [], [], e => some e
  | .inl i :: qs, d :: ds, e => bindN S qs ds (e.set i (some d))
  | .inr is :: qs, d :: ds, e => (parts S d).bind fun xs => if xs.length = is.length then bindN S qs ds (setAll is xs e) else none
  | _, _, _ => none
def tnIx : List (Nat ⊕ List Nat) → List Nat
  | [] => []
  | .inl i :: qs => i :: tnIx qs
  | .inr is :: qs => is ++ tnIx qs
def bindT (S : Store) (d : D) (e : Env) : Tg → Option Env
  | .nm i => some (e.set i (some d))
  | .tp is => (parts S d).bind fun ds => if ds.length = is.length then some (setAll is ds e) else none
  | .tn qs => (parts S d).bind fun ds => bindN S qs ds e
theorem setAll_slots {K : PySem.W.Frag} {C : Nat → Addr} {io : Io} {F : Hp} : ∀ (is : List Nat) {ds : List D} {vs : List V} {e : Env} {sg : L2.St}, Slots K C io F e sg → Reps K C io F ds vs → Slots K C io F (setAll is ds e) (setAll is vs sg)
  | [], _, _, _, _, s, _ => s
  | _ :: _, _, _, _, _, s, .nil => s
  | i :: is, _, _, _, _, s, .cons h r => setAll_slots is (s.set i h) r
def Tg.ixs : Tg → List Nat
  | .nm i => [i]
  | .tp is => is
  | .tn qs => tnIx qs
def Agree (t : Tg) (sg sg' : L2.St) : Prop := ∀ vs : List Nat, (∀ i ∈ t.ixs, i ∈ vs) → wipe sg' vs = wipe sg vs
theorem wipe_get (sg : L2.St) (j : Nat) : ∀ vs : List Nat, (wipe sg vs)[j]? = if j ∈ vs then (if j < sg.length then some none else none) else sg[j]?
  | [] => by simp [wipe]
  | v :: vs => by
    have ih := wipe_get sg j vs
    have hl := wipe_length sg vs
    unfold wipe
    by_cases hv : j = v
    · subst hv
      by_cases hj : j < sg.length
      · rw [List.getElem?_set_self (by rw [hl]; exact hj)]
        simp [hj]
      · rw [List.getElem?_eq_none (by rw [List.length_set, hl]; omega)]
        simp [hj]
    · rw [List.getElem?_set_ne (Ne.symm hv), ih]
      simp [hv]
theorem wipe_set (sg : L2.St) (i : Nat) (x : Option V) {vs : List Nat} (h : i ∈ vs) : wipe (sg.set i x) vs = wipe sg vs := by
  apply List.ext_getElem?
  intro j
  rw [wipe_get, wipe_get, List.length_set]
  by_cases hj : j ∈ vs
  · simp [hj]
  · have : i ≠ j := fun e => hj (e ▸ h)
    rw [if_neg hj, if_neg hj, List.getElem?_set_ne this]
theorem wipe_setAll : ∀ (is : List Nat) (us : List V) (sg : L2.St) {vs : List Nat}, (∀ i ∈ is, i ∈ vs) → wipe (setAll is us sg) vs = wipe sg vs
  | [], _, _, _, _ => by simp [setAll]
  | i :: is, [], sg, vs, h => by simp [setAll]
  | i :: is, u :: us, sg, vs, h => by
    show wipe (setAll is us (sg.set i (some u))) vs = wipe sg vs
    rw [wipe_setAll is us _ (fun j hj => h j (List.mem_cons_of_mem _ hj)), wipe_set _ _ _ (h i List.mem_cons_self)]
def GD (X : Cx) (C : Nat → Addr) (tg : Expr) (t : Tg) : Prop :=
  PG X tg (fun v sg H Q => ∃ e S io d e', Den X.K C io S H ∧ Slots X.K C io (Fz io H) e sg ∧ Rep X.K C io (Fz io H) d v ∧ bindT S d e t = some e' ∧ ∀ sg', Slots X.K C io (Fz io H) e' sg' → Agree t sg sg' → Q sg' H)
theorem _root_.L2.PG.imp {X : Cx} {e : Expr} {t t' : TG} (h : PG X e t) (hi : ∀ v sg H Q, t' v sg H Q → t v sg H Q) : PG X e t' := ⟨fun pins s sg H v u Q I r hw => h.run pins s sg H v u Q I r (hi _ _ _ _ hw)⟩
theorem _root_.L2.PG.or {X : Cx} {e : Expr} {t t' : TG} (h : PG X e t) (h' : PG X e t') : PG X e (fun v sg H Q => t v sg H Q ∨ t' v sg H Q) := ⟨fun pins s sg H v u Q I r hw => hw.elim (h.run pins s sg H v u Q I r) (h'.run pins s sg H v u Q I r)⟩
section
variable {X : Cx} {C : Nat → Addr} {W : WX} {pos : Pos}
theorem g_nm (i : Nat) {x : Str} (hN : X.N.Nodup) (hi : X.N[i]? = some x := by rfl) (hx : Loc X.env.scope x := by first | exact Or.inl rfl | exact Or.inr rfl) (hf : X.fn x = true ∨ X.env.scope.names.lookup x = some .local := by first | exact .inl rfl | exact .inr rfl | assumption) : GD X C (.Name x pos) (.nm i) :=
  (pg_name hN hi hx hf).imp fun v sg H Q ⟨e, S, io, d, e', dn, s, r, b, q⟩ => by cases b; exact q _ (s.set i r) fun vs h => wipe_set _ _ _ (h i (by simp [Tg.ixs]))
def gAll (is : List Nat) : TGs := fun vs sg H Q => vs.length = is.length ∧ Q (setAll is vs sg) H
theorem gs_nil : PGs X [] (gAll []) := ⟨fun pins s sg H vs us Q I r h => pgs_nil.run pins s sg H vs us Q I r ⟨List.eq_nil_of_length_eq_zero h.1, by
  have := List.eq_nil_of_length_eq_zero h.1
  subst this
  exact h.2⟩⟩
theorem gs_cons (i : Nat) {is : List Nat} {x : Str} {es : List Expr} (hN : X.N.Nodup) (h2 : PGs X es (gAll is)) (hi : X.N[i]? = some x := by rfl) (hx : Loc X.env.scope x := by first | exact Or.inl rfl | exact Or.inr rfl) (hf : X.fn x = true ∨ X.env.scope.names.lookup x = some .local := by first | exact .inl rfl | exact .inr rfl | assumption) :
    PGs X (.Name x pos :: es) (gAll (i :: is)) := ⟨fun pins s sg H vs us Q I r h => (pgs_cons (pg_name hN hi hx hf) h2).run pins s sg H vs us Q I r (by
  obtain ⟨hl, h⟩ := h
  cases vs with
  | nil => cases hl
  | cons v vr => exact ⟨v, vr, rfl, by simpa using hl, h⟩)⟩
theorem g_tp {is : List Nat} {es : List Expr} {k : Nat} (hc : X.calm = true) (h : PGs X es (gAll is)) (hn : (assignEach es X.env).length = is.length := by rfl) (hst : (assignEach es X.env).findIdx? (·.1) = none := by rfl) : GD X C (.Tuple es k pos) (.tp is) :=
  ((pg_tup hc h hn hst).or (pg_lst hc h hn hst)).imp fun v sg H Q ⟨e, S, io, d, e', dn, s, r, b, q⟩ => by
    obtain ⟨ds, h1, h2⟩ := bind_some' b
    split at h2
    · rename_i hl
      cases h2
      unfold parts at h1
      split at h1
      · cases h1
        cases r with
        | tup q1 rs => exact .inl ⟨_, _, rfl, sqT_same (Fz_same _ _) q1, by rw [← rs.length]; exact hl, by rw [← rs.length]; exact hl, q _ (setAll_slots is s rs) fun vs h => wipe_setAll is _ _ h⟩
      · obtain ⟨p, vs, rfl, hq, rs⟩ := asL_rep h1 dn r
        exact .inr ⟨_, _, rfl, hq, by rw [← rs.length]; exact hl, by rw [← rs.length]; exact hl, q _ (setAll_slots is s rs) fun vs h => wipe_setAll is _ _ h⟩
    · cases h2
def sAsg (t : Tg) (a : RE) : RS := fun e S => (a e S).fl e fun d S1 => match bindT S1 d e t with
  | some e' => .nx e' S1
  | none => .bad
theorem s_asg {a tg : Expr} {t : Tg} {ra : RE} (ha : PE X a (tE X.K C W ra)) (hg : GD X C tg t) (hs : swapsWithSole [tg] a pos.line X.env = pure false := by rfl) (hw : swappedStores [tg] a X.env = pure none := by rfl)
    (h1 : (assignEach [tg] X.env).map (·.2) = [assign tg X.env] := by rfl) : PS X (.Assign [tg] a pos) (tS X.K C W (sAsg t ra)) :=
  (ps_asg ha hg hs hw h1).imp fun Dn sg H h => (tS.seq (R := RepR X.K C) (fun e d S1 => match bindT S1 d e t with | some e' => .nx e' S1 | none => .bad) h fun _ _ => rfl).mono fun v H1 ⟨e, S, io, k1, d, s, q, p⟩ => by
    cases hb : bindT S k1 e t with
    | none => rw [hb] at p; exact p.elim
    | some e' =>
      rw [hb] at p
      exact ⟨e, S, io, k1, e', d, s, q, hb, fun sg' s' _ => p sg' H1 io (Ext.refl _ _) d s'⟩
def sPar (is : List Nat) (as : RA) : RS := fun e S => (as e S).fl e fun ds S1 => if ds.length = is.length then .nx (setAll is ds e) S1 else .bad
end
def Fl.res : Fl → Res D
  | .nx _ S1 => .ok .non S1
  | .rt d S1 => .ok d S1
  | .er x _ S1 => .err x S1
  | .bad => .bad
def runDef (n : Nat) (m : RS) (ds : List D) (S : Store) : Res D := (m (ds.map some ++ List.replicate (n - ds.length) none) S).res
def spOf (K : PySem.W.Frag) (C : Nat → Addr) (n : Nat) (g : List D → Store → Res D) : Sp := fun vs H Q E =>
  vs.length = n ∧ ∃ ds S io, Den K C io S H ∧ Reps K C io (Fz io H) ds vs ∧ Post K C (RepR K C) (fun cls dd _ H' => E cls dd H') [] io H (g ds S) Q
theorem slots_start {K : PySem.W.Frag} {C : Nat → Addr} {io : Io} {F : Hp} {N : List Str} {ds : List D} {vs : List V} (r : Reps K C io F ds vs) : Slots K C io F (ds.map some ++ List.replicate (N.length - ds.length) none) (L2.start N vs) := by
  refine ⟨by simp [L2.start, r.length], fun i d h => ?_⟩
  by_cases hi : i < ds.length
  · rw [List.getElem?_append_left (by simpa using hi), List.getElem?_map] at h
    cases e : ds[i]? with
    | none => rw [e] at h; cases h
    | some x =>
      rw [e] at h
      cases h
      obtain ⟨v, h1, h2⟩ := r.get e
      refine ⟨v, ?_, h2⟩
      unfold L2.start
      rw [List.getElem?_append_left (by rw [List.length_map, ← r.length]; exact hi), List.getElem?_map, h1]
      rfl
  · rw [List.getElem?_append_right (by simpa using hi), List.getElem?_replicate] at h
    split at h <;> cases h
section
variable {P : Program} {w : World} {K : PySem.W.Frag} {mg : Str → Option Value} {base : Heap} {C : Nat → Addr}
theorem fn_ev {x qual : Str} {st : Stmt} {f : Addr} {fd : FuncData} {N ps : List Str} {k : Nat} {m : RS} (F : Fun K x qual st f fd) (S : FnScope N ps (defScope st))
    (hbody : ∀ (cdv : Value) (A : Around) (outer : List PySem.Env) (s : Shared) (H : Hp) (E : XK), Room k (A.deeper (PyProof.Rows.envOfC qual (defScope st) s.heap.objs.size f cdv)) →
      L2N.Takes (cxOf (L2N.CX P w) P w K mg base N qual (defScope st) f cdv A outer s H E) (fun cls d _ H => E cls d H) →
      PassesOwn (model P w) (cxOf (L2N.CX P w) P w K mg base N qual (defScope st) f cdv A outer s H E).A (cxOf (L2N.CX P w) P w K mg base N qual (defScope st) f cdv A outer s H E).env (cxOf (L2N.CX P w) P w K mg base N qual (defScope st) f cdv A outer s H E).xe →
      PSs (cxOf (L2N.CX P w) P w K mg base N qual (defScope st) f cdv A outer s H E) (defBody st) (tS K C (fun cls d _ H => E cls d H) m)) :
    FnOk P w K mg base (L2N.CX P w) (k + 1) f fd ps (spOf K C ps.length (runDef N.length m)) := by
  refine F.okN S (fun vs H Q E h => h.1) (fun cdv A outer s H vs Q E hr h => ?_)
  refine ⟨_, hbody cdv A outer s H E hr (L2N.takes_of rfl rfl rfl rfl) (passes_of rfl), ?_⟩
  obtain ⟨hl, ds, S, io, dn, rs, p⟩ := h
  refine ⟨_, S, io, dn, slots_start rs, ?_⟩
  unfold runDef Fl.res at p
  split at p
  · rename_i e S1 q
    rw [q]
    exact fun sg H' io' x d s => p _ H' io' x d .non
  · rename_i d S1 q
    rw [q]
    exact p
  · rename_i x e S1 q
    rw [q]
    exact fun cls dd sg H' io' x d s xr => p cls dd H' io' x d xr
  · exact p.elim
end
def rCall (g : List D → Store → Res D) (as : RA) : RE := fun e S => (as e S).bind fun ds S1 => g ds S1
end Ev
namespace Ev
open PySem PySem.Spec L2
def Wk (K : PySem.W.Frag) (C : Nat → Addr) : Io → Hp → List D → It → Prop := fun io F ds J =>
  ∀ (io' : Io) (H' : Hp) (S' : Store), (∀ (n : Nat) (a : Addr), io.l[n]? = some a → io'.l[n]? = some a) → Same F (Fz io' H') → Den K C io' S' H' →
    (∀ i, i < ds.length → J.go i H') ∧ J.stop ds.length H' ∧ ∀ i x H'', i < ds.length → J.yld i H' x H'' → ∃ d, ds[i]? = some d ∧ Ext io' H' io' H'' ∧ Den K C io' S' H'' ∧ Rep K C io' (Fz io' H'') d x
abbrev tI (K : PySem.W.Frag) (C : Nat → Addr) (W : WX) (r : RA) : TI := tR K C (Wk K C) W r
def rangeD (lo : Int) (n : Nat) : List D := (List.range n).map fun (i : Nat) => D.int (lo + (i : Int))
theorem wk_range {K : PySem.W.Frag} {C : Nat → Addr} {io : Io} {F : Hp} (lo : Int) (n : Nat) : Wk K C io F (rangeD lo n) (Itr lo n) := fun io' H' S' hp hs dn => by
  refine ⟨fun i hi => by show i < n; simpa [rangeD] using hi, by show n ≤ _; simp [rangeD], fun i x H'' hi y => ?_⟩
  obtain ⟨rfl, rfl⟩ := y
  have hi' : i < n := by simpa [rangeD] using hi
  exact ⟨.int (lo + i), by simp [rangeD, hi'], Ext.refl _ _, dn, .int _⟩
theorem _root_.L2.PI.imp {X : Cx} {tg e : Expr} {t t' : TI} (h : PI X tg e t) (hi : ∀ sg H Q, t' sg H Q → t sg H Q) : PI X tg e t' := ⟨fun pins s sg H Q I hw => h.run pins s sg H Q I (hi _ _ _ hw)⟩
theorem _root_.L2.PI.or {X : Cx} {tg e : Expr} {t t' : TI} (h : PI X tg e t) (h' : PI X tg e t') : PI X tg e (fun sg H Q => t sg H Q ∨ t' sg H Q) := ⟨fun pins s sg H Q I hw => hw.elim (h.run pins s sg H Q I) (h'.run pins s sg H Q I)⟩
def signsD (x : Str) : List D := x.cps.toList.map fun c => .str ⟨#[c]⟩
def itemsD : D → Option (List D)
  | .tup xs => some xs
  | .lst xs => some xs
  | .str x => some (signsD x)
  | _ => none
def rIt (a : RE) : RA := fun e S => (a e S).bind fun d S1 => ofO (itemsD d) S1
def ran1 : List D → Option (List D)
  | [.int j] => if -(2 ^ 62) ≤ j ∧ j < 2 ^ 62 then some (rangeD 0 j.toNat) else none
  | _ => none
def ran2 : List D → Option (List D)
  | [.int i, .int j] => if -(2 ^ 62) ≤ i ∧ i < 2 ^ 62 ∧ -(2 ^ 62) ≤ j ∧ j < 2 ^ 62 then some (rangeD i (j - i).toNat) else none
  | _ => none
def rRan (f : List D → Option (List D)) (as : RA) : RA := fun e S => (as e S).bind fun ds S1 => ofO (f ds) S1
section
variable {X : Cx} {C : Nat → Addr} {W : WX} {tg a b : Expr} {ra : RE} {rs : RA} {pos p : Pos}
theorem ei_range1 (hg : Gl X "range") (hm : X.mg "range" = none) (ha : PA X [a] (tA X.K C W rs)) (hs : starEach [a] X.env = [(false, eval a X.env)] := by rfl) : PI X tg (.Call (.Name "range" p) [a] [] pos) (tI X.K C W (rRan ran1 rs)) :=
  (pi_range1 hg hm ha hs).imp fun sg H R h => (tR.seq1 (R := RepsR X.K C) (fun _ ds S => ofO (ran1 ds) S) h fun _ _ => rfl).mono fun vs H1 ⟨e, S, io, ds, dn, s, r, p1⟩ => by
    obtain ⟨zs, ed, p1⟩ := p1.ofO
    unfold ran1 at ed
    split at ed
    · split at ed
      · rename_i hj
        cases ed
        obtain ⟨v, rfl, h⟩ := reps1 r
        cases h
        exact ⟨_, rfl, hj.1, hj.2, p1 _ H1 io (Ext.refl _ _) dn (wk_range 0 _)⟩
      · cases ed
    · cases ed
theorem ei_range2 (hg : Gl X "range") (hm : X.mg "range" = none) (ha : PA X [a, b] (tA X.K C W rs)) (hs : starEach [a, b] X.env = [(false, eval a X.env), (false, eval b X.env)] := by rfl) (hs2 : starEach [b] X.env = [(false, eval b X.env)] := by rfl) : PI X tg (.Call (.Name "range" p) [a, b] [] pos) (tI X.K C W (rRan ran2 rs)) :=
  (pi_range2 hg hm ha hs hs2).imp fun sg H R h => (tR.seq1 (R := RepsR X.K C) (fun _ ds S => ofO (ran2 ds) S) h fun _ _ => rfl).mono fun vs H1 ⟨e, S, io, ds, dn, s, r, p1⟩ => by
    obtain ⟨zs, ed, p1⟩ := p1.ofO
    unfold ran2 at ed
    split at ed
    · split at ed
      · rename_i hj
        cases ed
        obtain ⟨v, u, rfl, h, h2⟩ := reps2 r
        cases h; cases h2
        exact ⟨_, _, rfl, hj, p1 _ H1 io (Ext.refl _ _) dn (wk_range _ _)⟩
      · cases ed
    · cases ed
end
def forL (t : Tg) (body : RS) : List D → RS
  | [], e, S => .nx e S
  | d :: ds, e, S => match bindT S d e t with
    | none => .bad
    | some e1 => (body e1 S).andThen (forL t body ds)
def sFor (it : RA) (t : Tg) (body : RS) : RS := fun e S => (it e S).fl e fun ds S1 => forL t body ds e S1
section
variable {X : Cx} {C : Nat → Addr} {W : WX} {tg iter c : Expr} {ri : RA} {body : List Stmt} {mb : RS} {t : Tg} {tc : RT} {pos : Pos}
theorem s_for (hp : PassesOwn (model X.prog X.w) X.A X.env X.xe) (hc : X.calm = true) (hi : PI X tg iter (tI X.K C W ri)) (hg : GD X C tg t) (hb : PSs X body (tS X.K C W mb)) (hs : ∀ x, foldedSetIterable iter X.env x = pure x := by intro _; rfl) :
    PS X (.For tg iter body [] pos) (tS X.K C W (sFor ri t mb)) :=
  (ps_for hp hc hi hg hb hs).imp fun Dn sg H h => (tS.seq (R := Wk X.K C) (fun e ds S1 => forL t mb ds e S1) h fun _ _ => rfl).mono fun J H1 ⟨e, S, io, ds, dn, s, wk, p⟩ => by
    refine ⟨fun i m sg' H' => m + i = ds.length ∧ ∃ e' S' io', Ext io H1 io' H' ∧ Den X.K C io' S' H' ∧ Slots X.K C io' (Fz io' H') e' sg' ∧ PostS X.K C W io' H' (forL t mb (ds.drop i) e' S') Dn,
      ⟨ds.length, rfl, e, S, io, Ext.refl _ _, dn, s, p⟩, fun i m sg' H' ⟨hm, e', S', io', x', d', s', p'⟩ => ?_⟩
    obtain ⟨go, stop, yld⟩ := wk io' H' S' x'.pre x'.same d'
    by_cases hi : i < ds.length
    · rw [List.drop_eq_getElem_cons hi] at p'
      refine .inr ⟨go i hi, fun sg2 H2 => ∃ e2 S2 io2, Ext io H1 io2 H2 ∧ Den X.K C io2 S2 H2 ∧ Slots X.K C io2 (Fz io2 H2) e2 sg2 ∧ PostS X.K C W io2 H2 (forL t mb (ds.drop (i + 1)) e2 S2) Dn, fun sg2 H2 h2 => ⟨m - 1, by omega, by omega, h2⟩, fun x H2 y => ?_⟩
      obtain ⟨d, ed, x2, d2, r2⟩ := yld i x H2 hi y
      have ed' : ds[i] = d := by rw [List.getElem?_eq_getElem hi] at ed; exact Option.some.inj ed
      rw [ed'] at p'
      unfold forL at p'
      cases hb : bindT S' d e' t with
      | none => rw [hb] at p'; exact p'.elim
      | some e1 =>
        rw [hb] at p'
        refine ⟨e', S', io', d, e1, d2, s'.ext x2, r2, hb, fun sg3 s3 _ => ⟨e1, S', io', d2, s3, ?_⟩⟩
        have p2 := PostS.ext x2 p'
        cases q : mb e1 S' with
        | nx e4 S4 =>
          simp only [q, Fl.andThen] at p2
          exact fun sg4 H4 io4 x4 d4 s4 => ⟨e4, S4, io4, (x'.trans x2).trans x4, d4, s4, PostS.ext x4 p2⟩
        | rt d4 S4 => simp only [q, Fl.andThen] at p2; exact p2
        | er x4 e4 S4 => simp only [q, Fl.andThen] at p2; exact p2
        | bad => simp only [q, Fl.andThen] at p2; exact p2
    · have e1 : ds.length = i := by omega
      rw [List.drop_of_length_le (by omega)] at p'
      rw [e1] at stop
      exact .inl ⟨stop, p' sg' H' io' (Ext.refl _ _) d' s'⟩
def whileN (c : RT) (body : RS) : Nat → RS
  | 0, _, _ => .bad
  | n + 1, e, S => (c e S).fl e fun k S1 => if k = true then (body e S1).andThen (whileN c body n) else .nx e S1
theorem s_while (n : Nat) (hp : PassesOwn (model X.prog X.w) X.A X.env X.xe) (hc : PT X c (tT X.K C W tc)) (hb : PSs X body (tS X.K C W mb)) : PS X (.While c body [] pos) (tS X.K C W (whileN tc mb n)) :=
  (ps_while hp hc hb).imp fun Dn sg H ⟨e, S, io, dn, s, p⟩ => by
    refine ⟨fun m sg' H' => tS X.K C W (whileN tc mb m) Dn sg' H', ⟨n, e, S, io, dn, s, p⟩, fun m sg' H' h' => ?_⟩
    cases m with
    | zero => obtain ⟨_, _, _, _, _, p'⟩ := h'; exact p'.elim
    | succ m =>
      refine (tS.seq (R := EqR) (m := whileN tc mb (m + 1)) (fun e k S1 => if k = true then (mb e S1).andThen (whileN tc mb m) else .nx e S1) h' fun _ _ => rfl).mono fun k H1 ⟨e1, S1, io1, k1, d1, s1, q, p1⟩ => ?_
      cases q
      cases k with
      | false => exact p1 sg' H1 io1 (Ext.refl _ _) d1 s1
      | true =>
        refine ⟨tS X.K C W (whileN tc mb m) Dn, fun sg2 H2 h2 => ⟨m, Nat.lt_succ_self m, h2⟩, e1, S1, io1, d1, s1, ?_⟩
        rw [if_pos rfl] at p1
        cases q : mb e1 S1 with
        | nx e4 S4 =>
          simp only [q, Fl.andThen] at p1
          exact fun sg4 H4 io4 x4 d4 s4 => ⟨e4, S4, io4, d4, s4, PostS.ext x4 p1⟩
        | rt d4 S4 => simp only [q, Fl.andThen] at p1; exact p1
        | er x4 e4 S4 => simp only [q, Fl.andThen] at p1; exact p1
        | bad => simp only [q, Fl.andThen] at p1; exact p1
end
def putIx (S : Store) (o i v : D) : Option Store := match o, i with
  | .loc n, .int k => match S[n]? with
    | some (.lst xs) => (ixN xs.length k).bind fun j => some (S.set n (.lst (xs.set j v)))
    | _ => none
  | _, _ => none
def sPutIx (a o i : RE) : RS := fun e S => (a e S).fl e fun v S1 => (o e S1).fl e fun x S2 => (i e S2).fl e fun y S3 => match putIx S3 x y v with
  | some S4 => .nx e S4
  | none => .bad
def sAug (i : Nat) (f : Store → D → D → Option D) (a : RE) : RS := fun e S => match e[i]? with
  | some (some x) => (a e S).fl e fun y S1 => match f S1 x y with
    | some z => .nx (e.set i (some z)) S1
    | none => .bad
  | _ => .bad
section
variable {X : Cx} {C : Nat → Addr} {W : WX} {a o i : Expr} {ra ro ri : RE} {pos tpos : Pos}
theorem Den.list {K : PySem.W.Frag} {io : Io} {S : Store} {H : Hp} {n : Nat} {p : Addr} {xs : List D} (dn : Den K C io S H) (e : S[n]? = some (.lst xs)) (h : io.l[n]? = some p) : ∃ vs, H p = some (.lst vs) ∧ Reps K C io (Fz io H) xs vs := dn.obj n _ p e h
theorem Den.setL {K : PySem.W.Frag} {io : Io} {S : Store} {H : Hp} {n : Nat} {p : Addr} {ys : List D} {us : List V} (dn : Den K C io S H) (h : io.l[n]? = some p) (r : Reps K C io (Fz io H) ys us) : Ext io H io (upd H p (.lst us)) ∧ Den K C io (S.set n (.lst ys)) (upd H p (.lst us)) :=
  have hm : p ∈ io.all := mem_all h
  ⟨Ext.put hm, dn.put h ⟨us, upd_same, by rw [Fz_upd_old hm]; exact r⟩⟩
theorem s_putIx (ha : PE X a (tE X.K C W ra)) (ho : PE X o (tE X.K C W ro)) (hi : PE X i (tE X.K C W ri))
    (hA : ∀ v, assign (.Subscript o i tpos) X.env v = (do
      let ov ← holding [v] (eval o X.env)
      let iv ← holding [v, ov] (eval i X.env)
      standAt tpos
      holding [v, ov, iv] (setItem ov iv v)
      release [v, ov, iv] []) := by intro _; rfl)
    (hs : swapsWithSole [.Subscript o i tpos] a pos.line X.env = pure false := by rfl) (hw : swappedStores [.Subscript o i tpos] a X.env = pure none := by rfl) (h1 : (assignEach [.Subscript o i tpos] X.env).map (·.2) = [assign (.Subscript o i tpos) X.env] := by rfl) :
    PS X (.Assign [.Subscript o i tpos] a pos) (tS X.K C W (sPutIx ra ro ri)) :=
  (ps_asg ha (pg_sub ho hi set_list hA) hs hw h1).imp fun Dn sg H h => (tS.seq (R := RepR X.K C) (fun e v S1 => (ro e S1).fl e fun x S2 => (ri e S2).fl e fun y S3 => match putIx S3 x y v with | some S4 => .nx e S4 | none => .bad) h fun _ _ => rfl).mono fun v H1 ⟨e, S, io, v1, dn, s, r, p⟩ =>
    ⟨e, S, io, dn, s, (p.of_res (R := RepR X.K C) s).mono fun x H2 ⟨io2, S2, x1, x2, d2, r2, p2⟩ => ⟨e, S2, io2, d2, s.ext x2, (p2.of_res (R := RepR X.K C) (s.ext x2)).mono fun y H3 ⟨io3, S3, y1, x3, d3, r3, p3⟩ => by
      cases hp : putIx S3 x1 y1 v1 with
      | none => rw [hp] at p3; exact p3.elim
      | some S4 =>
        rw [hp] at p3
        unfold putIx at hp
        split at hp
        · rename_i n k
          cases r3
          split at hp
          · rename_i xs es
            obtain ⟨j, hj, hp⟩ := bind_some' hp
            cases hp
            cases r2 with
            | loc q =>
              have q3 := x3.pre _ _ q
              obtain ⟨vs, e1, rs⟩ := d3.list es q3
              obtain ⟨xx, dd⟩ := d3.setL (ys := xs.set j v1) q3 (rs.set ((r.ext x2).ext x3) j)
              exact ⟨_, vs, _, j, rfl, rfl, e1, by rw [← rs.length]; exact hj, p3 sg _ io3 xx dd (((s.ext x2).ext x3).ext xx)⟩
          · cases hp
        · cases hp⟩⟩
theorem s_aug (i : Nat) {x : Str} {f : Store → D → D → Option D} {op : Operator} {pos' : Pos} (hN : X.N.Nodup) (hop : OpD X C (inplaceOp op) f) (ha : PE X a (tE X.K C W ra)) (hi : X.N[i]? = some x := by rfl) (hx : Loc X.env.scope x := by first | exact Or.inl rfl | exact Or.inr rfl)
    (hf : X.fn x = true ∨ X.env.scope.names.lookup x = some .local := by first | exact .inl rfl | exact .inr rfl | assumption) : PS X (.AugAssign (.Name x pos') op a pos) (tS X.K C W (sAug i f ra)) :=
  (ps_aug hN hi hx ha hop hf).imp fun Dn sg H ⟨e, S, io, dn, s, p⟩ => by
    unfold sAug at p
    split at p
    · rename_i d ed
      obtain ⟨v, e1, r⟩ := s.get i d ed
      refine ⟨v, e1, e, S, io, dn, s, (p.of_res (R := RepR X.K C) s).mono fun y H1 ⟨io1, S1, y1, x1, d1, r1, p1⟩ => ?_⟩
      cases hz : f S1 d y1 with
      | none => rw [hz] at p1; exact p1.elim
      | some z =>
        rw [hz] at p1
        exact ⟨io1, S1, d, y1, z, d1, r.ext x1, r1, hz, fun w H' io' x' d' r' => p1 _ H' io' x' d' (((s.ext x1).ext x').set i r')⟩
    · exact p.elim
theorem iaddD_ok : OpD X C (inplaceOp .Add) (i2 (fun _ _ => true) fun i j => .int (i + j)) := opD_i20 iop_add fun _ _ _ _ => .int _
end
def tyD (S : Store) : D → Option String
  | .non => some "NoneType"
  | .bl _ => some "bool"
  | .int _ => some "int"
  | .str _ => some "str"
  | .tup _ => some "tuple"
  | .lst _ => some "list"
  | .dct _ _ => some "dict"
  | .dcf _ _ => some "dict"
  | .loc n => match S[n]? with
    | some (.lst _) => some "list"
    | some (.dK _ _) => some "dict"
    | _ => none
  | .exn _ _ _ => none
  | .dcT _ _ => none
theorem tyD_rep {K : PySem.W.Frag} {C : Nat → Addr} {io : Io} {S : Store} {H : Hp} {d : D} {v : V} {t : String} (h : tyD S d = some t) (dn : Den K C io S H) (r : Rep K C io (Fz io H) d v) : TyX K H v (.type t) := by
  cases r with
  | non => cases h; exact .base .non
  | bl => cases h; exact .base (.bl _)
  | int => cases h; exact .base (.int _)
  | str => cases h; exact .base (.str _)
  | tup q rs =>
    cases h
    rcases q with (q | ⟨o, q⟩) | ⟨o, its, n, hk, hc, _⟩
    · exact .base (.tup (Fz_same _ _ _ _ q))
    · exact .fTuple (Fz_same _ _ _ _ q)
    · exact .kTuple hk hc
  | lst q rs =>
    cases h
    rcases q with (q | ⟨o, q⟩) | ⟨o, its, n, hk, hc, _⟩
    · exact .base (.lst (Fz_same _ _ _ _ q))
    · exact .base (.frz (Fz_same _ _ _ _ q))
    · exact .kList hk hc
  | dct q e1 e2 rs => cases h; exact .base (.dK (Fz_same _ _ _ _ q))
  | dcf q e1 e2 rs => cases h; exact .fDict (Fz_same _ _ _ _ q)
  | dcT q e1 e2 rs => cases h
  | @loc n a q =>
    simp only [tyD] at h
    split at h
    · rename_i ys e
      cases h
      obtain ⟨vs, h1, h2⟩ := dn.obj n _ a e q
      exact .base (.lst h1)
    · rename_i ks ys e
      cases h
      obtain ⟨kvs, h1, h2, h3⟩ := dn.obj n _ a e q
      exact .base (.dK h1)
    · cases h
  | exn0 => cases h
  | exnF => cases h
def isiD (T : String) (S : Store) (d : D) : Option D := (tyD S d).bind fun t => (kitB t T).bind fun b => some (.bl b)
section
variable {X : Cx} {C : Nat → Addr} {W : WX} {a : Expr} {ra : RE} {x : Str} {T : String} {pos p p' : Pos}
theorem ee_isi (ha : PE X a (tE X.K C W ra)) (hg : Gl X "isinstance") (hm : X.mg "isinstance" = none) (hgx : Gl X x) (hmx : X.mg x = none) (hv : bootBuiltins x = some (.type T))
    (hn : x ≠ "__name__" := by decide) (hd : (x == ("__debug__" : Str)) = false := by decide) (hv0 : bootBuiltins "isinstance" = some (.builtin "isinstance") := by decide +kernel)
    (he : starEach [a, .Name x p'] X.env = [(false, eval a X.env), (false, eval (.Name x p') X.env)] := by rfl) : PE X (.Call (.Name "isinstance" p) [a, .Name x p'] [] pos) (tE X.K C W (rUn (isiD T) ra)) :=
  (pe_callB call_isi hg hm hv0 (pa_cons ha (pa_cons (pe_bltn hgx hmx hv (v := .ty T) rfl hn hd) pa_nil rfl) he) (by decide) (by decide) he rfl).imp fun sg H Q h => (tR.seq1 (R := RepR X.K C) (fun _ d S => ofO (isiD T S d) S) h fun _ _ => rfl).mono fun v H1 ⟨e, S, io, d, dn, s, r, p⟩ => by
    obtain ⟨z, ez, p⟩ := p.ofO
    obtain ⟨t, et, ez⟩ := bind_some' ez
    obtain ⟨b, eb, ez⟩ := bind_some' ez
    cases ez
    exact ⟨v, .ty T, .type t, .type T, b, rfl, .ty T, tyD_rep et dn r, kit_ty eb, p _ H1 io (Ext.refl _ _) dn (.bl _)⟩
end
end Ev
namespace Ev
open PySem PySem.Spec L2
def Fl.clr (i : Nat) : Fl → Fl
  | .nx e S => .nx (e.set i none) S
  | .rt d S => .rt d S
  | _ => .bad
def catchAs (sub : Nat → Option Bool) (i : Nat) (suite : RS) (x : Exn) (e : Env) (S : Store) : Fl := match sub x.c with
  | some true => (suite (e.set i (some (.exn x.c x.ns x.xs))) S).clr i
  | some false => .er x e S
  | none => .bad
def sTryAs (sub : Nat → Option Bool) (i : Nat) (body suite : RS) : RS := fun e S => match body e S with
  | .er x e1 S1 => catchAs sub i suite x e1 S1
  | f => f
section
variable {X : Cx} {C : Nat → Addr} {W : WX} {x n : Str} {c : Value} {i : Nat} {body suite : List Stmt} {b0 : Stmt} {np pos pos' : Pos} {mb ms : RS} {sub : Nat → Option Bool}
def sRaise0 (c : Nat) : RS := fun e S => .er ⟨c, [], []⟩ e S
theorem s_raise0 (c : Nat) {m : Str} {j : Nat} {bmB : List Value} {B newId initId : String} {p p2 : Pos} (hc : X.calm = true) (tk : L2N.Takes X W) (F : ExcBaseFacts B newId initId bmB) (q : PySem.W.excIn X.K (C c) bmB newId = true) (gC : X.mg x = some (.ref (C c))) (kC : PySem.W.keepIn X.K (.ref (C c)) = true) (r : Raises X (.ref (C c))) (hg : Gl X x)
    (hdb : (x == ("__debug__" : Str)) = false := by decide) : PS X (.Raise (some (.Call (.Name x p) [.Constant (.str m) j p2] [] pos')) none pos) (tS X.K C W (sRaise0 c)) :=
  (L2N.ps_raise hc tk (L2N.pmk_own F q gC kC r hg hdb)).imp fun Dn sg H ⟨e, S, io, d, s, p⟩ => p _ _ sg H io (Ext.refl _ _) d s ⟨rfl, .inl ⟨rfl, rfl, rfl⟩⟩
end
end Ev
namespace Ev
open PySem PySem.Spec L2
abbrev TK := Sum String Nat
def tkV (C : Nat → Addr) : TK → Value
  | .inl t => .type t
  | .inr c => .ref (C c)
def kqAny : List (TK → Option Bool) → TK → Option Bool
  | [], _ => some false
  | q :: qs, k => (q k).bind fun b => if b = true then some true else kqAny qs k
section
variable {X : Cx} {C : Nat → Addr} {W : WX} {a e2 : Expr} {es : List Expr} {ra : RE} {c : V} {cs : List V} {cv : Value} {cvs : List Value} {kq : TK → Option Bool} {pos p p' : Pos}
inductive KqAll (K : PySem.W.Frag) (C : Nat → Addr) : List (TK → Option Bool) → List Value → Prop
  | nil : KqAll K C [] []
  | cons {q : TK → Option Bool} {qs : List (TK → Option Bool)} {v : Value} {vs : List Value} (h : ∀ k b, q k = some b → PySem.W.kitOne K (tkV C k) v = some b) (hX : ∀ n b, q (.inr n) = some b → ExcC K (C n)) (r : KqAll K C qs vs) : KqAll K C (q :: qs) (v :: vs)
theorem KqAll.any {K : PySem.W.Frag} : ∀ {qs : List (TK → Option Bool)} {vs : List Value}, KqAll K C qs vs → ∀ k b, kqAny qs k = some b → PySem.W.kitAny K (tkV C k) vs = some b
  | _, _, .nil, k, b, h => by cases h; exact kitAny_nil
  | _, _, .cons hq _ r, k, b, h => by
    obtain ⟨b1, e1, e2⟩ := bind_some' h
    cases b1 with
    | true =>
      rw [if_pos rfl] at e2
      cases e2
      exact kitAny_cons (hq k _ e1) (fun z => nomatch z) fun _ => rfl
    | false =>
      rw [if_neg Bool.false_ne_true] at e2
      exact kitAny_cons (hq k _ e1) (fun _ => KqAll.any r k b e2) fun z => nomatch z
end
theorem law_end {K : PySem.W.Frag} {C : Nat → Addr} {g : List D → Store → Res D} {H : Hp} {a : Addr} {ns : List Int} (hS : SqL K H a (ns.map V.int)) (h : ∃ S', g [.lst (ns.map D.int)] [] = .ok (.bl true) S') :
    spOf K C 1 g [.ref a] H (fun v _ => v = .bl true) (fun _ _ _ => False) := by
  obtain ⟨S', e⟩ := h
  have e0 : Fz ⟨[], []⟩ H = H := by funext b; unfold Fz Io.all; simp
  have intsR : ∀ ms : List Int, Reps K C ⟨[], []⟩ H (ms.map D.int) (ms.map V.int) := fun ms => by
    induction ms with
    | nil => exact .nil
    | cons m r ih => exact .cons (.int m) ih
  refine ⟨rfl, [.lst (ns.map D.int)], [], ⟨[], []⟩, ⟨rfl, List.nodup_nil, fun n o a h => (by cases h), fun p h => (by cases h)⟩, .cons (.lst (by rw [e0]; exact hS) (by rw [e0]; exact intsR ns)) .nil, ?_⟩
  rw [e]
  exact fun v H' io' x d r => by cases r; rfl
theorem cx_end {P : Program} {w : World} {H : Hp} {s : Shared} {e : Value} {s' : Shared} (h : L2N.CX P w [] H s (fun _ _ _ => False) e s') : False := by
  obtain ⟨_, _, _, _, _, _, _, _, _, _, _, _, h⟩ := h
  exact h
end Ev
namespace Ev
open PySem PySem.Spec L2
section
variable {X : Cx} {C : Nat → Addr} {W : WX} {pos : Pos} {x : Str}
theorem ee_gI {i : Int} (h : ∃ t, X.mg x = some (.int i t)) (hg : Gl X x := by rfl) (hd : (x == ("__debug__" : Str)) = false := by decide) : PE X (.Name x pos) (tE X.K C W (rCon (.int i))) :=
  let ⟨_, h⟩ := h
  ee_glob (v := .int i) hg h ⟨_, rfl⟩ (fun _ _ => .int _) hd
def rDct0 : RE := fun _ S => .ok (.dct [] []) S
end
end Ev
namespace Ev
open PySem PySem.Spec L2
def Res.calm {A : Type} : Res A → Res A
  | .ok a S => .ok a S
  | _ => .bad
end Ev
namespace Ev
open PySem PySem.Spec L2 PyProof.Rows
end Ev
namespace Ev
open PySem PySem.Spec L2
section
variable {X : Cx} {C : Nat → Addr}
def seqD (S : Store) : D → Option (List D)
  | .tup xs => some xs
  | d => asL S d
def listD (S : Store) : List D → Option D
  | [d] => (seqD S d).bind fun xs => some (.lst xs)
  | _ => none
def tupleD (S : Store) : List D → Option D
  | [d] => (seqD S d).bind fun xs => some (.tup xs)
  | _ => none
def showOk (p : PyData) : Bool := p.showable && !p.hasDict && decide (p.shown.length ≤ sizeLine)
def reprD (S : Store) : List D → Option D
  | [d] => (pyD S deepN d).bind fun p => if showOk p = true then some (.str p.shown) else none
  | _ => none
theorem reprD_ok (hu : X.A.units + 64 < cLine) (hg : X.A.guards = some []) : CallD X C (.builtin "repr") reprD := fun pins s sg H xs us Q I rx ⟨io, S, as, d, dn, ra, e, q⟩ => by
  unfold reprD at e
  split at e
  · rename_i d0
    obtain ⟨v, rfl, h⟩ := reps1 ra
    obtain ⟨p, h1, h2⟩ := bind_some' e
    split at h2
    · rename_i ok
      cases h2
      obtain ⟨u, rfl, ru⟩ := rx.one
      obtain ⟨⟨as, r1⟩, b1, l1⟩ := reads_of I dn h1 h ru
      simp only [showOk, Bool.and_eq_true, decide_eq_true_eq, Bool.not_eq_true'] at ok
      obtain ⟨⟨o1, o2⟩, o3⟩ := ok
      have fin : ∀ k t, EP X pins sg Q (.str p.shown t) { s with toks := k } := fun k t => ⟨.str _, H, I.tok k, ⟨t, rfl⟩, q _ H io (Ext.refl _ _) dn (.str _)⟩
      have hl : p.depth ≤ 60 := l1
      cases r1 with
      | none => exact P.repr_of_none (fin _ _)
      | bool => exact P.repr_of_bool (fin _ _)
      | int => exact P.repr_of_int (by simpa [PyData.showable] using o1) (fin _ _)
      | str => exact P.repr_of_str (fin _ _) o3
      | list g1 g2 g3 g4 => exact repr_of_reads' (.list g1 g2 g3 g4) o1 (PyData.noDict_hsm o2) hg (by omega) (fun _ _ e => e) (fun h' u tk hk => ⟨.str _, H, I.kept (t' := tk) hk, ⟨u, rfl⟩, q _ H io (Ext.refl _ _) dn (.str _)⟩) o3
      | tuple g1 g2 g3 g4 => exact repr_of_reads' (.tuple g1 g2 g3 g4) o1 (PyData.noDict_hsm o2) hg (by omega) (fun _ _ e => e) (fun h' u tk hk => ⟨.str _, H, I.kept (t' := tk) hk, ⟨u, rfl⟩, q _ H io (Ext.refl _ _) dn (.str _)⟩) o3
      | dict => simp [PyData.hasDict] at o2
    · cases h2
  · cases e
abbrev MF := Store → D → List D → Option (D × Store)
variable {W : WX} {o e : Expr} {es : List Expr} {ro : RE} {rs : RA} {name : Str} {apos cpos : Pos} {T id : String} {f : MF}
end
end Ev
namespace Ev
open PySem PySem.Spec L2 PyProof.Rows
structure RoomG (k : Nat) (A : Around) : Prop where
  room : Room k A
  gd : A.guards = some []
structure FnG (P : Program) (w : World) (K : PySem.W.Frag) (mg : Str → Option Value) (base : Heap) (CX : CXT) (k : Nat) (f : Addr) (fd : FuncData) (ps : List Str) (sp : Sp) : Prop where
  len : ∀ vs H Q E, sp vs H Q E → vs.length = ps.length
  run : ∀ (A : Around) (outer : List PySem.Env) (s : Shared) (H : Hp) (args : Args) (us : List Value) (vs : List V) (Q : VK) (E : XK), RoomG k A → Env0 P w K mg base A outer s H → BindsTo s fd args (ps.zip us) → Vals vs us → sp vs H Q E →
    codeAny (model P w) A (.call (.ref f) args) (CR CX outer P w H s Q E) s
theorem RoomG.mono {j k : Nat} {A : Around} (r : RoomG k A) (h : j ≤ k) : RoomG j A := ⟨r.room.mono h, r.gd⟩
theorem FnG.of {P : Program} {w : World} {K : PySem.W.Frag} {mg : Str → Option Value} {base : Heap} {CX : CXT} {k : Nat} {f : Addr} {fd : FuncData} {ps : List Str} {sp : Sp} (F : FnOk P w K mg base CX k f fd ps sp) : FnG P w K mg base CX k f fd ps sp :=
  ⟨F.len, fun A outer s H args us vs Q E hr => F.run A outer s H args us vs Q E hr.room⟩
section
variable {P : Program} {w : World} {K : PySem.W.Frag} {mg : Str → Option Value} {base : Heap} {C : Nat → Addr}
theorem fnG_ev {x qual : Str} {st : Stmt} {f : Addr} {fd : FuncData} {N ps : List Str} {k : Nat} {m : RS} (F : Fun K x qual st f fd) (S : FnScope N ps (defScope st))
    (hbody : ∀ (cdv : Value) (A : Around) (outer : List PySem.Env) (s : Shared) (H : Hp) (E : XK), RoomG k (A.deeper (envOfC qual (defScope st) s.heap.objs.size f cdv)) →
      L2N.Takes (cxOf (L2N.CX P w) P w K mg base N qual (defScope st) f cdv A outer s H E) (fun cls d _ H => E cls d H) →
      PassesOwn (model P w) (cxOf (L2N.CX P w) P w K mg base N qual (defScope st) f cdv A outer s H E).A (cxOf (L2N.CX P w) P w K mg base N qual (defScope st) f cdv A outer s H E).env (cxOf (L2N.CX P w) P w K mg base N qual (defScope st) f cdv A outer s H E).xe →
      PSs (cxOf (L2N.CX P w) P w K mg base N qual (defScope st) f cdv A outer s H E) (defBody st) (tS K C (fun cls d _ H => E cls d H) m)) :
    FnG P w K mg base (L2N.CX P w) (k + 1) f fd ps (spOf K C ps.length (runDef N.length m)) := by
  obtain ⟨oc, od, kV, doc, pm, an, cdv, ct, osl, rfl, lk, hcd⟩ := F.ex
  refine ⟨fun vs H Q E h => h.1, fun A outer s H args us vs Q E hr e0 hb r hsp => ?_⟩
  have KX : K.In s.heap := e0.mod.kin.keeps fun b o e => (e0.bs b o e).1
  have rdp := hr.room.deeper (envOfC qual (defScope st) s.heap.objs.size f cdv)
  have ht := hbody cdv A outer s H E ⟨rdp, hr.gd⟩ (L2N.takes_of rfl rfl rfl rfl) (passes_of rfl)
  have hq : tS K C (fun cls d _ H => E cls d H) m { nx := fun _ H' => Q .non H', rt := Q } (L2.start N vs) H := by
    obtain ⟨hl, ds, S, io, dn, rs, p⟩ := hsp
    refine ⟨_, S, io, dn, slots_start rs, ?_⟩
    unfold runDef Fl.res at p
    split at p
    · rename_i e S1 q
      rw [q]
      exact fun sg H' io' x d s => p _ H' io' x d .non
    · rename_i d S1 q
      rw [q]
      exact p
    · rename_i x e S1 q
      rw [q]
      exact fun cls dd sg H' io' x d s xr => p cls dd H' io' x d xr
    · exact p.elim
  refine codeAny_call_function hr.room.depth (KX _ _ lk) rfl S.co S.gen rfl (PySem.W.codeRec_of KX hcd) (hb _ _ _ _ (wpAny_newFunctionEnv_cells S.kind (fun y hy => ?_) fun env he s1 x => ?_))
  · obtain ⟨n, v⟩ := y
    exact (S.par n (List.of_mem_zip hy).1).imp id fun q => ⟨q, PySem.W.cellsFrom_some _ _ _ (.inl q)⟩
  · subst he
    have lim : s.heap.NoLimit := e0.mod.nolimit.keeps fun b o e => (e0.bs b o e).1
    refine ⟨lim.keeps x.toInCall.keep, codeAny_func (wpAny_mono (ht.run [] s1 (L2.start N vs) H _ (inv_start S hr.room.hd e0 hsp.1 r x) hq) (fun fl s' hs => ?_) fun e s' hs => hs)⟩
    cases fl with
    | ret u => obtain ⟨v, _, H', J, rv, q⟩ := hs; exact ⟨v, H', J.os, J.bare, J.base, J.hok, rv, q⟩
    | next => obtain ⟨_, H', J, q⟩ := hs; exact ⟨.non, H', J.os, J.bare, J.base, J.hok, rfl, q⟩
    | brk => obtain ⟨_, _, _, q⟩ := hs; exact False.elim q
    | cont => obtain ⟨_, _, _, q⟩ := hs; exact False.elim q
end
structure Cal (X : Cx) (f : Addr) (fd : FuncData) (ps : List Str) (sp : Sp) : Prop where
  len : ∀ vs H Q E, sp vs H Q E → vs.length = ps.length
  run : ∀ (pins : List (Addr × Obj)) (sg : L2.St) (s : Shared) (H : Hp) (args : Args) (us : List Value) (vs : List V) (Q : VK) (E : XK), L2.Inv X pins sg H s → BindsTo s fd args (ps.zip us) → Vals vs us → sp vs H Q E →
    codeAny (model X.prog X.w) X.A (.call (.ref f) args) (CR (L2N.CX X.prog X.w) X.stack X.prog X.w H s Q E) s
theorem Cal.ok {X : Cx} {k : Nat} {f : Addr} {fd : FuncData} {ps : List Str} {sp : Sp} (F : FnOk X.prog X.w X.K X.mg X.base (L2N.CX X.prog X.w) k f fd ps sp) (hr : Room k X.A) : Cal X f fd ps sp :=
  ⟨F.len, fun pins sg s H args us vs Q E I => F.run X.A X.stack s H args us vs Q E hr I.env0⟩
theorem Cal.g {X : Cx} {k : Nat} {f : Addr} {fd : FuncData} {ps : List Str} {sp : Sp} (F : FnG X.prog X.w X.K X.mg X.base (L2N.CX X.prog X.w) k f fd ps sp) (hr : RoomG k X.A) : Cal X f fd ps sp :=
  ⟨F.len, fun pins sg s H args us vs Q E I => F.run X.A X.stack s H args us vs Q E hr I.env0⟩
inductive Src where
  | p (i : Nat)
  | k (j : Nat)
  | c (d : D)
def pick1 (us ws : List D) : Src → Option D
  | .p i => us[i]?
  | .k j => ws[j]?
  | .c d => some d
def pick (us ws : List D) : List Src → Option (List D)
  | [] => some []
  | q :: r => (pick1 us ws q).bind fun x => (pick us ws r).bind fun xs => some (x :: xs)
def CstV : D → Value → Prop
  | .non, v => v = .none
  | .bl b, v => v = .bool b
  | .int i, v => ∃ t, v = .int i t
  | .str x, v => ∃ t, v = .str x t
  | _, _ => False
def srcV (us ws : List Value) : Src → Value → Prop
  | .p i, v => us[i]? = some v
  | .k j, v => ws[j]? = some v
  | .c d, v => CstV d v
inductive SrcVs (us ws : List Value) : List Src → List Value → Prop
  | nil : SrcVs us ws [] []
  | cons {q : Src} {r : List Src} {v : Value} {vs : List Value} : srcV us ws q v → SrcVs us ws r vs → SrcVs us ws (q :: r) (v :: vs)
structure BindK (K : PySem.W.Frag) (fd : FuncData) (ps : List Str) (n : Nat) (ks : List Str) (src : List Src) : Prop where
  to : ∀ (s : Shared) (us ws : List Value), K.In s.heap → us.length = n → ws.length = ks.length → ∃ zs, BindsTo s fd ⟨us, ks.zip ws⟩ (ps.zip zs) ∧ SrcVs us ws src zs
theorem BindK.plain {K : PySem.W.Frag} {fd : FuncData} {ps : List Str} {n : Nat} {ks : List Str} {src : List Src} {x qual : Str} {params : Arguments} {body : List Stmt} {scope : Scope} {kws : List (Str × V)} {f : Addr} (F : FunD K x qual params body scope [] kws f fd)
    (h : ∀ (kV doc pm : Value) (an : Option Addr) (cdv ct : Value) (us ws : List Value), us.length = n → ws.length = ks.length → ∃ zs, bindArgs (PySem.W.fnOf x qual params body scope .none kV doc pm an cdv ct) ⟨us, ks.zip ws⟩ = pure (ps.zip zs) ∧ SrcVs us ws src zs) : BindK K fd ps n ks src := by
  obtain ⟨oc, od, dV, kV, doc, pm, an, cdv, ct, osl, rfl, lk, hcd, hD, hK⟩ := F.ex
  rcases hD with ⟨_, rfl⟩ | ⟨e, _⟩
  · refine ⟨fun s us ws KI h1 h2 => ?_⟩
    obtain ⟨zs, e1, e2⟩ := h kV doc pm an cdv ct us ws h1 h2
    exact ⟨zs, .of_eq e1, e2⟩
  · exact absurd rfl e
def rCallK (g : List D → Store → Res D) (src : List Src) (as ks : RA) : RE := fun e S => (as e S).bind fun ds S1 => (ks e S1).bind fun es S2 => match pick ds es src with
  | some zs => g zs S2
  | none => .bad
theorem SrcVs.length {us ws : List Value} : ∀ {src : List Src} {zs : List Value}, SrcVs us ws src zs → zs.length = src.length
  | _, _, .nil => rfl
  | _, _, .cons _ h => by simp [SrcVs.length h]
section
variable {X : Cx} {C : Nat → Addr} {W : WX} {n : Nat} {f : Addr} {fd : FuncData} {ps ks : List Str} {g : List D → Store → Res D} {x : Str} {p pos : Pos} {e : Expr} {es : List Expr} {rs rk : RA} {src : List Src} {kws : List Keyword} {m : Nat}
theorem run_cal {pins : List (Addr × Obj)} {sg : L2.St} {H : Hp} {s : Shared} {Q : VK} {us zs : List Value} {kw : List (Str × Value)} {vs : List V} {sp : Sp} (F : Cal X f fd ps sp) (tk : L2N.Takes X W) (hb : BindsTo s fd ⟨us, kw⟩ (ps.zip zs)) (I : L2.Inv X pins sg H s) (r : Vals vs zs) (h : sp vs H Q (WE W sg)) :
    wpAny (model X.prog X.w) X.A (call (.ref f) us kw) (EP X pins sg Q) X.xe s := by
  refine wpAny_call (codeAny_mono (F.run pins sg s H _ zs vs Q (WE W sg) I hb r h) fun r s' hq => ?_)
  cases r with
  | error e => exact L2N.passAt tk sg pins H s e s' I hq
  | ok fl =>
    cases fl with
    | ret u => exact I.after hq
    | next => exact False.elim hq
    | brk => exact False.elim hq
    | cont => exact False.elim hq
theorem spOf_of {K : PySem.W.Frag} {n : Nat} {ds : List D} {vs : List V} {S : Store} {io : Io} {H : Hp} {sg : L2.St} {Q : VK} (hl : vs.length = n) (dn : Den K C io S H) (r : Reps K C io (Fz io H) ds vs) (p : Post K C (RepR K C) W sg io H (g ds S) Q) : spOf K C n g vs H Q (WE W sg) :=
  ⟨hl, ds, S, io, dn, r, by
    cases q : g ds S with
    | ok a S1 => rw [q] at p; exact p
    | err y S1 => rw [q] at p; exact p
    | bad => rw [q] at p; exact p⟩
theorem ee_callC (F : Cal X f fd ps (spOf X.K C n g)) (hg : Gl X x) (hm : X.mg x = some (.ref f)) (hk : PySem.W.keepIn X.K (.ref f) = true) (hb : Binds X.K fd ps []) (tk : L2N.Takes X W)
    (ha : PA X (e :: es) (tA X.K C W rs)) (hn : AL n rs) (hdb : (x == ("__debug__" : Str)) = false := by decide) (he : starEach (e :: es) X.env = (false, eval e X.env) :: starEach es X.env := by rfl) (hpl : (backTo pos (starEach es X.env)).any (·.1) = false := by rfl) :
    PE X (.Call (.Name x p) (e :: es) [] pos) (tE X.K C W (rCall g rs)) := by
  refine ⟨fun pins s sg H Q I h => ?_⟩
  have h2 := tA.alen hn (tR.seq1 (fun _ ds S => g ds S) h fun _ _ => rfl)
  refine wpAny_Call_Name_kw (ld_glob I hg hm ?_ hdb)
  refine PySem.W.callWith_K (h₀ := X.base) I.ok.mod.kin hk (thn (ha.run pos pins s sg H _ I h2) fun us s1 ⟨vs, H1, I1, r, hl, e, S, io, ds, dn, sl, rr, q⟩ => ⟨I1.kIn, ?_⟩) he hpl
  have hl2 : us.length = ps.length := by
    rw [← r.length]
    exact F.len vs H1 Q _ (spOf_of hl dn rr q)
  have b := hb s1 us I1.kIn (by rw [List.append_nil]; exact hl2)
  rw [List.append_nil] at b
  exact run_cal F tk b I1 r (spOf_of hl dn rr q)
end
theorem law_callG {P : Program} {w : World} {K : PySem.W.Frag} {mg mb : Str → Option Value} {k : Nat} {fa a : Addr} {fd : FuncData} {x : Str} {sp : Sp} {s1 : Shared} {vs : List Value} {ns : List Int}
    (KX : K.In s1.heap) (hns : s1.heap.Ns mainGlobals mg) (hb : s1.heap.Ns builtinsNs mb) (hbb : ∀ x : Str, x ≠ "__name__" → mb x = bootBuiltins x) (hlim : s1.heap.NoLimit) (hg : s1.gens = #[])
    (ha : s1.heap.get? a = some { cls := .type "list", data := .seq vs.toArray }) (hi : IntsAre vs ns) (hl : ns.length ≤ sizeLine) (hr : Room k callerA)
    (F : ∀ base : Heap, K.In base → base.Ns mainGlobals mg → FnG P w K mg base (L2N.CX P w) k fa fd [x] sp) (hbind : ∀ (s : Shared) (u : Value), BindsTo s fd ⟨[u], []⟩ [(x, u)])
    (hsp : ∀ H : Hp, Only H → SqL K H a (ns.map V.int) → sp [.ref a] H (fun v _ => v = .bl true) fun _ _ _ => False) :
    codeAny (model P w) callerA (.call (.ref fa) ⟨[.ref a], []⟩) (fun r s' => r = .ok (.ret (.bool true)) ∧ OldK s1.heap s'.heap ∧ s'.os = s1.os ∧ AllBare s'.gens) s1 := by
  have rv := vals_ints hi
  -- the run from a heap H that knows the script at most
  have go : ∀ H : Hp, Only H → SqL K H a (ns.map V.int) → HOk P w H s1.heap → (∀ b u, H b = some u → b = a ∧ K.lookup a = none) →
      codeAny (model P w) callerA (.call (.ref fa) ⟨[.ref a], []⟩) (fun r s' => r = .ok (.ret (.bool true)) ∧ OldK s1.heap s'.heap ∧ s'.os = s1.os ∧ AllBare s'.gens) s1 := fun H hO hS hok hA => by
    have offD : ∀ {b : Addr} {o : Obj} {es : Array DictEntry} {ep : Nat}, s1.heap.get? b = some o → o.data = .dict es ep → H b = none := fun {b o es ep} e d => by
      cases q : H b with
      | none => rfl
      | some u =>
        obtain ⟨rfl, _⟩ := hA b u q
        rw [ha] at e
        cases e
        cases d
    have nsK : ∀ {b : Addr} {m : Str → Option Value}, s1.heap.Ns b m → (hidT s1.heap H).Ns b m := fun {b m} ⟨o, es, ep, e, d, r⟩ => ⟨o, es, ep, hidT_get e (offD e d), d, r⟩
    have hKb : K.In (hidT s1.heap H) := fun b o e => hidT_get (KX b o e) (by
      cases q : H b with
      | none => rfl
      | some u =>
        obtain ⟨rfl, hk⟩ := hA b u q
        rw [hk] at e
        cases e)
    have lim : (hidT s1.heap H).NoLimit := by
      obtain ⟨mc, h1, h2⟩ := hlim
      exact ⟨mc, nsK h1, h2⟩
    have e0 : Env0 P w K mg (hidT s1.heap H) callerA [] s1 H := ⟨rfl, ⟨hKb, nsK hns, ⟨mb, nsK hb, hbb⟩, lim⟩, fun b o e => of_hidT e, Nat.le_of_eq (hidT_size _ _), trivial, fun b hb => (by cases hb), hok, .of_eq hg⟩
    refine codeAny_mono ((F _ hKb (nsK hns)).run callerA [] s1 H ⟨[.ref a], []⟩ [.ref a] [.ref a] _ _ ⟨hr, rfl⟩ e0 (hbind s1 (.ref a)) (.cons rfl .nil) (hsp H hO hS)) fun r s' h => ?_
    cases r with
    | error e => exact (cx_end h).elim
    | ok fl =>
      cases fl with
      | ret u =>
        obtain ⟨v, H', os, bare, un, hok', r', q⟩ := h
        subst q
        obtain rfl : u = Value.bool true := r'
        refine ⟨rfl, OldK.of_keep fun b o e => ?_, os, bare⟩
        rcases hO b with z | ⟨ob, xs, z⟩
        · exact un.keep b o e z (fun y => by cases y) (by simp)
        · obtain ⟨e1, _⟩ := hok b _ z
          obtain ⟨e2, _⟩ := hok' b _ (un.frzs b ob _ z)
          rw [e] at e1
          cases e1
          exact e2
      | _ => exact False.elim h
  cases hk : K.lookup a with
  | some o =>
    have e := KX a o hk
    rw [ha] at e
    cases e
    exact go (fun _ => none) (fun _ => .inl rfl) (.inr ⟨_, vs.toArray, _, hk, rfl, rfl, rfl, by rw [List.size_toArray, hi.length]; exact hl, by simpa using rv⟩) (fun b u z => by cases z) fun b u z => by cases z
  | none =>
    have at_ : ∀ {b : Addr} {u : HO}, (if b = a then some (HO.frz { cls := .type "list", data := .seq vs.toArray } (.lst (ns.map V.int))) else none) = some u → b = a ∧ u = HO.frz { cls := .type "list", data := .seq vs.toArray } (.lst (ns.map V.int)) := fun {b u} z => by
      split at z
      · cases z; exact ⟨by assumption, rfl⟩
      · cases z
    refine go (fun b => if b = a then some (.frz { cls := .type "list", data := .seq vs.toArray } (.lst (ns.map V.int))) else none) (fun b => ?_) (.inl (.inr ⟨_, if_pos rfl⟩)) (fun b u z => ?_) fun b u z => ⟨(at_ z).1, hk⟩
    · by_cases hb : b = a
      · exact .inr ⟨_, _, if_pos hb⟩
      · exact .inl (if_neg hb)
    · obtain ⟨rfl, rfl⟩ := at_ z
      exact ⟨ha, by rw [List.length_map]; exact hl, vs, _, rv, ha⟩
theorem walk_evG {l : PySem.W.OpenLaw} {n k : Nat} {q : Program} {loose : List Str} {XP : (Str → Option Value) → Heap → Prop} {YP : World → Heap → Prop} {d : DefRec} {K : Params → PySem.W.Frag} {x : Str} {g : List D → Store → Res D}
    (hn : l.most = some n) (hn2 : n ≤ sizeLine) (hdf : d.params.defaults = []) (hr : Room k callerA)
    (hY : ∀ (w : World) (h : Heap), YP w h → (K w.params).In h)
    (F : ∀ (w : World) (mg : Str → Option Value) (fa : Addr) (h : Heap), (K w.params).In h → h.Ns mainGlobals mg → mg d.name = some (.ref fa) →
      ∃ (fd : FuncData) (C : Nat → Addr), (∀ (s : Shared) (u : Value), BindsTo s fd ⟨[u], []⟩ [(x, u)]) ∧
        ∀ base : Heap, (K w.params).In base → base.Ns mainGlobals mg → FnG l.prog w (K w.params) mg base (L2N.CX l.prog w) k fa fd [x] (spOf (K w.params) C 1 g))
    (hg : ∀ ns : List Int, ns.length ≤ n → ∃ S', g [.lst (ns.map D.int)] [] = .ok (.bl true) S') :
    PySem.W.WalkO q loose XP YP l.row.toRowW d [] (fun f vs => PySem.call f vs) := by
  refine Att.attach_call hn hdf fun w s0 s1 mg mb fa o pm cd doc a vs ns G Y ho hd hcd hmg hobj hints hlen hgn => ?_
  have KX := hY w _ Y
  obtain ⟨fd, C, hb, hF⟩ := F w mg fa _ KX G.T.g hmg
  exact law_callG KX G.T.g G.T.b G.T.builtins G.T.nolimit hgn hobj hints (Nat.le_trans hlen hn2) hr hF hb (fun H hO hS => law_end hS (hg ns hlen))
end Ev
namespace Ev
open PySem PySem.Spec L2
def itemAt (S : Store) (x : D) (i : Nat) : Option (Option D) := match x with
  | .loc n => match S[n]? with
    | some (.lst xs) => some xs[i]?
    | _ => none
  | .lst xs => some xs[i]?
  | .tup xs => some xs[i]?
  | _ => none
def okIt (S : Store) : D → Bool
  | .loc n => match S[n]? with
    | some (.lst _) => true
    | _ => false
  | .lst _ => true
  | .tup _ => true
  | _ => false
def forV (t : Tg) (body : RS) (x : D) : Nat → Nat → RS
  | 0, _, _, _ => .bad
  | k + 1, i, e, S => match itemAt S x i with
    | none => .bad
    | some none => .nx e S
    | some (some d) => match bindT S d e t with
      | none => .bad
      | some e1 => (body e1 S).andThen (forV t body x k (i + 1))
def rLive (a : RE) : RE := fun e S => (a e S).bind fun d S1 => if okIt S1 d = true then .ok d S1 else .bad
def sForV (a : RE) (t : Tg) (body : RS) (k : Nat) : RS := fun e S => (rLive a e S).fl e fun x S1 => forV t body x k 0 e S1
end Ev
namespace Ev
open PySem PySem.Spec L2
def Fl.noEr : Fl → Fl
  | .er _ _ _ => .bad
  | f => f
def catchOnly (sub : Nat → Option Bool) (suite : RS) (x : Exn) (e : Env) (S : Store) : Fl := match sub x.c with
  | some true => (suite e S).noEr
  | some false => .er x e S
  | none => .bad
def sTryOnly (sub : Nat → Option Bool) (body suite : RS) : RS := fun e S => match body e S with
  | .er x e1 S1 => catchOnly sub suite x e1 S1
  | f => f
end Ev
namespace Ev
open PySem PySem.Spec L2 PyProof.Rows
def listT (S : Store) : List D → Option D
  | [.str x] => if x.length ≤ sizeLine then some (.lst (signsD x)) else none
  | as => listD S as
end Ev
namespace Ev
open PySem PySem.Spec L2
def rAddM (a b : RE) : RE := fun e S => (a e S).bind fun x S1 => (b e S1).bind fun y S2 => match asL S2 x, asL S2 y with
  | some xs, some ys => if xs.length + ys.length ≤ sizeLine then .ok (.loc S2.length) (S2 ++ [.lst (xs ++ ys)]) else .bad
  | _, _ => .bad
end Ev
namespace Ev
open PySem PySem.Spec L2 PyProof.Rows
def tupleT (S : Store) : List D → Option D
  | [.str x] => if x.length ≤ sizeLine then some (.tup (signsD x)) else none
  | as => tupleD S as
def revS (x : Str) : Str := ⟨x.cps.toList.reverse.toArray⟩
def revD (S : Store) : D → Option D
  | .str x => if x.length ≤ sizeLine then some (.str (revS x)) else none
  | _ => none
end Ev
namespace Ev
open PySem PySem.Spec L2 PyProof.Rows
def sRaiseF (c : Nat) (ns : List Str) (as : RA) : RS := fun e S => (as e S).fl e fun ds S1 => if ds.length = ns.length then .er ⟨c, ns.reverse, ds.reverse⟩ e S1 else .bad
theorem Reps.reverse {K : PySem.W.Frag} {C : Nat → Addr} {io : Io} {F : Hp} : ∀ {ds : List D} {vs : List V}, Reps K C io F ds vs → Reps K C io F ds.reverse vs.reverse
  | _, _, .nil => .nil
  | _, _, .cons h r => by
    rw [List.reverse_cons, List.reverse_cons]
    exact (Reps.reverse r).append (.cons h .nil)
def fldD (ok : Nat → Bool) (f : Str) (S : Store) : D → Option D
  | .exn c ns xs => if ok c = true then (ns.zip xs).lookup f else none
  | _ => none
end Ev
namespace Ev
open PySem PySem.Spec L2 PyProof.Rows
end Ev
namespace Ev
open PySem PySem.Spec L2 PyProof.Rows
section
variable {X : Cx} {C : Nat → Addr}
def intT (S : Store) : List D → Option D
  | [.str a] => if a.length ≤ 640 then (intText? a).bind fun n => some (.int n) else none
  | as => intD S as
def fmtD (S : Store) : D → Option D
  | .str y => if y.length ≤ sizeLine then some (.str y) else none
  | .int i => if i.natAbs.log2 < 1920 then some (.str (toString i)) else none
  | _ => none
variable {W : WX}
def rJs : List RE → Str → RE
  | [], acc, _, S => .ok (.str acc) S
  | r :: rs, acc, e, S => (r e S).bind fun x S1 => match x with
    | .str y => if (acc ++ y).length ≤ sizeLine then rJs rs (acc ++ y) e S1 else .bad
    | _ => .bad
end
end Ev
namespace Ev
open PySem PySem.Spec L2 PyProof.Rows
def repS (x : Str) (n : Nat) : Str := ⟨(List.replicate n x.cps).foldl (· ++ ·) #[]⟩
def mulT (S : Store) (a b : D) : Option D := match a, b with
  | .str x, .int n => if 1 < n ∧ n < 1000 ∧ x.length ≠ 0 ∧ x.length * n.toNat ≤ sizeLine then some (.str (repS x n.toNat)) else none
  | a, b => mulD S a b
end Ev
namespace Ev
open PySem PySem.Spec L2 PyProof.Rows
def replD (y z : Str) (S : Store) : D → Option D
  | .str x => if x.length + (x.length + 1) * z.length ≤ 16777216 then some (.str (Txt.replace x y z)) else none
  | _ => none
end Ev
namespace Ev
open PySem PySem.Spec L2 PyProof.Rows
def keyOf : D → Option Key
  | .int i => some (.inl i)
  | .str x => some (.inr x)
  | _ => none
theorem keyOf_rep {K : PySem.W.Frag} {C : Nat → Addr} {io : Io} {F : Hp} {d : D} {v : V} {k : Key} (h : keyOf d = some k) (r : Rep K C io F d v) : v = kV k := by
  cases d <;> cases h <;> cases r <;> rfl
theorem DGet.of {H : Hp} {a : Addr} {kvs : List (Key × V)} {k : Key} (e : H a = some (.dK kvs)) : DGet H a (kV k) (valV kvs k) := DGet.k e
def hasK (ks : List Key) (k : Key) : Bool := ks.any fun k' => decide (k' = k)
def repK : List Key → List D → Key → D → List D
  | k' :: ks, x :: xs, k, v => (if k' = k then v else x) :: repK ks xs k v
  | _, xs, _, _ => xs
def putKs (ks : List Key) (xs : List D) (k : Key) (v : D) : List Key × List D := if hasK ks k = true then (ks, repK ks xs k v) else (ks ++ [k], xs ++ [v])
def putD (S : Store) (x y v : D) : Option Store := match x with
  | .loc n => match S[n]? with
    | some (.dK ks xs) => (keyOf y).bind fun k => if ks.length < sizeLine then some (S.set n (.dK (putKs ks xs k v).1 (putKs ks xs k v).2)) else none
    | _ => none
  | _ => none
def sPutD (a o i : RE) : RS := fun e S => (a e S).fl e fun v S1 => (o e S1).fl e fun x S2 => (i e S2).fl e fun y S3 => match putD S3 x y v with
  | some S4 => .nx e S4
  | none => .bad
end Ev
namespace Ev
open PySem PySem.Spec L2 PyProof.Rows
inductive ZSrc (K : PySem.W.Frag) (C : Nat → Addr) (io : Io) (F : Hp) : D → List D → V → List V → Prop
  | str (x : Str) : ZSrc K C io F (.str x) (signsD x) (.str x) (x.cps.toList.map fun c => V.str ⟨#[c]⟩)
  | lst {a : Addr} {vs : List V} {ds : List D} : SqL K F a vs → Reps K C io F ds vs → ZSrc K C io F (.lst ds) ds (.ref a) vs
  | tup {a : Addr} {vs : List V} {ds : List D} : SqT K F a vs → Reps K C io F ds vs → ZSrc K C io F (.tup ds) ds (.ref a) vs
theorem ZSrc.of {K : PySem.W.Frag} {C : Nat → Addr} {io : Io} {F : Hp} {d : D} {ds : List D} {v : V} (h : itemsD d = some ds) (r : Rep K C io F d v) : ∃ vs, ZSrc K C io F d ds v vs := by
  cases r <;> cases h
  · exact ⟨_, .str _⟩
  · rename_i q r; exact ⟨_, .tup q r⟩
  · rename_i q r; exact ⟨_, .lst q r⟩
end Ev
namespace Ev
open PySem PySem.Spec L2 PyProof.Rows
mutual
def D.low (n : Nat) : D → Bool
  | .loc m => decide (m < n)
  | .tup xs => lows n xs
  | .lst xs => lows n xs
  | .dct _ xs => lows n xs
  | .dcf _ xs => lows n xs
  | .dcT _ xs => lows n xs
  | .exn _ _ xs => lows n xs
  | .non => true
  | .bl _ => true
  | .int _ => true
  | .str _ => true
def lows (n : Nat) : List D → Bool
  | [] => true
  | d :: ds => D.low n d && lows n ds
end
def MO.low (n : Nat) : MO → Bool
  | .lst xs => lows n xs
  | .dK _ xs => lows n xs
  | .dT _ xs => lows n xs
  | .ins _ _ xs => lows n xs
def lowS (n : Nat) : List MO → Bool
  | [] => true
  | o :: S => MO.low n o && lowS n S
theorem lowS_get {n : Nat} : ∀ {S : List MO} {k : Nat} {o : MO}, lowS n S = true → S[k]? = some o → MO.low n o = true
  | [], _, _, _, h => by simp at h
  | o :: S, 0, _, h, e => by
    simp only [lowS, Bool.and_eq_true] at h
    simp at e; subst e; exact h.1
  | o :: S, k + 1, o', h, e => by
    simp only [lowS, Bool.and_eq_true] at h
    exact lowS_get (k := k) h.2 (by simpa using e)
def frzD (n : Nat) (S : Store) : D → Option D
  | .loc m => if m < n then some (.loc m) else match S[m]? with
    | some (.lst xs) => if lows n xs = true then some (.lst xs) else none
    | some (.dK ks xs) => if lows n xs = true then some (.dct ks xs) else none
    | _ => none
  | d => if D.low n d = true then some d else none
def frz (n : Nat) : Res D → Res D
  | .ok d S => match frzD n S d with
    | some d' => if lowS n (S.take n) = true then .ok d' (S.take n) else .bad
    | none => .bad
  | .err x S => if (lows n x.xs && lowS n (S.take n)) = true then .err x (S.take n) else .bad
  | .bad => .bad
def cutIo (n : Nat) (io : Io) : Io := ⟨io.l.take n, io.h⟩
theorem cut_sub {n : Nat} {io : Io} {b : Addr} (h : b ∈ (cutIo n io).all) : b ∈ io.all := by
  unfold cutIo Io.all at *
  simp only [List.mem_append] at *
  exact h.imp (fun z => List.mem_of_mem_take z) id
theorem cut_same {n : Nat} {io : Io} {H : Hp} : Same (Fz io H) (Fz (cutIo n io) H) := fun b o e => by
  by_cases hb : b ∈ io.all
  · rw [Fz_in hb] at e; cases e
  · rw [Fz_out hb] at e
    rw [Fz_out fun z => hb (cut_sub z)]; exact e
mutual
theorem low_rep {K : PySem.W.Frag} {C : Nat → Addr} {n : Nat} {io : Io} {F F' : Hp} (hs : Same F F') : ∀ {d : D} {v : V}, D.low n d = true → Rep K C io F d v → Rep K C (cutIo n io) F' d v
  | _, _, _, .non => .non
  | _, _, _, .bl b => .bl b
  | _, _, _, .int i => .int i
  | _, _, _, .str x => .str x
  | _, _, l, .tup h r => .tup (sqT_same hs h) (lows_reps hs (by simpa [D.low] using l) r)
  | _, _, l, .lst h r => .lst (hs.seq h) (lows_reps hs (by simpa [D.low] using l) r)
  | _, _, l, .dct h e1 e2 r => .dct (hs _ _ h) e1 e2 (lows_reps hs (by simpa [D.low] using l) r)
  | _, _, l, .dcf h e1 e2 r => .dcf (hs _ _ h) e1 e2 (lows_reps hs (by simpa [D.low] using l) r)
  | _, _, l, .dcT h e1 e2 r => .dcT (hs _ _ h) e1 e2 (lows_reps hs (by simpa [D.low] using l) r)
  | .loc m, _, l, .loc h => .loc (by
    have hm : m < n := by simpa [D.low] using l
    show (io.l.take n)[m]? = some _
    rw [List.getElem?_take, if_pos hm]; exact h)
  | _, _, _, .exn0 h => .exn0 (hs _ _ h)
  | _, _, l, .exnF h h2 e1 e2 r => .exnF (hs _ _ h) (hs _ _ h2) e1 e2 (lows_reps hs (by simpa [D.low] using l) r)
theorem lows_reps {K : PySem.W.Frag} {C : Nat → Addr} {n : Nat} {io : Io} {F F' : Hp} (hs : Same F F') : ∀ {ds : List D} {vs : List V}, lows n ds = true → Reps K C io F ds vs → Reps K C (cutIo n io) F' ds vs
  | _, _, _, .nil => .nil
  | _, _, l, .cons h r => .cons (low_rep hs (by simp only [lows, Bool.and_eq_true] at l; exact l.1) h) (lows_reps hs (by simp only [lows, Bool.and_eq_true] at l; exact l.2) r)
end
theorem cut_ext {K : PySem.W.Frag} {C : Nat → Addr} {io io' : Io} {S : Store} {H H' : Hp} (d : Den K C io S H) (x : Ext io H io' H') : Ext io H (cutIo S.length io') H' := by
  refine ⟨fun k a e => ?_, x.hid, x.same.trans cut_same⟩
  have hk : k < S.length := by rw [← d.len]; exact (List.getElem?_eq_some_iff.mp e).1
  show (io'.l.take S.length)[k]? = some a
  rw [List.getElem?_take, if_pos hk]
  exact x.pre k a e
theorem cut_out {K : PySem.W.Frag} {C : Nat → Addr} {n m : Nat} {io : Io} {S : Store} {H : Hp} {a : Addr} (d : Den K C io S H) (h : io.l[m]? = some a) (hm : ¬ m < n) : a ∉ (cutIo n io).all := fun z => by
  have nd := List.nodup_append.mp d.nd
  have z' : a ∈ io.l.take n ++ io.h.map (·.1) := z
  rcases List.mem_append.mp z' with z | z
  · obtain ⟨k, hk, e⟩ := List.getElem_of_mem z
    have hk' : k < n := by rw [List.length_take] at hk; omega
    have e' : io.l[k]? = some a := by
      have q : (io.l.take n)[k]? = some a := by rw [List.getElem?_eq_getElem hk, e]
      rw [List.getElem?_take, if_pos hk'] at q; exact q
    have := nodup_at nd.1 e' h
    omega
  · exact nd.2.2 a (List.mem_of_getElem? h) a z rfl
end Ev
namespace Ev
open PySem PySem.Spec L2 PyProof.Rows
section
variable {X : Cx} {C : Nat → Addr} {W : WX}
def repL : Nat → List D → List D
  | 0, _ => []
  | n + 1, xs => xs ++ repL n xs
end
end Ev
namespace Ev
open PySem PySem.Spec L2 PyProof.Rows
def rPrs : List (Str × RE) → Env → Store → Res (List D)
  | [], _, S => .ok [] S
  | p :: l, e, S => (p.2 e S).bind fun d S1 => (rPrs l e S1).bind fun ds S2 => .ok (d :: ds) S2
def dispF : List Str → List D → List Key × List D → List Key × List D
  | k :: ks, d :: ds, p => dispF ks ds (putKs p.1 p.2 (.inr k) d)
  | _, _, p => p
def rDispF (l : List (Str × RE)) : RE := fun e S => (rPrs l e S).calm.bind fun ds S1 => .ok (.dct (dispF (l.map (·.1)) ds ([], [])).1 (dispF (l.map (·.1)) ds ([], [])).2) S1
def rDispM (l : List (Str × RE)) : RE := fun e S => (rPrs l e S).calm.bind fun ds S1 => .ok (.loc S1.length) (S1 ++ [.dK (dispF (l.map (·.1)) ds ([], [])).1 (dispF (l.map (·.1)) ds ([], [])).2])
def sStar (i j : Nat) (a : RE) : RS := fun e S => (a e S).fl e fun d S1 => match d with
  | .tup (x :: xs) => if xs.length ≤ 16000 then .nx (setAll [i, j] [x, .lst xs] e) S1 else .bad
  | _ => .bad
end Ev
namespace Ev
open PySem PySem.Spec L2
section
variable {e : Env} {S : Store} {A B : Type}
@[simp] theorem bind_ok (a : A) (S : Store) (f : A → Store → Res B) : (Res.ok a S).bind f = f a S := (rfl)
@[simp] theorem bind_err (x : Exn) (S : Store) (f : A → Store → Res B) : (Res.err x S).bind f = .err x S := (rfl)
@[simp] theorem fl_ok (a : A) (S : Store) (f : A → Store → Fl) : (Res.ok a S).fl e f = f a S := (rfl)
@[simp] theorem fl_err (x : Exn) (S : Store) (f : A → Store → Fl) : (Res.err x S).fl e f = .er x e S := (rfl)
@[simp] theorem then_nx (k : RS) : (Fl.nx e S).andThen k = k e S := (rfl)
@[simp] theorem then_rt (d : D) (k : RS) : (Fl.rt d S).andThen k = .rt d S := (rfl)
@[simp] theorem then_er (x : Exn) (k : RS) : (Fl.er x e S).andThen k = .er x e S := (rfl)
@[simp] theorem bind_bad (f : A → Store → Res B) : (Res.bad : Res A).bind f = .bad := (rfl)
@[simp] theorem fl_bad (f : A → Store → Fl) : (Res.bad : Res A).fl e f = .bad := (rfl)
@[simp] theorem then_bad (k : RS) : (Fl.bad).andThen k = .bad := (rfl)
@[simp] theorem ofO_none : (ofO none S : Res A) = .bad := (rfl)
@[simp] theorem res_nx : (Fl.nx e S).res = .ok .non S := (rfl)
@[simp] theorem res_rt (d : D) : (Fl.rt d S).res = .ok d S := (rfl)
@[simp] theorem res_er (x : Exn) : (Fl.er x e S).res = .err x S := (rfl)
@[simp] theorem res_ite {c : Prop} [Decidable c] (a b : Fl) : (if c then a else b).res = if c then a.res else b.res := by split <;> rfl
@[simp] theorem then_ite {c : Prop} [Decidable c] (a b : Fl) (k : RS) : (if c then a else b).andThen k = if c then a.andThen k else b.andThen k := by split <;> rfl
@[simp] theorem bind_ite {c : Prop} [Decidable c] (a b : Res A) (k : A → Store → Res B) : (if c then a else b).bind k = if c then a.bind k else b.bind k := by split <;> rfl
@[simp] theorem fl_ite {c : Prop} [Decidable c] (a b : Res A) (k : A → Store → Fl) : (if c then a else b).fl e k = if c then a.fl e k else b.fl e k := by split <;> rfl
@[simp] theorem ofO_some (a : A) : ofO (some a) S = .ok a S := (rfl)
@[simp] theorem rCon_eq (d : D) : rCon d e S = .ok d S := (rfl)
@[simp] theorem rVar_eq (i : Nat) : rVar i e S = match e[i]? with | some (some d) => .ok d S | _ => .bad := (rfl)
@[simp] theorem rBin_eq (f : Store → D → D → Option D) (a b : RE) : rBin f a b e S = (a e S).bind fun x S1 => (b e S1).bind fun y S2 => ofO (f S2 x y) S2 := (rfl)
@[simp] theorem rUn_eq (f : Store → D → Option D) (a : RE) : rUn f a e S = (a e S).bind fun x S1 => ofO (f S1 x) S1 := (rfl)
@[simp] theorem rCal_eq (f : Store → List D → Option D) (a : RA) : rCal f a e S = (a e S).bind fun xs S1 => ofO (f S1 xs) S1 := (rfl)
@[simp] theorem rCall_eq (g : List D → Store → Res D) (a : RA) : rCall g a e S = (a e S).bind fun xs S1 => g xs S1 := (rfl)
@[simp] theorem rCallK_eq (g : List D → Store → Res D) (src : List Src) (as ks : RA) : rCallK g src as ks e S = (as e S).bind fun ds S1 => (ks e S1).bind fun es S2 => match pick ds es src with | some zs => g zs S2 | none => .bad := (rfl)
@[simp] theorem pick_nil (us ws : List D) : pick us ws [] = some [] := (rfl)
@[simp] theorem pick_cons (us ws : List D) (q : Src) (r : List Src) : pick us ws (q :: r) = (pick1 us ws q).bind fun x => (pick us ws r).bind fun xs => some (x :: xs) := (rfl)
@[simp] theorem pick1_p (us ws : List D) (i : Nat) : pick1 us ws (.p i) = us[i]? := (rfl)
@[simp] theorem pick1_k (us ws : List D) (i : Nat) : pick1 us ws (.k i) = ws[i]? := (rfl)
@[simp] theorem pick1_c (us ws : List D) (d : D) : pick1 us ws (.c d) = some d := (rfl)
@[simp] theorem rNil_eq : rNil e S = .ok [] S := (rfl)
@[simp] theorem rCons_eq (a : RE) (r : RA) : rCons a r e S = (a e S).bind fun x S1 => (r e S1).bind fun xs S2 => .ok (x :: xs) S2 := (rfl)
@[simp] theorem rTup_eq (r : RA) : rTup r e S = (r e S).bind fun xs S1 => .ok (.tup xs) S1 := (rfl)
@[simp] theorem rLst_eq (r : RA) : rLst r e S = (r e S).bind fun xs S1 => .ok (.lst xs) S1 := (rfl)
@[simp] theorem rLstM_eq (r : RA) : rLstM r e S = (r e S).bind fun xs S1 => .ok (.loc S1.length) (S1 ++ [.lst xs]) := (rfl)
@[simp] theorem rAddM_eq (a b : RE) : rAddM a b e S = (a e S).bind fun x S1 => (b e S1).bind fun y S2 => match asL S2 x, asL S2 y with
  | some xs, some ys => if xs.length + ys.length ≤ sizeLine then .ok (.loc S2.length) (S2 ++ [.lst (xs ++ ys)]) else .bad
  | _, _ => .bad := (rfl)
@[simp] theorem rDct0_eq : rDct0 e S = .ok (.dct [] []) S := (rfl)
@[simp] theorem rAnd_eq (a b : RE) : rAnd a b e S = (a e S).bind fun x S1 => (ofO (truthD S1 x) S1).bind fun k S2 => if k = true then b e S2 else .ok x S2 := (rfl)
@[simp] theorem rOr_eq (a b : RE) : rOr a b e S = (a e S).bind fun x S1 => (ofO (truthD S1 x) S1).bind fun k S2 => if k = true then .ok x S2 else b e S2 := (rfl)
@[simp] theorem rNot_eq (a : RE) : rNot a e S = (a e S).bind fun x S1 => (ofO (truthD S1 x) S1).bind fun k S2 => .ok (.bl (!k)) S2 := (rfl)
@[simp] theorem rIf_eq (t : RT) (a b : RE) : rIf t a b e S = (t e S).bind fun k S1 => if k = true then a e S1 else b e S1 := (rfl)
@[simp] theorem rTest_eq (a : RE) : rTest a e S = (a e S).bind fun x S1 => ofO (asB x) S1 := (rfl)
@[simp] theorem rTruth_eq (a : RE) : rTruth a e S = (a e S).bind fun x S1 => ofO (truthD S1 x) S1 := (rfl)
@[simp] theorem rAndT_eq (a b : RT) : rAndT a b e S = (a e S).bind fun k S1 => if k = true then b e S1 else .ok false S1 := (rfl)
@[simp] theorem rOrT_eq (a b : RT) : rOrT a b e S = (a e S).bind fun k S1 => if k = true then .ok true S1 else b e S1 := (rfl)
@[simp] theorem rNotT_eq (a : RT) : rNotT a e S = (a e S).bind fun k S1 => .ok (!k) S1 := (rfl)
@[simp] theorem rChain_eq (a : RE) (k : RC) : rChain a k e S = (a e S).bind fun x S1 => k x e S1 := (rfl)
@[simp] theorem rLast_eq (f : Store → D → D → Option D) (b : RE) (x : D) : rLast f b x e S = (b e S).bind fun y S1 => ofO (f S1 x y) S1 := (rfl)
@[simp] theorem rLink_eq (f : Store → D → D → Option D) (b : RE) (k : RC) (x : D) : rLink f b k x e S = (b e S).bind fun y S1 => (ofO ((f S1 x y).bind asB) S1).bind fun t S2 => if t = true then k y e S2 else .ok (.bl false) S2 := (rfl)
@[simp] theorem rSl_eq (a : RE) (lo hi : RO) : rSl a lo hi e S = (a e S).bind fun x S1 => (lo e S1).bind fun l S2 => (hi e S2).bind fun h S3 => ofO (slD S3 x l h) S3 := (rfl)
@[simp] theorem rNoP_eq : rNoP e S = .ok none S := (rfl)
@[simp] theorem rPart_eq (a : RE) : rPart a e S = (a e S).bind fun x S1 => (ofO (asI x) S1).bind fun i S2 => .ok (some i) S2 := (rfl)
@[simp] theorem sNil_eq : sNil e S = .nx e S := (rfl)
@[simp] theorem sSeq_eq (a b : RS) : sSeq a b e S = (a e S).andThen b := (rfl)
@[simp] theorem sIf_eq (t : RT) (a b : RS) : sIf t a b e S = (t e S).fl e fun k S1 => if k = true then a e S1 else b e S1 := (rfl)
@[simp] theorem sRet_eq (a : RE) : sRet a e S = (a e S).fl e fun d S1 => .rt d S1 := (rfl)
@[simp] theorem sExp_eq (a : RE) : sExp a e S = (a e S).fl e fun _ S1 => .nx e S1 := (rfl)
@[simp] theorem sSet_eq (i : Nat) (a : RE) : sSet i a e S = (a e S).fl e fun d S1 => .nx (e.set i (some d)) S1 := (rfl)
@[simp] theorem sAsg_eq (t : Tg) (a : RE) : sAsg t a e S = (a e S).fl e fun d S1 => match bindT S1 d e t with | some e' => .nx e' S1 | none => .bad := (rfl)
@[simp] theorem sPar_eq (is : List Nat) (as : RA) : sPar is as e S = (as e S).fl e fun ds S1 => if ds.length = is.length then .nx (setAll is ds e) S1 else .bad := (rfl)
@[simp] theorem sPutIx_eq (a o i : RE) : sPutIx a o i e S = (a e S).fl e fun v S1 => (o e S1).fl e fun x S2 => (i e S2).fl e fun y S3 => match putIx S3 x y v with | some S4 => .nx e S4 | none => .bad := (rfl)
@[simp] theorem sAug_eq (i : Nat) (f : Store → D → D → Option D) (a : RE) : sAug i f a e S = match e[i]? with
  | some (some x) => (a e S).fl e fun y S1 => match f S1 x y with
    | some z => .nx (e.set i (some z)) S1
    | none => .bad
  | _ => .bad := (rfl)
@[simp] theorem sFor_eq (it : RA) (t : Tg) (body : RS) : sFor it t body e S = (it e S).fl e fun ds S1 => forL t body ds e S1 := (rfl)
@[simp] theorem rLive_eq (a : RE) : rLive a e S = (a e S).bind fun d S1 => if okIt S1 d = true then .ok d S1 else .bad := (rfl)
@[simp] theorem sForV_eq (a : RE) (t : Tg) (body : RS) (k : Nat) : sForV a t body k e S = (rLive a e S).fl e fun x S1 => forV t body x k 0 e S1 := (rfl)
@[simp] theorem rIt_eq (a : RE) : rIt a e S = (a e S).bind fun d S1 => ofO (itemsD d) S1 := (rfl)
@[simp] theorem rRan_eq (f : List D → Option (List D)) (as : RA) : rRan f as e S = (as e S).bind fun ds S1 => ofO (f ds) S1 := (rfl)
@[simp] theorem sRaiseF_eq (c : Nat) (ns : List Str) (as : RA) : sRaiseF c ns as e S = (as e S).fl e fun ds S1 => if ds.length = ns.length then .er ⟨c, ns.reverse, ds.reverse⟩ e S1 else .bad := (rfl)
@[simp] theorem sRaise0_eq (c : Nat) : sRaise0 c e S = .er ⟨c, [], []⟩ e S := (rfl)
@[simp] theorem sTryAs_eq (sub : Nat → Option Bool) (i : Nat) (body suite : RS) : sTryAs sub i body suite e S = match body e S with
  | .er x e1 S1 => catchAs sub i suite x e1 S1
  | f => f := (rfl)
@[simp] theorem sTryOnly_eq (sub : Nat → Option Bool) (body suite : RS) : sTryOnly sub body suite e S = match body e S with
  | .er x e1 S1 => catchOnly sub suite x e1 S1
  | f => f := (rfl)
@[simp] theorem setAll_cons {A : Type} (i : Nat) (is : List Nat) (d : A) (ds : List A) (e : List (Option A)) : setAll (i :: is) (d :: ds) e = setAll is ds (e.set i (some d)) := (rfl)
@[simp] theorem setAll_nil {A : Type} (ds : List A) (e : List (Option A)) : setAll [] ds e = e := by cases ds <;> rfl
@[simp] theorem bindT_nm (d : D) (i : Nat) : bindT S d e (.nm i) = some (e.set i (some d)) := (rfl)
@[simp] theorem bindT_tp (d : D) (is : List Nat) : bindT S d e (.tp is) = (parts S d).bind fun ds => if ds.length = is.length then some (setAll is ds e) else none := (rfl)
@[simp] theorem bindT_tn (d : D) (qs : List (Nat ⊕ List Nat)) : bindT S d e (.tn qs) = (parts S d).bind fun ds => bindN S qs ds e := (rfl)
@[simp] theorem bindN_nil : bindN S [] [] e = some e := (rfl)
@[simp] theorem bindN_inl (i : Nat) (qs : List (Nat ⊕ List Nat)) (d : D) (ds : List D) : bindN S (.inl i :: qs) (d :: ds) e = bindN S qs ds (e.set i (some d)) := (rfl)
@[simp] theorem bindN_inr (is : List Nat) (qs : List (Nat ⊕ List Nat)) (d : D) (ds : List D) : bindN S (.inr is :: qs) (d :: ds) e = (parts S d).bind fun xs => if xs.length = is.length then bindN S qs ds (setAll is xs e) else none := (rfl)
@[simp] theorem parts_tup (xs : List D) : parts S (.tup xs) = some xs := (rfl)
@[simp] theorem parts_lst (xs : List D) : parts S (.lst xs) = some xs := (rfl)
@[simp] theorem itemsD_tup (xs : List D) : itemsD (.tup xs) = some xs := (rfl)
@[simp] theorem itemsD_lst (xs : List D) : itemsD (.lst xs) = some xs := (rfl)
@[simp] theorem asB_bl (b : Bool) : asB (.bl b) = some b := (rfl)
@[simp] theorem asI_int (i : Int) : asI (.int i) = some i := (rfl)
@[simp] theorem truthD_bl (b : Bool) : truthD S (.bl b) = some b := (rfl)
@[simp] theorem truthD_int (i : Int) : truthD S (.int i) = some (i != 0) := (rfl)
@[simp] theorem truthD_non : truthD S .non = some false := (rfl)
@[simp] theorem asL_lst (xs : List D) : asL S (.lst xs) = some xs := (rfl)
@[simp] theorem asL_loc (n : Nat) : asL S (.loc n) = match S[n]? with | some (.lst xs) => some xs | _ => none := (rfl)
@[simp] theorem addD_int (i j : Int) : addD S (.int i) (.int j) = some (.int (i + j)) := (rfl)
@[simp] theorem i2_int (c : Int → Int → Bool) (g : Int → Int → D) (i j : Int) : i2 c g S (.int i) (.int j) = if c i j = true then some (g i j) else none := (rfl)
@[simp] theorem subD_int (i j : Int) : subD S (.int i) (.int j) = some (.int (i - j)) := (rfl)
@[simp] theorem mulD_int (i j : Int) : mulD S (.int i) (.int j) = if mulOk i j = true then some (.int (i * j)) else none := (rfl)
@[simp] theorem mulT_int (i j : Int) : mulT S (.int i) (.int j) = if mulOk i j = true then some (.int (i * j)) else none := (rfl)
@[simp] theorem mulT_str (x : Str) (n : Int) : mulT S (.str x) (.int n) = if 1 < n ∧ n < 1000 ∧ x.length ≠ 0 ∧ x.length * n.toNat ≤ sizeLine then some (.str (repS x n.toNat)) else none := (rfl)
@[simp] theorem divD_int (i j : Int) : divD S (.int i) (.int j) = if (decide (0 < j) && decide (j < 18446744073709551616)) = true then some (.int (i / j)) else none := (rfl)
@[simp] theorem modD_int (i j : Int) : modD S (.int i) (.int j) = if decide (0 < j) = true then some (.int (i % j)) else none := (rfl)
@[simp] theorem powD_int (i j : Int) : powD S (.int i) (.int j) = if powOk i j = true then some (.int (i ^ j.toNat)) else none := (rfl)
@[simp] theorem shlD_int (i j : Int) : shlD S (.int i) (.int j) = if powOk i j = true then some (.int (i * 2 ^ j.toNat)) else none := (rfl)
@[simp] theorem shrD_int (i j : Int) : shrD S (.int i) (.int j) = if decide (0 ≤ j) = true then some (.int (i / 2 ^ j.toNat)) else none := (rfl)
@[simp] theorem ltD_int (i j : Int) : ltD S (.int i) (.int j) = some (.bl (decide (i < j))) := (rfl)
@[simp] theorem leD_int (i j : Int) : leD S (.int i) (.int j) = some (.bl (decide (i ≤ j))) := (rfl)
@[simp] theorem gtD_int (i j : Int) : gtD S (.int i) (.int j) = some (.bl (decide (j < i))) := (rfl)
@[simp] theorem geD_int (i j : Int) : geD S (.int i) (.int j) = some (.bl (decide (j ≤ i))) := (rfl)
@[simp] theorem negD_int (i : Int) : negD S (.int i) = some (.int (-i)) := (rfl)
@[simp] theorem absD_int (i : Int) : absD S [.int i] = some (.int (if i < 0 then -i else i)) := (rfl)
@[simp] theorem intT_int (i : Int) : intT S [.int i] = some (.int i) := (rfl)
@[simp] theorem intT_bl (b : Bool) : intT S [.bl b] = some (.int (if b = true then 1 else 0)) := by cases b <;> rfl
@[simp] theorem intT_str (a : Str) : intT S [.str a] = if a.length ≤ 640 then (intText? a).bind fun n => some (.int n) else none := (rfl)
@[simp] theorem fmtD_int (i : Int) : fmtD S (.int i) = if i.natAbs.log2 < 1920 then some (.str (toString i)) else none := (rfl)
@[simp] theorem fmtD_str (y : Str) : fmtD S (.str y) = if y.length ≤ sizeLine then some (.str y) else none := (rfl)
@[simp] theorem fldD_exn (ok : Nat → Bool) (f : Str) (c : Nat) (ns : List Str) (xs : List D) : fldD ok f S (.exn c ns xs) = if ok c = true then (ns.zip xs).lookup f else none := (rfl)
@[simp] theorem replD_str (y z x : Str) : replD y z S (.str x) = if x.length + (x.length + 1) * z.length ≤ 16777216 then some (.str (Txt.replace x y z)) else none := (rfl)
@[simp] theorem parts_loc (n : Nat) : parts S (.loc n) = asL S (.loc n) := (rfl)
@[simp] theorem rJs_nil (acc : Str) : rJs [] acc e S = .ok (.str acc) S := (rfl)
@[simp] theorem rJs_cons (r : RE) (rs : List RE) (acc : Str) : rJs (r :: rs) acc e S = (r e S).bind fun x S1 => match x with
    | .str y => if (acc ++ y).length ≤ sizeLine then rJs rs (acc ++ y) e S1 else .bad
    | _ => .bad := (rfl)
@[simp] theorem intD_int (i : Int) : intD S [.int i] = some (.int i) := (rfl)
@[simp] theorem intD_bl (b : Bool) : intD S [.bl b] = some (.int (if b = true then 1 else 0)) := by cases b <;> rfl
@[simp] theorem maxD2_int (i j : Int) : maxD2 S [.int i, .int j] = some (.int (if j > i then j else i)) := (rfl)
@[simp] theorem minD2_int (i j : Int) : minD2 S [.int i, .int j] = some (.int (if j < i then j else i)) := (rfl)
@[simp] theorem listT_lst (xs : List D) : listT S [.lst xs] = some (.lst xs) := (rfl)
@[simp] theorem listT_tup (xs : List D) : listT S [.tup xs] = some (.lst xs) := (rfl)
@[simp] theorem listT_str (x : Str) : listT S [.str x] = if x.length ≤ sizeLine then some (.lst (signsD x)) else none := (rfl)
@[simp] theorem listT_loc (n : Nat) : listT S [.loc n] = (asL S (.loc n)).bind fun xs => some (.lst xs) := (rfl)
@[simp] theorem tupleT_str (x : Str) : tupleT S [.str x] = if x.length ≤ sizeLine then some (.tup (signsD x)) else none := (rfl)
@[simp] theorem tupleT_lst (xs : List D) : tupleT S [.lst xs] = some (.tup xs) := (rfl)
@[simp] theorem tupleT_tup (xs : List D) : tupleT S [.tup xs] = some (.tup xs) := (rfl)
@[simp] theorem tupleT_loc (n : Nat) : tupleT S [.loc n] = (asL S (.loc n)).bind fun xs => some (.tup xs) := (rfl)
@[simp] theorem revD_str (x : Str) : revD S (.str x) = if x.length ≤ sizeLine then some (.str (revS x)) else none := (rfl)
@[simp] theorem lenD_lst (xs : List D) : lenD S [.lst xs] = some (.int xs.length) := (rfl)
@[simp] theorem lenD_tup (xs : List D) : lenD S [.tup xs] = some (.int xs.length) := (rfl)
theorem isiD_of {T t : String} {d : D} {b : Bool} (h1 : tyD S d = some t) (h2 : kitB t T = some b) : isiD T S d = some (.bl b) := by
  unfold isiD; rw [h1, Option.bind_some, h2, Option.bind_some]
@[simp] theorem isi_int_non : isiD "int" S .non = some (.bl false) := isiD_of rfl (by decide +kernel)
@[simp] theorem isi_int_bl (b : Bool) : isiD "int" S (.bl b) = some (.bl true) := isiD_of rfl (by decide +kernel)
@[simp] theorem isi_int_int (i : Int) : isiD "int" S (.int i) = some (.bl true) := isiD_of rfl (by decide +kernel)
@[simp] theorem isi_int_str (x : Str) : isiD "int" S (.str x) = some (.bl false) := isiD_of rfl (by decide +kernel)
@[simp] theorem isi_int_tup (xs : List D) : isiD "int" S (.tup xs) = some (.bl false) := isiD_of rfl (by decide +kernel)
@[simp] theorem isi_int_lst (xs : List D) : isiD "int" S (.lst xs) = some (.bl false) := isiD_of rfl (by decide +kernel)
@[simp] theorem isi_int_dct (ks : List Key) (xs : List D) : isiD "int" S (.dct ks xs) = some (.bl false) := isiD_of rfl (by decide +kernel)
@[simp] theorem isi_bool_non : isiD "bool" S .non = some (.bl false) := isiD_of rfl (by decide +kernel)
@[simp] theorem isi_bool_bl (b : Bool) : isiD "bool" S (.bl b) = some (.bl true) := isiD_of rfl (by decide +kernel)
@[simp] theorem isi_bool_int (i : Int) : isiD "bool" S (.int i) = some (.bl false) := isiD_of rfl (by decide +kernel)
@[simp] theorem isi_bool_str (x : Str) : isiD "bool" S (.str x) = some (.bl false) := isiD_of rfl (by decide +kernel)
@[simp] theorem isi_bool_tup (xs : List D) : isiD "bool" S (.tup xs) = some (.bl false) := isiD_of rfl (by decide +kernel)
@[simp] theorem isi_bool_lst (xs : List D) : isiD "bool" S (.lst xs) = some (.bl false) := isiD_of rfl (by decide +kernel)
@[simp] theorem isi_bool_dct (ks : List Key) (xs : List D) : isiD "bool" S (.dct ks xs) = some (.bl false) := isiD_of rfl (by decide +kernel)
@[simp] theorem isi_str_non : isiD "str" S .non = some (.bl false) := isiD_of rfl (by decide +kernel)
@[simp] theorem isi_str_bl (b : Bool) : isiD "str" S (.bl b) = some (.bl false) := isiD_of rfl (by decide +kernel)
@[simp] theorem isi_str_int (i : Int) : isiD "str" S (.int i) = some (.bl false) := isiD_of rfl (by decide +kernel)
@[simp] theorem isi_str_str (x : Str) : isiD "str" S (.str x) = some (.bl true) := isiD_of rfl (by decide +kernel)
@[simp] theorem isi_str_tup (xs : List D) : isiD "str" S (.tup xs) = some (.bl false) := isiD_of rfl (by decide +kernel)
@[simp] theorem isi_str_lst (xs : List D) : isiD "str" S (.lst xs) = some (.bl false) := isiD_of rfl (by decide +kernel)
@[simp] theorem isi_str_dct (ks : List Key) (xs : List D) : isiD "str" S (.dct ks xs) = some (.bl false) := isiD_of rfl (by decide +kernel)
@[simp] theorem isi_tuple_non : isiD "tuple" S .non = some (.bl false) := isiD_of rfl (by decide +kernel)
@[simp] theorem isi_tuple_bl (b : Bool) : isiD "tuple" S (.bl b) = some (.bl false) := isiD_of rfl (by decide +kernel)
@[simp] theorem isi_tuple_int (i : Int) : isiD "tuple" S (.int i) = some (.bl false) := isiD_of rfl (by decide +kernel)
@[simp] theorem isi_tuple_str (x : Str) : isiD "tuple" S (.str x) = some (.bl false) := isiD_of rfl (by decide +kernel)
@[simp] theorem isi_tuple_tup (xs : List D) : isiD "tuple" S (.tup xs) = some (.bl true) := isiD_of rfl (by decide +kernel)
@[simp] theorem isi_tuple_lst (xs : List D) : isiD "tuple" S (.lst xs) = some (.bl false) := isiD_of rfl (by decide +kernel)
@[simp] theorem isi_tuple_dct (ks : List Key) (xs : List D) : isiD "tuple" S (.dct ks xs) = some (.bl false) := isiD_of rfl (by decide +kernel)
@[simp] theorem isi_list_non : isiD "list" S .non = some (.bl false) := isiD_of rfl (by decide +kernel)
@[simp] theorem isi_list_bl (b : Bool) : isiD "list" S (.bl b) = some (.bl false) := isiD_of rfl (by decide +kernel)
@[simp] theorem isi_list_int (i : Int) : isiD "list" S (.int i) = some (.bl false) := isiD_of rfl (by decide +kernel)
@[simp] theorem isi_list_str (x : Str) : isiD "list" S (.str x) = some (.bl false) := isiD_of rfl (by decide +kernel)
@[simp] theorem isi_list_tup (xs : List D) : isiD "list" S (.tup xs) = some (.bl false) := isiD_of rfl (by decide +kernel)
@[simp] theorem isi_list_lst (xs : List D) : isiD "list" S (.lst xs) = some (.bl true) := isiD_of rfl (by decide +kernel)
@[simp] theorem isi_list_dct (ks : List Key) (xs : List D) : isiD "list" S (.dct ks xs) = some (.bl false) := isiD_of rfl (by decide +kernel)
@[simp] theorem isi_dict_non : isiD "dict" S .non = some (.bl false) := isiD_of rfl (by decide +kernel)
@[simp] theorem isi_dict_bl (b : Bool) : isiD "dict" S (.bl b) = some (.bl false) := isiD_of rfl (by decide +kernel)
@[simp] theorem isi_dict_int (i : Int) : isiD "dict" S (.int i) = some (.bl false) := isiD_of rfl (by decide +kernel)
@[simp] theorem isi_dict_str (x : Str) : isiD "dict" S (.str x) = some (.bl false) := isiD_of rfl (by decide +kernel)
@[simp] theorem isi_dict_tup (xs : List D) : isiD "dict" S (.tup xs) = some (.bl false) := isiD_of rfl (by decide +kernel)
@[simp] theorem isi_dict_lst (xs : List D) : isiD "dict" S (.lst xs) = some (.bl false) := isiD_of rfl (by decide +kernel)
@[simp] theorem isi_dict_dct (ks : List Key) (xs : List D) : isiD "dict" S (.dct ks xs) = some (.bl true) := isiD_of rfl (by decide +kernel)
@[simp] theorem eqD_eq (a b : D) : eqD S a b = (eqB S a b).bind fun k => some (.bl k) := (rfl)
@[simp] theorem neD_eq (a b : D) : neD S a b = (eqB S a b).bind fun k => some (.bl (!k)) := (rfl)
@[simp] theorem eqB_ii (i j : Int) : eqB S (.int i) (.int j) = some (i == j) := by simp [eqB, deepN, pyD, PyData.eqv]
@[simp] theorem eqB_ss (i j : Str) : eqB S (.str i) (.str j) = some (i == j) := by simp [eqB, deepN, pyD, PyData.eqv]
@[simp] theorem eqB_tt (xs ys : List D) : eqB S (.tup xs) (.tup ys) = (pyAll (pyD S 59) xs).bind fun p => (pyAll (pyD S 59) ys).bind fun q => some (PyData.eqvAll p q) := by
  unfold eqB deepN
  simp only [pyD]
  cases pyAll (pyD S 59) xs <;> cases pyAll (pyD S 59) ys <;> simp [PyData.eqv]
@[simp] theorem eqB_ll (xs ys : List D) : eqB S (.lst xs) (.lst ys) = (pyAll (pyD S 59) xs).bind fun p => (pyAll (pyD S 59) ys).bind fun q => some (PyData.eqvAll p q) := by
  unfold eqB deepN
  simp only [pyD]
  cases pyAll (pyD S 59) xs <;> cases pyAll (pyD S 59) ys <;> simp [PyData.eqv]
@[simp] theorem pyAll_nil (f : D → Option PyData) : pyAll f [] = some [] := (rfl)
@[simp] theorem pyAll_cons' (f : D → Option PyData) (x : D) (xs : List D) : pyAll f (x :: xs) = (f x).bind fun y => (pyAll f xs).bind fun ys => some (y :: ys) := (rfl)
@[simp] theorem pyD_int (n : Nat) (i : Int) : pyD S n (.int i) = some (.int i) := by cases n <;> rfl
@[simp] theorem pyD_str (n : Nat) (i : Str) : pyD S n (.str i) = some (.str i) := by cases n <;> rfl
@[simp] theorem pyD_bl (n : Nat) (i : Bool) : pyD S n (.bl i) = some (.bool i) := by cases n <;> rfl
@[simp] theorem pyD_non (n : Nat) : pyD S n .non = some .none := by cases n <;> rfl
@[simp] theorem isN_non : isN S .non .non = some (.bl true) := (rfl)
@[simp] theorem isN_exn (c : Nat) (ns : List Str) (xs : List D) : isN S (.exn c ns xs) .non = some (.bl false) := (rfl)
end
theorem forL_inv {t : Tg} {body : RS} (P : Env → Store → Prop) : ∀ (ds : List D) {e : Env} {S : Store}, (∀ d ∈ ds, ∀ e S, P e S → ∃ e1, bindT S d e t = some e1 ∧ ∃ e2 S2, body e1 S = .nx e2 S2 ∧ P e2 S2) → P e S → ∃ e' S', forL t body ds e S = .nx e' S' ∧ P e' S'
  | [], e, S, _, h => ⟨e, S, rfl, h⟩
  | d :: ds, e, S, hs, h => by
    obtain ⟨e1, h1, e2, S2, h2, h3⟩ := hs d List.mem_cons_self e S h
    obtain ⟨e', S', h4, h5⟩ := forL_inv P ds (fun d hd => hs d (List.mem_cons_of_mem _ hd)) h3
    exact ⟨e', S', by simp [forL, h1, h2, h4], h5⟩
@[simp] theorem ran1_int (j : Int) : ran1 [.int j] = if -(2 ^ 62) ≤ j ∧ j < 2 ^ 62 then some (rangeD 0 j.toNat) else none := (rfl)
@[simp] theorem ran2_int (i j : Int) : ran2 [.int i, .int j] = if -(2 ^ 62) ≤ i ∧ i < 2 ^ 62 ∧ -(2 ^ 62) ≤ j ∧ j < 2 ^ 62 then some (rangeD i (j - i).toNat) else none := (rfl)
theorem ran_cells (l n : Nat) (h : n ≤ 63) (hn : 1 ≤ n) : ∃ m, m ≤ n ∧ ran1 [.int (if (if (n : Int) < (l : Int) then (n : Int) else (l : Int)) > 1 then (if (n : Int) < (l : Int) then (n : Int) else (l : Int)) else 1)] = some (rangeD 0 m) := by
  refine ⟨(if (if (n : Int) < (l : Int) then (n : Int) else (l : Int)) > 1 then (if (n : Int) < (l : Int) then (n : Int) else (l : Int)) else 1).toNat, ?_, ?_⟩
  · split <;> split <;> omega
  · rw [ran1_int, if_pos]
    split <;> split <;> omega
theorem mem_rangeD {lo : Int} {n : Nat} {d : D} (h : d ∈ rangeD lo n) : ∃ i : Nat, i < n ∧ d = .int (lo + i) := by
  unfold rangeD at h
  obtain ⟨i, h1, h2⟩ := List.mem_map.mp h
  exact ⟨i, List.mem_range.mp h1, h2.symm⟩
end Ev
namespace Ev
open PySem PySem.Spec L2
section
variable {e : Env} {S : Store}
@[simp] theorem rPrs_nil : rPrs [] e S = .ok [] S := (rfl)
@[simp] theorem rPrs_cons (p : Str × RE) (l : List (Str × RE)) : rPrs (p :: l) e S = (p.2 e S).bind fun d S1 => (rPrs l e S1).bind fun ds S2 => .ok (d :: ds) S2 := (rfl)
@[simp] theorem rDispF_eq (l : List (Str × RE)) : rDispF l e S = (rPrs l e S).calm.bind fun ds S1 => .ok (.dct (dispF (l.map (·.1)) ds ([], [])).1 (dispF (l.map (·.1)) ds ([], [])).2) S1 := (rfl)
@[simp] theorem rDispM_eq (l : List (Str × RE)) : rDispM l e S = (rPrs l e S).calm.bind fun ds S1 => .ok (.loc S1.length) (S1 ++ [.dK (dispF (l.map (·.1)) ds ([], [])).1 (dispF (l.map (·.1)) ds ([], [])).2]) := (rfl)
@[simp] theorem sStar_eq (i j : Nat) (a : RE) : sStar i j a e S = (a e S).fl e fun d S1 => match d with
  | .tup (x :: xs) => if xs.length ≤ 16000 then .nx (setAll [i, j] [x, .lst xs] e) S1 else .bad
  | _ => .bad := (rfl)
@[simp] theorem sPutD_eq (a o i : RE) : sPutD a o i e S = (a e S).fl e fun v S1 => (o e S1).fl e fun x S2 => (i e S2).fl e fun y S3 => match putD S3 x y v with
  | some S4 => .nx e S4
  | none => .bad := (rfl)
end
end Ev
namespace Ev
open PySem PySem.Spec L2 PyProof.Rows
section
variable {X : Cx} {C : Nat → Addr} {io : Io} {S : Store} {H : Hp} {pins : List (Addr × Obj)} {sg : L2.St} {s : Shared} {f : D → Option PyData}
def ShR (X : Cx) (s : Shared) (u : Value) (p : PyData) : Prop := ∃ as bs, Reads s.heap u p as ∧ ReadAtMost s.heap p.depth bs ∧ ReprK X.prog X.w bs s.heap p.depth u p.shown
def ShRs (X : Cx) (s : Shared) (us : List Value) (ps : List PyData) : Prop := ∃ as bs, ReadsAll s.heap us ps as ∧ ReadAtMost s.heap (PyData.depthAll ps) bs ∧ ReprAllK X.prog X.w bs s.heap (PyData.depthAll ps) us (PyData.shownAll ps)
theorem ShR.plain {u : Value} {p : PyData} {as : List Addr} (r : Reads s.heap u p as) (hs : p.showable = true) (hd : p.hasDict = true → sysModules ∉ as) (hz : p.shown.length ≤ sizeLine) : ShR X s u p :=
  let ⟨bs, h1, h2⟩ := ReprK.of_reads (prog := X.prog) (w := X.w) r hs hd hz
  ⟨as, bs, r, h1, h2⟩
theorem ShRs.nil : ShRs X s [] [] := ⟨[], [], .nil, fun _ h => absurd h List.not_mem_nil, by rw [PyData.shownAll]; exact .nil⟩
theorem ShRs.cons {u : Value} {us : List Value} {p : PyData} {ps : List PyData} (h : ShR X s u p) (hr : ShRs X s us ps) : ShRs X s (u :: us) (p :: ps) := by
  obtain ⟨a1, b1, r1, m1, k1⟩ := h
  obtain ⟨a2, b2, r2, m2, k2⟩ := hr
  have e : PyData.depthAll (p :: ps) = max p.depth (PyData.depthAll ps) := by rw [PyData.depthAll]
  have e2 : PyData.shownAll (p :: ps) = p.shown :: PyData.shownAll ps := by rw [PyData.shownAll]
  refine ⟨_, b1 ++ b2, .cons r1 r2, fun b hb => ?_, ?_⟩
  · rw [e]
    rcases List.mem_append.mp hb with q | q
    · obtain ⟨x, y, z1, z2⟩ := m1 b q; exact ⟨x, y, z1, by omega⟩
    · obtain ⟨x, y, z1, z2⟩ := m2 b q; exact ⟨x, y, z1, by omega⟩
  · rw [e, e2]
    exact .cons ((k1.more fun b q => List.mem_append_left b2 q).level_le (by omega)) (k2.more_le (fun b q => List.mem_append_right b1 q) (by omega))
end
end Ev
namespace Ev
open PySem PySem.Spec L2 PyProof.Rows
inductive Atm where
  | b (x : Bool)
  | i (x : Int)
def Atm.val : Atm → Tok → Value
  | .b x, _ => .bool x
  | .i x, t => .int x t
end Ev
namespace Ev
open PySem PySem.Spec L2 PyProof.Rows
end Ev
namespace Ev
open PySem PySem.Spec L2 PyProof.Rows
section
variable {X : Cx} {C : Nat → Addr} {W : WX}
def eqL (S : Store) (a b : D) : Option D := match a, b with
  | .lst (_ :: _), .lst [] => some (.bl false)
  | a, b => eqD S a b
def neL (S : Store) (a b : D) : Option D := match a, b with
  | .lst (_ :: _), .lst [] => some (.bl true)
  | a, b => neD S a b
@[simp] theorem eqL_nil (S : Store) (xs : List D) : eqL S (.lst xs) (.lst []) = some (.bl xs.isEmpty) := by
  cases xs with
  | nil => simp [eqL, PyData.eqvAll]
  | cons x xs => rfl
@[simp] theorem neL_nil (S : Store) (xs : List D) : neL S (.lst xs) (.lst []) = some (.bl (!xs.isEmpty)) := by
  cases xs with
  | nil => simp [neL, PyData.eqvAll]
  | cons x xs => rfl
def leDS (S : Store) (a b : D) : Option D := match a, b with
  | .str x, .str y => some (.bl (!decide (y.cps.toList < x.cps.toList)))
  | a, b => leD S a b
@[simp] theorem leDS_str (S : Store) (x y : Str) : leDS S (.str x) (.str y) = some (.bl (!decide (y.cps.toList < x.cps.toList))) := (rfl)
@[simp] theorem leDS_int (S : Store) (i j : Int) : leDS S (.int i) (.int j) = some (.bl (decide (i ≤ j))) := (rfl)
end
end Ev
namespace Ev
open PySem PySem.Spec L2 PyProof.Rows
section
variable {X : Cx} {C : Nat → Addr} {W : WX}
def rBad : RE := fun _ _ => .bad
def sBad : RS := fun _ _ => .bad
@[simp] theorem rBad_eq (e : Env) (S : Store) : rBad e S = .bad := (rfl)
@[simp] theorem sBad_eq (e : Env) (S : Store) : sBad e S = .bad := (rfl)
end
section
variable {X : Cx} {C : Nat → Addr} {W : WX}
def getL (S : Store) (x y : D) : Option D := match x, y with
  | .loc n, .int k => match S[n]? with
    | some (.lst xs) => atI xs k
    | _ => none
  | _, _ => none
def sAugIx (f : Store → D → D → Option D) (o i a : RE) : RS := fun e S => (o e S).fl e fun x S1 => (i e S1).fl e fun y S2 => match getL S2 x y with
  | none => .bad
  | some v => (a e S2).fl e fun z S3 => match f S3 v z with
    | none => .bad
    | some w => match putIx S3 x y w with
      | none => .bad
      | some S4 => .nx e S4
@[simp] theorem sAugIx_eq (f : Store → D → D → Option D) (o i a : RE) (e : Env) (S : Store) : sAugIx f o i a e S = (o e S).fl e fun x S1 => (i e S1).fl e fun y S2 => match getL S2 x y with
  | none => .bad
  | some v => (a e S2).fl e fun z S3 => match f S3 v z with
    | none => .bad
    | some w => match putIx S3 x y w with
      | none => .bad
      | some S4 => .nx e S4 := (rfl)
end
end Ev
namespace Ev
open PySem PySem.Spec L2 PyProof.Rows
def allO (f : D → Option D) : List D → Option (List D)
  | [] => some []
  | d :: ds => (f d).bind fun x => (allO f ds).bind fun xs => some (x :: xs)
def dz (n : Nat) (S : Store) : Nat → D → Option D
  | k + 1, .tup xs => (allO (dz n S k) xs).bind fun ys => some (.tup ys)
  | k + 1, .lst xs => (allO (dz n S k) xs).bind fun ys => some (.lst ys)
  | k + 1, .loc m => if m < n then some (.loc m) else match S[m]? with
    | some (.lst xs) => (allO (dz n S k) xs).bind fun ys => some (.lst ys)
    | _ => none
  | _, .non => some .non
  | _, .bl b => some (.bl b)
  | _, .int i => some (.int i)
  | _, .str x => some (.str x)
  | _, _ => none
def D.atom : D → Bool
  | .non => true
  | .bl _ => true
  | .int _ => true
  | .str _ => true
  | _ => false
def D.flT : Nat → D → Bool
  | _, .loc _ => true
  | k + 1, .tup xs => xs.all (D.flT k)
  | _, d => D.atom d
def D.flat (d : D) : Bool := D.flT 6 d
def MO.flat : MO → Bool
  | .lst xs => xs.all D.flat
  | .dK _ xs => xs.all D.flat
  | .dT _ xs => xs.all D.flat
  | .ins _ _ xs => xs.all D.flat
open Classical in
noncomputable def zc (n : Nat) (g : List D → Store → Res D) (ds : List D) (S : Store) : Res D :=
  match allO (dz n S 12) ds with
  | none => .bad
  | some ds' => if lowS n (S.take n) = true ∧ (S.take n).all MO.flat = true then
      match g ds' (S.take n) with
      | .ok d S' => if S' = S.take n ∧ D.atom d = true then .ok d S else .bad
      | .err x S' => if S' = S.take n ∧ x.xs.all D.atom = true then .err x S else .bad
      | .bad => .bad
    else .bad
noncomputable def rCallZ (i : Nat) (g : List D → Store → Res D) (rs : RA) : RE := fun e S => (rs e S).bind fun ds S1 => match e[i]? with
  | some (some (.loc n)) => zc n g ds S1
  | _ => .bad
@[simp] theorem rCallZ_eq (i : Nat) (g : List D → Store → Res D) (rs : RA) (e : Env) (S : Store) : rCallZ i g rs e S = (rs e S).bind fun ds S1 => match e[i]? with
  | some (some (.loc n)) => zc n g ds S1
  | _ => .bad := (rfl)
end Ev
namespace Ev
open PySem PySem.Spec L2 PyProof.Rows
end Ev
namespace Ev
open PySem PySem.Spec L2 PyProof.Rows
end Ev
namespace Ev
open PySem PySem.Spec L2 PyProof.Rows
end Ev
namespace Ev
open PySem PySem.Spec L2 PyProof.Rows
end Ev
namespace Ev
open PySem PySem.Spec L2 PyProof.Rows
end Ev
namespace Ev
open PySem PySem.Spec L2 PyProof.Rows
end Ev
namespace Ev
open PySem PySem.Spec L2 PyProof.Rows
def lkF (n : Nat) (S : Store) : D → Option D
  | .loc m => if m < n then none else match S[m]? with
    | some (.dK ks xs) => if lows n xs = true then some (.dcf ks xs) else none
    | _ => none
  | _ => none
def frzK (n : Nat) : Res D → Res D
  | .ok d S => match lkF n S d with
    | some d' => if lowS n (S.take n) = true then .ok d' (S.take n) else .bad
    | none => .bad
  | .err x S => if (lows n x.xs && lowS n (S.take n)) = true then .err x (S.take n) else .bad
  | .bad => .bad
def rFrzK (a : RE) : RE := fun e S => frzK S.length (a e S)
section
variable {X : Cx} {C : Nat → Addr} {W : WX}
theorem pe_lockR {e : Expr} {t : TE} (h : PE X e t) : PE X e (fun σ H Q => t σ H fun x H1 => Q x H1 ∧ False ∨ ∃ d u, x = .ref d ∧ H1 d = some u ∧ Mut (some u) ∧ ∀ od, Q x (upd H1 d (.frz od u))) := by
  refine ⟨fun pins s σ H Q I hw => ?_⟩
  refine thn (h.run pins s σ _ _ I hw) fun v s1 ⟨x, H1, I1, r, q⟩ => ?_
  rcases q with ⟨_, q⟩ | ⟨d, u, rfl, hd, mu, q⟩
  · exact q.elim
  · obtain ⟨od, I2⟩ := I1.lock hd mu
    exact ⟨_, _, I2, r, q od⟩
end
def keyDD : Key → D
  | .inl i => .int i
  | .inr x => .str x
theorem key_rep {K : PySem.W.Frag} {C : Nat → Addr} {io : Io} {F : Hp} (k : Key) : Rep K C io F (keyDD k) (kV k) := by
  cases k with
  | inl i => exact .int i
  | inr x => exact .str x
def keysF : D → Option (List D)
  | .dcf ks _ => some (ks.map keyDD)
  | _ => none
def itemsF : D → Option (List D)
  | .dcf ks xs => some (List.zipWith (fun k x => .tup [keyDD k, x]) ks xs)
  | _ => none
def rKeys (a : RE) : RA := fun e S => (a e S).bind fun d S1 => ofO (keysF d) S1
def rItems (a : RE) : RA := fun e S => (a e S).bind fun d S1 => ofO (itemsF d) S1
def rMulM (a b : RE) : RE := fun e S => (a e S).bind fun x S1 => (b e S1).bind fun y S2 => match asL S2 x, y with
  | some xs, .int k => if 0 ≤ k ∧ k < 2 ^ 62 ∧ xs.length * k.toNat ≤ sizeLine then .ok (.loc S2.length) (S2 ++ [.lst (repL k.toNat xs)]) else .bad
  | _, _ => .bad
@[simp] theorem rMulM_eq {a b : RE} {e : Env} {S : Store} : rMulM a b e S = (a e S).bind fun x S1 => (b e S1).bind fun y S2 => match asL S2 x, y with
  | some xs, .int k => if 0 ≤ k ∧ k < 2 ^ 62 ∧ xs.length * k.toNat ≤ sizeLine then .ok (.loc S2.length) (S2 ++ [.lst (repL k.toNat xs)]) else .bad
  | _, _ => .bad := (rfl)
@[simp] theorem rKeys_eq {a : RE} {e : Env} {S : Store} : rKeys a e S = (a e S).bind fun d S1 => ofO (keysF d) S1 := (rfl)
@[simp] theorem rItems_eq {a : RE} {e : Env} {S : Store} : rItems a e S = (a e S).bind fun d S1 => ofO (itemsF d) S1 := (rfl)
@[simp] theorem rFrzK_eq {a : RE} {e : Env} {S : Store} : rFrzK a e S = frzK S.length (a e S) := (rfl)
end Ev
namespace Ev
open PySem PySem.Spec L2 PyProof.Rows
end Ev
namespace Ev
open PySem PySem.Spec L2 PyProof.Rows
section
variable {S : Store}
@[simp] theorem isi_int_dcf (ks : List Key) (xs : List D) : isiD "int" S (.dcf ks xs) = some (.bl false) := isiD_of rfl (by decide +kernel)
@[simp] theorem isi_bool_dcf (ks : List Key) (xs : List D) : isiD "bool" S (.dcf ks xs) = some (.bl false) := isiD_of rfl (by decide +kernel)
@[simp] theorem isi_str_dcf (ks : List Key) (xs : List D) : isiD "str" S (.dcf ks xs) = some (.bl false) := isiD_of rfl (by decide +kernel)
@[simp] theorem isi_tuple_dcf (ks : List Key) (xs : List D) : isiD "tuple" S (.dcf ks xs) = some (.bl false) := isiD_of rfl (by decide +kernel)
@[simp] theorem isi_list_dcf (ks : List Key) (xs : List D) : isiD "list" S (.dcf ks xs) = some (.bl false) := isiD_of rfl (by decide +kernel)
@[simp] theorem isi_dict_dcf (ks : List Key) (xs : List D) : isiD "dict" S (.dcf ks xs) = some (.bl true) := isiD_of rfl (by decide +kernel)
end
end Ev
namespace Ev
open PySem PySem.Spec PyProof.Rows HotX
end Ev
namespace Ev
open PySem PySem.Spec L2
section
variable {X : Cx} {C : Nat → Addr} {W : WX} {pos : Pos}
theorem Cal.h {k : Nat} {f : Addr} {fd : FuncData} {ps : List Str} {sp : Sp} (F : L2H.FnH X.prog X.w X.K X.mg X.base (L2N.CX X.prog X.w) k f fd ps sp) (hr : L2H.RoomH k X.A) (hc : L2H.HotC X) : Cal X f fd ps sp :=
  ⟨F.len, fun pins sg s H args us vs Q E I b r h => by
    obtain ⟨p, hot, hp⟩ := hc
    have P1 := I.pin p (List.mem_append_left _ hp)
    exact F.run X.A X.stack s H args us vs Q E p hr hot ⟨P1.1, P1.2.1, fun hm => (List.mem_cons.mp (I.stkSub p.1 hm)).elim P1.2.2.1 P1.2.2.2.1, P1.2.2.2.2⟩ I.env0 b r h⟩
end
end Ev
namespace Ev
open PySem PySem.Spec L2
theorem _root_.L2.PE.ex {X : Cx} {e : Expr} {p : Nat → Prop} {t : Nat → TE} (h : ∀ c, p c → PE X e (t c)) : PE X e (fun sg H Q => ∃ c, p c ∧ t c sg H Q) := ⟨fun pins s sg H Q I ⟨c, hc, q⟩ => (h c hc).run pins s sg H Q I q⟩
end Ev
namespace Ev
open PySem PySem.Spec L2
theorem _root_.L2H.RoomH.units {k : Nat} {A : Around} (r : L2H.RoomH k A) : A.units + 64 < cLine := by have := r.un; omega
theorem _root_.L2H.PIH.imp {X : Cx} {tg iter : Expr} {w w' : TI} (h : L2H.PIH X tg iter w) (hi : ∀ sg H R, w' sg H R → w sg H R) : L2H.PIH X tg iter w' := ⟨fun pins s sg H R I q => h.run pins s sg H R I (hi _ _ _ q)⟩
end Ev
namespace Ev
open PySem PySem.Spec L2 PyProof.Rows
end Ev
namespace Ev
open PySem PySem.Spec L2 PyProof.Rows
open PySem.AutoSeq1 (wpAny_loadPart')
open PySem.MeetsSeq PySem.MeetsSeq2 PySem.MeetsSeq3 PySem.SeqAt
end Ev
namespace Ev
open PySem PySem.Spec L2 PyProof.Rows
open PySem.AutoSeq1 (wpAny_loadPart')
open PySem.MeetsSeq PySem.MeetsSeq2 PySem.MeetsSeq3 PySem.SeqAt
section
variable {X : Cx} {C : Nat → Addr} {c : Nat} {fa : Addr} {fd : FuncData} {ps : List Str} {g : List D → Store → Res D}
structure CalI (X : Cx) (f : Addr) (fd : FuncData) (ps : List Str) (sp : Sp) : Prop where
  len : ∀ vs H Q E, sp vs H Q E → vs.length = ps.length
  run : ∀ (pins : List (Addr × Obj)) (sg : L2.St) (s : Shared) (H : Hp) (args : Args) (us : List Value) (vs : List V) (Q : VK) (E : XK), L2.Inv X pins sg H s → BindsTo s fd args (ps.zip us) → Vals vs us → sp vs H Q E →
    codeAny (model X.prog X.w) X.A.in1 (.call (.ref f) args) (CR (L2N.CX X.prog X.w) X.stack X.prog X.w H s Q E) s
theorem CalI.ok {X : Cx} {k : Nat} {f : Addr} {fd : FuncData} {ps : List Str} {sp : Sp} (F : FnOk X.prog X.w X.K X.mg X.base (L2N.CX X.prog X.w) k f fd ps sp) (hr : Room (k + 1) X.A) : CalI X f fd ps sp :=
  ⟨F.len, fun pins sg s H args us vs Q E I => F.run X.A.in1 X.stack s H args us vs Q E hr.in1 I.env0.in1⟩
end
end Ev
namespace Ev
open PySem PySem.Spec L2
def Fl.ner : Fl → Fl
  | .nx e S => .nx e S
  | .rt d S => .rt d S
  | _ => .bad
abbrev Hd := (Nat → Option Bool) × Option Nat × RS
def catchO (oi : Option Nat) (su : RS) (x : Exn) (e : Env) (S : Store) : Fl := match oi with
  | some i => (su (e.set i (some (.exn x.c x.ns x.xs))) S).clr i
  | none => (su e S).ner
def catchM : List Hd → Exn → Env → Store → Fl
  | [], x, e, S => .er x e S
  | h :: r, x, e, S => match h.1 x.c with
    | some true => catchO h.2.1 h.2.2 x e S
    | some false => catchM r x e S
    | none => .bad
def sTryM (hs : List Hd) (body : RS) : RS := fun e S => match body e S with
  | .er x e1 S1 => catchM hs x e1 S1
  | f => f
@[simp] theorem sTryM_eq (l : List Hd) (body : RS) (e : Env) (S : Store) : sTryM l body e S = match body e S with
  | .er x e1 S1 => catchM l x e1 S1
  | f => f := (rfl)
end Ev
namespace Ev
open PySem PySem.Spec L2
def rCalM (f : Store → List D → Option (List D)) (a : RA) : RE := fun e S => (a e S).bind fun xs S1 => match f S1 xs with
  | some ds => .ok (.loc S1.length) (S1 ++ [.lst ds])
  | none => .bad
@[simp] theorem rCalM_eq (f : Store → List D → Option (List D)) (a : RA) (e : Env) (S : Store) : rCalM f a e S = (a e S).bind fun xs S1 => match f S1 xs with
  | some ds => .ok (.loc S1.length) (S1 ++ [.lst ds])
  | none => .bad := (rfl)
end Ev
namespace Ev
open PySem PySem.Spec L2 PyProof.Rows
def rPrsK : List (Key × RE) → Env → Store → Res (List D)
  | [], _, S => .ok [] S
  | p :: l, e, S => (p.2 e S).bind fun d S1 => (rPrsK l e S1).bind fun ds S2 => .ok (d :: ds) S2
def dispK : List Key → List D → List Key × List D → List Key × List D
  | k :: ks, d :: ds, p => dispK ks ds (putKs p.1 p.2 k d)
  | _, _, p => p
def rDispKF (l : List (Key × RE)) : RE := fun e S => (rPrsK l e S).calm.bind fun ds S1 => .ok (.dct (dispK (l.map (·.1)) ds ([], [])).1 (dispK (l.map (·.1)) ds ([], [])).2) S1
def rDispKM (l : List (Key × RE)) : RE := fun e S => (rPrsK l e S).calm.bind fun ds S1 => .ok (.loc S1.length) (S1 ++ [.dK (dispK (l.map (·.1)) ds ([], [])).1 (dispK (l.map (·.1)) ds ([], [])).2])
section
variable {e : Env} {S : Store}
@[simp] theorem rPrsK_nil : rPrsK [] e S = .ok [] S := (rfl)
@[simp] theorem rPrsK_cons (p : Key × RE) (l : List (Key × RE)) : rPrsK (p :: l) e S = (p.2 e S).bind fun d S1 => (rPrsK l e S1).bind fun ds S2 => .ok (d :: ds) S2 := (rfl)
@[simp] theorem rDispKF_eq (l : List (Key × RE)) : rDispKF l e S = (rPrsK l e S).calm.bind fun ds S1 => .ok (.dct (dispK (l.map (·.1)) ds ([], [])).1 (dispK (l.map (·.1)) ds ([], [])).2) S1 := (rfl)
@[simp] theorem rDispKM_eq (l : List (Key × RE)) : rDispKM l e S = (rPrsK l e S).calm.bind fun ds S1 => .ok (.loc S1.length) (S1 ++ [.dK (dispK (l.map (·.1)) ds ([], [])).1 (dispK (l.map (·.1)) ds ([], [])).2]) := (rfl)
end
end Ev
namespace Ev
open PySem PySem.Spec L2 PyProof.Rows
def keysOf : List D → Option (List Key)
  | [] => some []
  | d :: ds => (keyOf d).bind fun k => (keysOf ds).bind fun ks => some (k :: ks)
theorem keysOf_rep {K : PySem.W.Frag} {C : Nat → Addr} {io : Io} {F : Hp} : ∀ {ds : List D} {vs : List V} {k : List Key}, keysOf ds = some k → Reps K C io F ds vs → vs = k.map kV
  | [], _, _, h, .nil => by cases h; rfl
  | d :: ds, _, _, h, .cons r rs => by
    obtain ⟨k, h1, h⟩ := bind_some' h
    obtain ⟨ks, h2, h⟩ := bind_some' h
    cases h
    rw [keyOf_rep h1 r, keysOf_rep h2 rs]; rfl
theorem keys_reps {K : PySem.W.Frag} {C : Nat → Addr} {io : Io} {F : Hp} : ∀ k : List Key, Reps K C io F (k.map keyDD) (k.map kV)
  | [] => .nil
  | k :: ks => .cons (key_rep k) (keys_reps ks)
def hasT (ks : List (List Key)) (k : List Key) : Bool := ks.any fun k' => decide (k' = k)
def repT : List (List Key) → List D → List Key → D → List D
  | k' :: ks, x :: xs, k, v => (if k' = k then v else x) :: repT ks xs k v
  | _, xs, _, _ => xs
def putKT (ks : List (List Key)) (xs : List D) (k : List Key) (v : D) : List (List Key) × List D := if hasT ks k = true then (ks, repT ks xs k v) else (ks ++ [k], xs ++ [v])
theorem rep_repT {K : PySem.W.Frag} {C : Nat → Addr} {io : Io} {F : Hp} {k : List Key} {d : D} {w : V} (rw' : Rep K C io F d w) : ∀ {kvs : List (List Key × V)} {xs : List D}, Reps K C io F xs (kvs.map (·.2)) → Reps K C io F (repT (kvs.map (·.1)) xs k d) ((kvs.map fun kv => if kv.1 = k then (kv.1, w) else kv).map (·.2))
  | [], _, .nil => .nil
  | (k', v) :: kvs, _, .cons rx r => by
    simp only [List.map_cons, repT]
    refine .cons ?_ (rep_repT rw' r)
    by_cases e : k' = k
    · simp only [e, if_true]; exact rw'
    · simp only [e, if_false]; exact rx
theorem put_repT {K : PySem.W.Frag} {C : Nat → Addr} {io : Io} {F : Hp} {k : List Key} {d : D} {w : V} {kvs : List (List Key × V)} {xs : List D} (rw' : Rep K C io F d w) (r : Reps K C io F xs (kvs.map (·.2))) :
    (putK kvs k w).map (·.1) = (putKT (kvs.map (·.1)) xs k d).1 ∧ Reps K C io F (putKT (kvs.map (·.1)) xs k d).2 ((putK kvs k w).map (·.2)) := by
  have e : hasT (kvs.map (·.1)) k = kvs.any fun kv => decide (kv.1 = k) := by unfold hasT; rw [List.any_map]; rfl
  unfold putKT putK
  rw [e]
  split
  · refine ⟨?_, rep_repT rw' r⟩
    rw [List.map_map]
    apply List.map_congr_left
    intro kv _
    simp only [Function.comp]
    split <;> rfl
  · refine ⟨by simp, ?_⟩
    rw [List.map_append]
    exact r.append (.cons rw' .nil)
def rDctTM : RE := fun _ S => .ok (.loc S.length) (S ++ [.dT [] []])
theorem ee_dctTM {X : Cx} {C : Nat → Addr} {W : WX} {pos : Pos} : PE X (.Dict [] [] pos) (tE X.K C W rDctTM) :=
  pe_dnewT.imp fun sg H Q ⟨e, S, io, d, s, p⟩ q hq =>
    p _ _ _ (Ext.loc hq) (d.loc hq ⟨[], upd_same, rfl, .nil⟩) (.loc (by
      rw [← d.len]
      show (io.l ++ [q])[io.l.length]? = some q
      rw [List.getElem?_append_right (Nat.le_refl _)]; simp))
def putT (S : Store) (x : D) (ys : List D) (v : D) : Option Store := match x with
  | .loc n => match S[n]? with
    | some (.dT ks xs) => (keysOf ys).bind fun k => if ks.length < sizeLine then some (S.set n (.dT (putKT ks xs k v).1 (putKT ks xs k v).2)) else none
    | _ => none
  | _ => none
def sPutT (a o : RE) (i : RA) : RS := fun e S => (a e S).fl e fun v S1 => (o e S1).fl e fun x S2 => (i e S2).fl e fun ys S3 => match putT S3 x ys v with
  | some S4 => .nx e S4
  | none => .bad
section
variable {X : Cx} {C : Nat → Addr} {W : WX}
theorem s_putT {m : Nat} {a o : Expr} {es : List Expr} {k} {ra ro : RE} {ri : RA} {pos pos' tp : Pos} (hu : X.A.units + 64 < cLine) (ha : PE X a (tE X.K C W ra)) (ho : PE X o (tE X.K C W ro)) (hi : PA X es (tA X.K C W ri)) (hn : AL m ri) (hz : m ≤ sizeLine := by decide)
    (hs : swapsWith a (some (.Subscript o (.Tuple es k tp) pos')) pos.line X.env = pure false := by rfl) :
    PS X (.Assign [.Subscript o (.Tuple es k tp) pos'] a pos) (tS X.K C W (sPutT ra ro ri)) :=
  (ps_dput (by omega) ho (pe_tup hi) ha hs).imp fun Dn sg H h => by
    refine (tS.seq (R := RepR X.K C) (fun e v S1 => (ro e S1).fl e fun x S2 => (ri e S2).fl e fun ys S3 => match putT S3 x ys v with
      | some S4 => .nx e S4
      | none => .bad) h fun _ _ => rfl).mono fun v H1 ⟨e, S, io, dv, dn, sl, rv, p⟩ => ?_
    refine ⟨e, S, io, dn, sl, (p.of_res sl).mono fun x H2 ⟨io2, S2, dx, x2, dn2, rx, p2⟩ => ?_⟩
    refine tR.mono (tA.alen hn ⟨e, S2, io2, dn2, sl.ext x2, p2.of_res (sl.ext x2)⟩) fun ys H3 ⟨hlen, io3, S3, dy, x3, dn3, ry, p3⟩ => ⟨by rw [hlen]; exact hz, fun q hq => ?_⟩
    have rv3 := (rv.ext x2).ext x3
    have rx3 := rx.ext x3
    obtain ⟨xq, dq, rq⟩ := new_tup dn3 ry hq
    cases z : putT S3 dx dy dv with
    | none => rw [z] at p3; exact p3.elim
    | some S4 =>
      rw [z] at p3
      unfold putT at z
      split at z
      · split at z
        · rename_i ks xs e1
          obtain ⟨k, e2, z⟩ := bind_some' z
          split at z
          · rename_i hz
            cases z
            cases rx3 with
            | @loc _ a hl =>
            obtain ⟨kvs, ea, rfl, rs⟩ := dq.obj _ _ a e1 hl
            obtain rfl := keysOf_rep e2 ry
            obtain ⟨k1, k2⟩ := put_repT (k := k) (rv3.ext xq) rs
            have x4 : Ext io3 (upd H3 q (.tup (k.map kV))) io3 (upd (upd H3 q (.tup (k.map kV))) a (.dT (putK kvs k v))) := Ext.put (mem_all hl)
            have d4 := dq.put (o := .dT (putK kvs k v)) (m := .dT (putKT (kvs.map (·.1)) xs k dv).1 (putKT (kvs.map (·.1)) xs k dv).2) hl ⟨_, upd_same, k1, k2.ext x4⟩
            rw [List.length_map] at hz
            exact ⟨a, _, rfl, DPut.t ea upd_same hz, p3 sg _ io3 (xq.trans x4) d4 ((((sl.ext x2).ext x3).ext xq).ext x4)⟩
          · cases z
        · cases z
      · cases z
end
def lkT (n : Nat) (S : Store) : D → Option D
  | .loc m => if m < n then none else match S[m]? with
    | some (.dT ks xs) => if lows n xs = true then some (.dcT ks xs) else none
    | _ => none
  | _ => none
def frzT (n : Nat) : Res D → Res D
  | .ok d S => match lkT n S d with
    | some d' => if lowS n (S.take n) = true then .ok d' (S.take n) else .bad
    | none => .bad
  | _ => .bad
def rFrzT (a : RE) : RE := fun e S => frzT S.length (a e S)
theorem cut_denT {K : PySem.W.Frag} {C : Nat → Addr} {n : Nat} {io : Io} {S : Store} {H : Hp} {a : Addr} {kvs : List (List Key × V)} {o : HO} (d : Den K C io S H) (h : lowS n (S.take n) = true) (hs : Same (Fz io H) (Fz (cutIo n io) (upd H a o))) (ha : a ∉ (cutIo n io).all) (hm : H a = some (.dT kvs)) :
    Den K C (cutIo n io) (S.take n) (upd H a o) := by
  have nd := List.nodup_append.mp d.nd
  have ne : ∀ b, b ∈ (cutIo n io).all → (upd H a o) b = H b := fun b hb => upd_ne fun z => ha (z ▸ hb)
  refine ⟨by simp [cutIo, d.len], ?_, fun k o' b e1 e2 => ?_, fun p hp => ?_⟩
  · unfold cutIo Io.all
    rw [List.nodup_append]
    exact ⟨nd.1.sublist (List.take_sublist _ _), nd.2.1, fun a ha b hb => nd.2.2 a (List.mem_of_mem_take ha) b hb⟩
  · have lo := lowS_get h e1
    have hb := ne b (mem_all e2)
    rw [List.getElem?_take] at e1
    have e2' : (io.l.take n)[k]? = some b := e2
    rw [List.getElem?_take] at e2'
    split at e1
    · rename_i hk
      rw [if_pos hk] at e2'
      have q := d.obj k o' b e1 e2'
      cases o' with
      | lst zs => obtain ⟨us, h1, h2⟩ := q; exact ⟨us, by rw [hb]; exact h1, lows_reps hs lo h2⟩
      | dK ks zs => obtain ⟨us, h1, h2, h3⟩ := q; exact ⟨us, by rw [hb]; exact h1, h2, lows_reps hs lo h3⟩
      | dT ks zs => obtain ⟨us, h1, h2, h3⟩ := q; exact ⟨us, by rw [hb]; exact h1, h2, lows_reps hs lo h3⟩
      | ins c ns zs =>
        obtain ⟨dx, fs, h1, h2, h3, h4⟩ := q
        exact ⟨dx, fs, by rw [hb]; exact h1, by rw [upd_ne (fun z => by rw [z, hm] at h2; cases h2)]; exact h2, h3, lows_reps hs lo h4⟩
    · cases e1
  · have q := d.hid p hp
    rw [ne p.1 (hid_mem (io := cutIo n io) hp)]
    exact q
section
variable {X : Cx} {C : Nat → Addr} {W : WX}
theorem ee_frzT {e : Expr} {re : RE} (he : PE X e (tE X.K C W re)) : PE X e (tE X.K C W (rFrzT re)) := (pe_lockR he).imp fun sg H Q h => by
  obtain ⟨e, S, io, dn, sl, p⟩ := h
  refine ⟨e, S, io, dn, sl, ?_⟩
  change Post X.K C (RepR X.K C) W sg io H (frzT S.length (re e S)) Q at p
  cases q : re e S with
  | bad => rw [q] at p; exact p
  | ok d S' =>
    rw [q] at p
    dsimp only [frzT] at p
    cases el : lkT S.length S' d with
    | none => rw [el] at p; exact p.elim
    | some d' =>
      rw [el] at p
      dsimp only at p
      split at p
      · rename_i lo
        intro b H' io' x d1 rp
        refine .inr ?_
        unfold lkT at el
        split at el
        · rename_i m
          split at el
          · cases el
          · rename_i hm
            cases rp with
            | @loc _ a hl =>
            split at el
            · rename_i ks xs es
              split at el
              · rename_i lx
                cases el
                have out := cut_out d1 hl hm
                obtain ⟨kvs, h1, h2, h3⟩ := d1.obj m _ a es hl
                have hin : a ∈ io'.all := mem_all hl
                refine ⟨a, .dT kvs, rfl, h1, trivial, fun od => ?_⟩
                have hs : Same (Fz io' H') (Fz (cutIo S.length io') (upd H' a (.frz od (.dT kvs)))) := fun b o eb => by
                  by_cases hb : b ∈ io'.all
                  · rw [Fz_in hb] at eb; cases eb
                  · rw [Fz_out hb] at eb
                    rw [Fz_out fun z => hb (cut_sub z), upd_ne (fun z => hb (by rw [z]; exact hin))]
                    exact eb
                have ex : Ext io H (cutIo S.length io') (upd H' a (.frz od (.dT kvs))) := by
                  have c := cut_ext dn x
                  exact ⟨c.pre, c.hid, x.same.trans hs⟩
                refine p _ _ _ ex (cut_denT d1 lo hs out h1) (.dcT (o := od) (kvs := kvs) ?_ h2 rfl (lows_reps hs lx h3))
                rw [Fz_out out, upd_same]
              · cases el
            · cases el
        · cases el
      · exact p.elim
  | err x S' =>
    rw [q] at p
    exact p.elim
end
def keysT : D → Option (List D)
  | .dcT ks _ => some (ks.map fun k => .tup (k.map keyDD))
  | _ => none
def rKeysT (a : RE) : RA := fun e S => (a e S).bind fun d S1 => ofO (keysT d) S1
theorem wk_keysT {K : PySem.W.Frag} {C : Nat → Addr} {io : Io} {F : Hp} {a : Addr} {o : Obj} {kvs : List (List Key × V)} (h : F a = some (.frz o (.dT kvs))) : Wk K C io F ((kvs.map (·.1)).map fun k => .tup (k.map keyDD)) (Itkt a o kvs) := fun io' H' S' hp hs dn => by
  have h' : H' a = some (.frz o (.dT kvs)) := Fz_same _ _ _ _ (hs _ _ h)
  have hl : ((kvs.map (·.1)).map fun k => D.tup (k.map keyDD)).length = kvs.length := by simp
  refine ⟨fun i hi => ⟨h', by rw [← hl]; exact hi⟩, ⟨h', by rw [hl]; exact Nat.le_refl _⟩, fun i x H'' hi y => ?_⟩
  obtain ⟨rfl, k, v, q, hk, rfl, hq⟩ := y
  have hn : q ∉ io'.all := fun z => by
    obtain ⟨u, e, m⟩ := dn.at z
    rw [hq] at e; cases e; cases m
  exact ⟨.tup (k.map keyDD), by simp [hk], Ext.refl _ _, dn, .tup (.inl (.inl (by rw [Fz_out hn]; exact hq))) (keys_reps k)⟩
section
variable {X : Cx} {C : Nat → Addr} {W : WX} {tg a : Expr} {ra : RE}
theorem ei_keysT (ha : PE X a (tE X.K C W ra)) : PI X tg a (tI X.K C W (rKeysT ra)) :=
  (pi_keys ha).imp fun sg H R h => (tR.seq1 (R := RepR X.K C) (fun _ d S => ofO (keysT d) S) h fun _ _ => rfl).mono fun x H1 ⟨e, S, io, d, dn, s, r, p⟩ => by
    obtain ⟨ds, ed, p⟩ := p.ofO
    cases r with
    | dcT h e1 e2 rs =>
      cases ed
      subst e1
      exact ⟨_, _, rfl, .inr ⟨_, Fz_same _ _ _ _ h, p _ H1 io (Ext.refl _ _) dn (wk_keysT h)⟩⟩
    | _ => cases ed
end
section
variable {X : Cx} {pins : List (Addr × Obj)} {σ : L2.St} {H : Hp} {s : Shared} {a b : Addr} {A : Around} {E : Value → Shared → Prop}
theorem key_ofS {ks : List Key} (I : L2.Inv X pins σ H s) (e : SqT X.K H b (ks.map kV)) : (tupleKind (mixKind X.prog X.w)).is s.heap ks b := by
  obtain ⟨its, o, n, r, h1, h2, h3⟩ := sqT_at I.hok I.kIn e
  exact ⟨o, its.toArray, n, h1, h2, h3, by simpa using items_are r⟩
theorem d_inS {kvs : List (List Key × V)} {k : List Key} {Q : Value → Shared → Prop} (hu : A.units + 1 < cLine) (I : L2.Inv X pins σ H s) (e : Rd H a (.dT kvs)) (eb : SqT X.K H b (k.map kV)) (h : ∀ s', L2.Inv X pins σ H s' → Q (.bool (valV kvs k).isSome) s') :
    wpAny (model X.prog X.w) A (compareOp .In (.ref b) (.ref a)) Q E s := by
  obtain ⟨z, hd, xs, rel, dd⟩ := dt_rd I.hok e
  refine wpAny_in_heap (tupleKind_room_in1 hu) (key_ofS I eb) hd dd ?_
  have q := (rel.val k).isSome_eq
  rw [Option.isSome_map] at q
  rw [← q]
  exact h _ (I.tok _)
theorem d_notInS {kvs : List (List Key × V)} {k : List Key} {Q : Value → Shared → Prop} (hu : A.units + 1 < cLine) (I : L2.Inv X pins σ H s) (e : Rd H a (.dT kvs)) (eb : SqT X.K H b (k.map kV)) (h : ∀ s', L2.Inv X pins σ H s' → Q (.bool (!(valV kvs k).isSome)) s') :
    wpAny (model X.prog X.w) A (compareOp .NotIn (.ref b) (.ref a)) Q E s := by
  obtain ⟨z, hd, xs, rel, dd⟩ := dt_rd I.hok e
  refine wpAny_notIn_heap (tupleKind_room_in1 hu) (key_ofS I eb) hd dd ?_
  have q := (rel.val k).isSome_eq
  rw [Option.isSome_map] at q
  rw [← q]
  exact h _ (I.tok _)
end
def inT (a b : D) : Option Bool := match a, b with
  | .tup ys, .dcT ks _ => (keysOf ys).bind fun k => some (hasT ks k)
  | _, _ => none
def dinT (S : Store) (a b : D) : Option D := (inT a b).bind fun k => some (.bl k)
def dninT (S : Store) (a b : D) : Option D := (inT a b).bind fun k => some (.bl (!k))
theorem has_valV {kvs : List (List Key × V)} {k : List Key} : (valV kvs k).isSome = hasT (kvs.map (·.1)) k := by
  unfold valV hasT
  rw [Option.isSome_map, List.any_map, Bool.eq_iff_iff, List.find?_isSome, List.any_eq_true]
  rfl
theorem inT_rep {K : PySem.W.Frag} {C : Nat → Addr} {io : Io} {H : Hp} {x y : D} {v w : V} {q : Bool} (h : inT x y = some q) (r1 : Rep K C io (Fz io H) x v) (r2 : Rep K C io (Fz io H) y w) :
    ∃ a b kvs k, v = .ref b ∧ w = .ref a ∧ Rd H a (.dT kvs) ∧ SqT K H b (k.map kV) ∧ q = (valV kvs k).isSome := by
  unfold inT at h
  split at h
  · rename_i ys ks xs
    obtain ⟨k, e2, h⟩ := bind_some' h
    cases h
    cases r1 with
    | tup h1 rs =>
    cases r2 with
    | dcT h2 e1 e3 rs2 =>
    obtain rfl := keysOf_rep e2 rs
    subst e1
    exact ⟨_, _, _, k, rfl, rfl, .inr ⟨_, Fz_same _ _ _ _ h2⟩, sqT_same (Fz_same _ _) h1, has_valV.symm⟩
  · cases h
section
variable {X : Cx} {C : Nat → Addr}
theorem dinT_ok (hu : X.A.units + 64 < cLine) : OpD X C (compareOp .In) dinT := fun pins s sg H x y v u Q I rx ry ⟨io, S, a, b, d, dn, ra, rb, e, q⟩ => by
  obtain ⟨k, e1, e⟩ := bind_some' e
  cases e
  obtain ⟨p, p2, kvs, kk, rfl, rfl, h1, h2, rfl⟩ := inT_rep e1 ra rb
  obtain rfl : u = Value.ref p := ry
  obtain rfl : v = Value.ref p2 := rx
  exact d_inS (by omega) I h1 h2 fun s' I' => ⟨.bl _, H, I', rfl, q _ H io (Ext.refl _ _) dn (.bl _)⟩
theorem dninT_ok (hu : X.A.units + 64 < cLine) : OpD X C (compareOp .NotIn) dninT := fun pins s sg H x y v u Q I rx ry ⟨io, S, a, b, d, dn, ra, rb, e, q⟩ => by
  obtain ⟨k, e1, e⟩ := bind_some' e
  cases e
  obtain ⟨p, p2, kvs, kk, rfl, rfl, h1, h2, rfl⟩ := inT_rep e1 ra rb
  obtain rfl : u = Value.ref p := ry
  obtain rfl : v = Value.ref p2 := rx
  exact d_notInS (by omega) I h1 h2 fun s' I' => ⟨.bl _, H, I', rfl, q _ H io (Ext.refl _ _) dn (.bl _)⟩
end
section
variable {e : Env} {S : Store}
@[simp] theorem rDctTM_eq : rDctTM e S = .ok (.loc S.length) (S ++ [.dT [] []]) := (rfl)
@[simp] theorem sPutT_eq (a o : RE) (i : RA) : sPutT a o i e S = (a e S).fl e fun v S1 => (o e S1).fl e fun x S2 => (i e S2).fl e fun ys S3 => match putT S3 x ys v with | some S4 => .nx e S4 | none => .bad := (rfl)
@[simp] theorem rKeysT_eq (a : RE) : rKeysT a e S = (a e S).bind fun d S1 => ofO (keysT d) S1 := (rfl)
end
end Ev
namespace Lw
open PySem PySem.Spec L2 Ev
noncomputable section
def topS (i : Nat) : Stmt := PySem.Challenge.pw_sealedreach_k06_least_bounds_told.main.body.getD i (.Pass ⟨0, 0, 0, 0⟩)
abbrev cl_NoBounds : Nat := 1
abbrev s_is_whole : Stmt := topS 6
theorem sc_is_whole : FnScope ["thing"] ["thing"] (defScope s_is_whole) := ⟨rfl, rfl, rfl, by decide +kernel, rfl, by decide +kernel, by decide +kernel⟩
abbrev s_look_at_bounds : Stmt := topS 7
theorem sc_look_at_bounds : FnScope ["low", "high"] ["low", "high"] (defScope s_look_at_bounds) := ⟨rfl, rfl, rfl, by decide +kernel, rfl, by decide +kernel, by decide +kernel⟩
abbrev s_least_in_bits : Stmt := topS 8
theorem sc_least_in_bits : FnScope ["low", "high", "step", "first"] ["low", "high"] (defScope s_least_in_bits) := ⟨rfl, rfl, rfl, by decide +kernel, rfl, by decide +kernel, by decide +kernel⟩
abbrev s_in_bits : Stmt := topS 9
theorem sc_in_bits : FnScope ["low", "high"] ["low", "high"] (defScope s_in_bits) := ⟨rfl, rfl, rfl, by decide +kernel, rfl, by decide +kernel, by decide +kernel⟩
abbrev s_from_bits : Stmt := topS 10
theorem sc_from_bits : FnScope ["step", "first", "count"] ["step", "first", "count"] (defScope s_from_bits) := ⟨rfl, rfl, rfl, by decide +kernel, rfl, by decide +kernel, by decide +kernel⟩
abbrev s_least_held : Stmt := topS 11
theorem sc_least_held : FnScope ["low", "high", "step", "first", "count"] ["low", "high"] (defScope s_least_held) := ⟨rfl, rfl, rfl, by decide +kernel, rfl, by decide +kernel, by decide +kernel⟩
abbrev s_least_bounds : Stmt := topS 12
theorem sc_least_bounds : FnScope ["low", "high"] ["low", "high"] (defScope s_least_bounds) := ⟨rfl, rfl, rfl, by decide +kernel, rfl, by decide +kernel, by decide +kernel⟩
abbrev s_is_exact : Stmt := topS 13
theorem sc_is_exact : FnScope ["low", "high"] ["low", "high"] (defScope s_is_exact) := ⟨rfl, rfl, rfl, by decide +kernel, rfl, by decide +kernel, by decide +kernel⟩
abbrev s_law_pool : Stmt := topS 15
theorem sc_law_pool : FnScope ["_law_script", "_law_k", "_law_cell", "_law_size", "_law_mixed"] ["_law_script", "_law_k"] (defScope s_law_pool) := ⟨rfl, rfl, rfl, by decide +kernel, rfl, by decide +kernel, by decide +kernel⟩
abbrev s_law_take : Stmt := topS 16
theorem sc_law_take : FnScope ["_law_pool_here", "_law_many", "_law_found"] ["_law_pool_here", "_law_many"] (defScope s_law_take) := ⟨rfl, rfl, rfl, by decide +kernel, rfl, by decide +kernel, by decide +kernel⟩
abbrev s_law_least : Stmt := topS 17
theorem sc_law_least : FnScope ["_law_low", "_law_high", "_law_step"] ["_law_low", "_law_high"] (defScope s_law_least) := ⟨rfl, rfl, rfl, by decide +kernel, rfl, by decide +kernel, by decide +kernel⟩
abbrev s_law_all_told : Stmt := topS 18
theorem sc_law_all_told : FnScope ["_law_most", "_law_found", "_law_step", "_law_first", "_law_count"] ["_law_most"] (defScope s_law_all_told) := ⟨rfl, rfl, rfl, by decide +kernel, rfl, by decide +kernel, by decide +kernel⟩
abbrev s_law_bits_so : Stmt := topS 19
theorem sc_law_bits_so : FnScope ["_law_low", "_law_high", "_law_some", "_law_step", "_law_first", "_law_count"] ["_law_low", "_law_high", "_law_some"] (defScope s_law_bits_so) := ⟨rfl, rfl, rfl, by decide +kernel, rfl, by decide +kernel, by decide +kernel⟩
abbrev s_law_small_so : Stmt := topS 20
theorem sc_law_small_so : FnScope ["_law_low", "_law_high", "_law_every", "_law_found", "_law_own_low", "_law_own_high"] ["_law_low", "_law_high", "_law_every"] (defScope s_law_small_so) := ⟨rfl, rfl, rfl, by decide +kernel, rfl, by decide +kernel, by decide +kernel⟩
abbrev s_law : Stmt := topS 21
theorem sc_law : FnScope ["_law_script", "_law_every", "_law_k", "_law_pool_here", "_law_low", "_law_high", "_law_turn", "_law_due"] ["_law_script"] (defScope s_law) := ⟨rfl, rfl, rfl, by decide +kernel, rfl, by decide +kernel, by decide +kernel⟩
def m_is_whole : RS := (sRet (rAnd (rUn (isiD "int") (rVar 0)) (rNot (rUn (isiD "bool") (rVar 0)))))
def g_is_whole : List D → Store → Res D := runDef 1 m_is_whole
def m_look_at_bounds : RS := (sIf (rOrT (rNotT (rTruth (rCall g_is_whole (rCons (rVar 0) rNil)))) (rOrT (rNotT (rTruth (rCall g_is_whole (rCons (rVar 1) rNil)))) (rNotT (rTest (rChain (rCon (.int 0)) (rLink leD (rVar 0) (rLink ltD (rVar 1) (rLast leD (rCon (.int 4096))))))))))
    (sRaise0 cl_NoBounds)
    sNil)
def g_look_at_bounds : List D → Store → Res D := runDef 2 m_look_at_bounds
def lb1_least_in_bits : RS := (sAug 2 (i2 (fun _ _ => true) fun i j => .int (i + j)) (rCon (.int 1)))
def m_least_in_bits : RS := (sSeq (sSet 2 (rCon (.int 0)))
    (sSeq (whileN (rTest (rBin gtD (rBin subD (rUn negD (rBin shrD (rUn negD (rVar 1)) (rVar 2))) (rBin shrD (rVar 0) (rVar 2))) (rCon (.int 16))))
    lb1_least_in_bits 20)
    (sSeq (sSet 3 (rBin shrD (rVar 0) (rVar 2)))
    (sRet (rTup (rCons (rVar 2) (rCons (rVar 3) (rCons (rBin subD (rUn negD (rBin shrD (rUn negD (rVar 1)) (rVar 2))) (rVar 3)) rNil))))))))
def g_least_in_bits : List D → Store → Res D := runDef 4 m_least_in_bits
def m_in_bits : RS := (sSeq (sExp (rCall g_look_at_bounds (rCons (rVar 0) (rCons (rVar 1) rNil))))
    (sRet (rCall g_least_in_bits (rCons (rVar 0) (rCons (rVar 1) rNil)))))
def g_in_bits : List D → Store → Res D := runDef 2 m_in_bits
def m_from_bits : RS := (sRet (rTup (rCons (rBin shlD (rVar 1) (rVar 0)) (rCons (rBin shlD (rBin addD (rVar 1) (rVar 2)) (rVar 0)) rNil))))
def g_from_bits : List D → Store → Res D := runDef 3 m_from_bits
def m_least_held : RS := (sSeq (sAsg (.tp [2, 3, 4]) (rCall g_least_in_bits (rCons (rVar 0) (rCons (rVar 1) rNil))))
    (sRet (rCall g_from_bits (rCons (rVar 2) (rCons (rVar 3) (rCons (rVar 4) rNil))))))
def g_least_held : List D → Store → Res D := runDef 5 m_least_held
def m_least_bounds : RS := (sSeq (sExp (rCall g_look_at_bounds (rCons (rVar 0) (rCons (rVar 1) rNil))))
    (sRet (rCall g_least_held (rCons (rVar 0) (rCons (rVar 1) rNil)))))
def g_least_bounds : List D → Store → Res D := runDef 2 m_least_bounds
def m_is_exact : RS := (sSeq (sExp (rCall g_look_at_bounds (rCons (rVar 0) (rCons (rVar 1) rNil))))
    (sRet (rBin eqD (rCall g_least_held (rCons (rVar 0) (rCons (rVar 1) rNil))) (rTup (rCons (rVar 0) (rCons (rVar 1) rNil))))))
def g_is_exact : List D → Store → Res D := runDef 2 m_is_exact
def m_law_pool : RS := (sSeq (sSet 2 (rBin addD (rBin mulD (rCon (.int 7)) (rCal sumD (rCons (rSl (rVar 0) rNoP (rPart (rCon (.int 63)))) rNil))) (rVar 1)))
    (sSeq (sIf (rTest (rBin ltD (rVar 1) (rCal lenD (rCons (rVar 0) rNil))))
    (sSet 2 (rBin ixD (rVar 0) (rVar 1)))
    sNil)
    (sSeq (sSet 3 (rCal absD (rCons (rVar 2) rNil)))
    (sSeq (sSet 4 (rBin modD (rBin mulD (rBin addD (rBin addD (rBin addD (rBin modD (rVar 3) (rCon (.int 2147483629))) (rBin mulD (rBin mulD (rCon (.int 7919)) (rVar 1)) (rVar 1))) (rBin mulD (rCon (.int 31)) (rVar 1))) (rCon (.int 17))) (rCon (.int 48271))) (rCon (.int 2147483647))))
    (sRet (rLstM (rCons (rBin mulD (rVar 3) (rCal intD (rCons (rBin geD (rVar 3) (rBin powD (rCon (.int 10)) (rCon (.int 18)))) rNil))) (rCons (rBin modD (rBin mulD (rVar 4) (rVar 4)) (rCon (.int 2147483629))) rNil))))))))
def g_law_pool : List D → Store → Res D := runDef 5 m_law_pool
def m_law_take : RS := (sSeq (sIf (rTest (rBin gtD (rBin ixD (rVar 0) (rCon (.int 0))) (rCon (.int 0))))
    (sSeq (sSet 2 (rBin modD (rBin ixD (rVar 0) (rCon (.int 0))) (rVar 1)))
    (sSeq (sPutIx (rBin divD (rBin ixD (rVar 0) (rCon (.int 0))) (rVar 1)) (rVar 0) (rCon (.int 0)))
    (sRet (rVar 2))))
    sNil)
    (sSeq (sPutIx (rBin modD (rBin addD (rBin mulD (rBin ixD (rVar 0) (rCon (.int 1))) (rCon (.int 48271))) (rCon (.int 11))) (rCon (.int 2147483647))) (rVar 0) (rCon (.int 1)))
    (sRet (rBin modD (rBin divD (rBin modD (rBin mulD (rBin ixD (rVar 0) (rCon (.int 1))) (rBin ixD (rVar 0) (rCon (.int 1)))) (rCon (.int 2147483629))) (rCon (.int 16))) (rVar 1)))))
def g_law_take : List D → Store → Res D := runDef 3 m_law_take
def lb1_law_least : RS := (sSet 2 (rBin addD (rVar 2) (rCon (.int 1))))
def m_law_least : RS := (sSeq (sSet 2 (rCon (.int 0)))
    (sSeq (whileN (rTest (rBin gtD (rBin subD (rBin shrD (rBin subD (rVar 1) (rCon (.int 1))) (rVar 2)) (rBin shrD (rVar 0) (rVar 2))) (rCon (.int 15))))
    lb1_law_least 20)
    (sRet (rTup (rCons (rBin shlD (rBin shrD (rVar 0) (rVar 2)) (rVar 2)) (rCons (rBin shlD (rBin addD (rBin shrD (rBin subD (rVar 1) (rCon (.int 1))) (rVar 2)) (rCon (.int 1))) (rVar 2)) (rCons (rVar 2) rNil)))))))
def g_law_least : List D → Store → Res D := runDef 3 m_law_least
def lb1_law_all_told : RS := (sIf (rTest (rBin leD (rBin shlD (rBin addD (rVar 3) (rVar 4)) (rVar 2)) (rVar 0)))
    (sPutT (rCon (.bl true)) (rVar 1) (rCons (rBin shlD (rVar 3) (rVar 2)) (rCons (rBin shlD (rBin addD (rVar 3) (rVar 4)) (rVar 2)) rNil)))
    sNil)
def lb2_law_all_told : RS := (sFor (rRan ran2 (rCons (rCon (.int 1)) (rCons (rCon (.int 17)) rNil))) (.nm 4)
    lb1_law_all_told)
def lb3_law_all_told : RS := (sFor (rRan ran1 (rCons (rBin addD (rBin shrD (rVar 0) (rVar 2)) (rCon (.int 1))) rNil)) (.nm 3)
    lb2_law_all_told)
def m_law_all_told : RS := (sSeq (sSet 1 rDctTM)
    (sSeq (sFor (rRan ran1 (rCons (rCon (.int 9)) rNil)) (.nm 2)
    lb3_law_all_told)
    (sRet (rVar 1))))
def g_law_all_told : List D → Store → Res D := runDef 5 m_law_all_told
def m_law_bits_so : RS := (sSeq (sAsg (.tp [3, 4, 5]) (rVar 2))
    (sSeq (sIf (rOrT (rNotT (rTest (rChain (rCon (.int 0)) (rLink leD (rVar 3) (rLast leD (rCon (.int 8))))))) (rOrT (rNotT (rTest (rChain (rCon (.int 1)) (rLink leD (rVar 5) (rLast leD (rCon (.int 16))))))) (rAndT (rTest (rBin gtD (rVar 3) (rCon (.int 0)))) (rTest (rBin ltD (rVar 5) (rCon (.int 9)))))))
    (sRet (rCon (.bl false)))
    sNil)
    (sRet (rBin eqD (rTup (rCons (rBin shlD (rVar 4) (rVar 3)) (rCons (rBin shlD (rBin addD (rVar 4) (rVar 5)) (rVar 3)) rNil))) (rTup (rCons (rVar 0) (rCons (rVar 1) rNil)))))))
def g_law_bits_so : List D → Store → Res D := runDef 6 m_law_bits_so
def lb1_law_small_so : RS := (sIf (rAndT (rTest (rBin leD (rVar 4) (rVar 0))) (rAndT (rTest (rBin leD (rVar 1) (rVar 5))) (rNotT (rAndT (rTest (rBin leD (rVar 4) (rBin ixD (rVar 3) (rCon (.int 0))))) (rTest (rBin leD (rBin ixD (rVar 3) (rCon (.int 1))) (rVar 5)))))))
    (sRet (rCon (.bl false)))
    sNil)
def m_law_small_so : RS := (sSeq (sSet 3 (rCall g_least_bounds (rCons (rVar 0) (rCons (rVar 1) rNil))))
    (sSeq (sIf (rOrT (rNotT (rTruth (rUn (isiD "tuple") (rVar 3)))) (rOrT (rTest (rBin dninT (rVar 3) (rVar 2))) (rNotT (rTest (rChain (rBin ixD (rVar 3) (rCon (.int 0))) (rLink leD (rVar 0) (rLink ltD (rVar 1) (rLast leD (rBin ixD (rVar 3) (rCon (.int 1)))))))))))
    (sRet (rCon (.bl false)))
    sNil)
    (sSeq (sFor (rKeysT (rVar 2)) (.tp [4, 5])
    lb1_law_small_so)
    (sSeq (sIf (rOrT (rAndT (rTest (rBin isNot (rCall g_is_exact (rCons (rVar 0) (rCons (rVar 1) rNil))) (rCon (.bl true)))) (rTest (rBin dinT (rTup (rCons (rVar 0) (rCons (rVar 1) rNil))) (rVar 2)))) (rAndT (rTruth (rCall g_is_exact (rCons (rVar 0) (rCons (rVar 1) rNil)))) (rTest (rBin dninT (rTup (rCons (rVar 0) (rCons (rVar 1) rNil))) (rVar 2)))))
    (sRet (rCon (.bl false)))
    sNil)
    (sRet (rCall g_law_bits_so (rCons (rBin ixD (rVar 3) (rCon (.int 0))) (rCons (rBin ixD (rVar 3) (rCon (.int 1))) (rCons (rCall g_in_bits (rCons (rVar 0) (rCons (rVar 1) rNil))) rNil)))))))))
def g_law_small_so : List D → Store → Res D := runDef 6 m_law_small_so
def lb1_law : RS := (sSeq (sSet 4 (rBin ixD (rLst (rCons (rCon (.int 0)) (rCons (rCall g_law_take (rCons (rVar 3) (rCons (rCon (.int 4096)) rNil))) (rCons (rCon (.int 4095)) (rCons (rCon (.int 1)) rNil))))) (rCall g_law_take (rCons (rVar 3) (rCons (rCon (.int 4)) rNil)))))
    (sSeq (sSet 5 (rBin addD (rBin addD (rVar 4) (rCon (.int 1))) (rBin ixD (rLst (rCons (rCon (.int 0)) (rCons (rCall g_law_take (rCons (rVar 3) (rCons (rBin subD (rCon (.int 4096)) (rVar 4)) rNil))) (rCons (rBin subD (rCon (.int 4095)) (rVar 4)) (rCons (rCal minD2 (rCons (rCon (.int 16)) (rCons (rBin subD (rCon (.int 4095)) (rVar 4)) rNil))) rNil))))) (rCall g_law_take (rCons (rVar 3) (rCons (rCon (.int 4)) rNil))))))
    (sSeq (sSet 7 (rCall g_law_least (rCons (rVar 4) (rCons (rVar 5) rNil))))
    (sSeq (sIf (rOrT (rTest (rBin neD (rCall g_least_bounds (rCons (rVar 4) (rCons (rVar 5) rNil))) (rSl (rVar 7) rNoP (rPart (rCon (.int 2)))))) (rTest (rBin neD (rCal reprD (rCons (rCall g_is_exact (rCons (rVar 4) (rCons (rVar 5) rNil))) rNil)) (rCal reprD (rCons (rBin eqD (rSl (rVar 7) rNoP (rPart (rCon (.int 2)))) (rTup (rCons (rVar 4) (rCons (rVar 5) rNil)))) rNil)))))
    (sRet (rCon (.bl false)))
    sNil)
    (sSeq (sIf (rTest (rBin neD (rCall g_in_bits (rCons (rVar 4) (rCons (rVar 5) rNil))) (rTup (rCons (rBin ixD (rVar 7) (rCon (.int 2))) (rCons (rBin shrD (rBin ixD (rVar 7) (rCon (.int 0))) (rBin ixD (rVar 7) (rCon (.int 2)))) (rCons (rBin shrD (rBin subD (rBin ixD (rVar 7) (rCon (.int 1))) (rBin ixD (rVar 7) (rCon (.int 0)))) (rBin ixD (rVar 7) (rCon (.int 2)))) rNil))))))
    (sRet (rCon (.bl false)))
    sNil)
    (sIf (rNotT (rTruth (rCall g_law_bits_so (rCons (rBin ixD (rVar 7) (rCon (.int 0))) (rCons (rBin ixD (rVar 7) (rCon (.int 1))) (rCons (rCall g_in_bits (rCons (rVar 4) (rCons (rVar 5) rNil))) rNil))))))
    (sRet (rCon (.bl false)))
    sNil))))))
def lb2_law : RS := (sSeq (sSet 3 (rCall g_law_pool (rCons (rVar 0) (rCons (rVar 2) rNil))))
    (sSeq (sSet 4 (rCall g_law_take (rCons (rVar 3) (rCons (rCon (.int 96)) rNil))))
    (sSeq (sSet 5 (rBin addD (rBin addD (rVar 4) (rCon (.int 1))) (rCall g_law_take (rCons (rVar 3) (rCons (rBin subD (rCon (.int 96)) (rVar 4)) rNil)))))
    (sSeq (sIf (rNotT (rTruth (rCall g_law_small_so (rCons (rVar 4) (rCons (rVar 5) (rCons (rVar 1) rNil))))))
    (sRet (rCon (.bl false)))
    sNil)
    (sFor (rRan ran1 (rCons (rCon (.int 8)) rNil)) (.nm 6)
    lb1_law)))))
def m_law : RS := (sSeq (sSet 1 (rFrzT (rCall g_law_all_told (rCons (rCon (.int 128)) rNil))))
    (sSeq (sFor (rRan ran1 (rCons (rCal maxD2 (rCons (rCon (.int 1)) (rCons (rCal minD2 (rCons (rCal lenD (rCons (rVar 0) rNil)) (rCons (rCon (.int 10)) rNil))) rNil))) rNil)) (.nm 2)
    lb2_law)
    (sRet (rCon (.bl true)))))
def g_law : List D → Store → Res D := runDef 8 m_law
structure Txt (w : World) (K : PySem.W.Frag) (mg : Str → Option Value) (C A : Nat → Addr) (fd : Nat → FuncData) : Prop where
  f_is_whole : Fun K "is_whole" "is_whole" s_is_whole (A 0) (fd 0)
  b_is_whole : Binds K (fd 0) ["thing"] []
  g_is_whole : mg "is_whole" = some (.ref (A 0))
  f_look_at_bounds : Fun K "look_at_bounds" "look_at_bounds" s_look_at_bounds (A 1) (fd 1)
  b_look_at_bounds : Binds K (fd 1) ["low", "high"] []
  g_look_at_bounds : mg "look_at_bounds" = some (.ref (A 1))
  f_least_in_bits : Fun K "least_in_bits" "least_in_bits" s_least_in_bits (A 2) (fd 2)
  b_least_in_bits : Binds K (fd 2) ["low", "high"] []
  g_least_in_bits : mg "least_in_bits" = some (.ref (A 2))
  f_in_bits : Fun K "in_bits" "in_bits" s_in_bits (A 3) (fd 3)
  b_in_bits : Binds K (fd 3) ["low", "high"] []
  g_in_bits : mg "in_bits" = some (.ref (A 3))
  f_from_bits : Fun K "from_bits" "from_bits" s_from_bits (A 4) (fd 4)
  b_from_bits : Binds K (fd 4) ["step", "first", "count"] []
  g_from_bits : mg "from_bits" = some (.ref (A 4))
  f_least_held : Fun K "least_held" "least_held" s_least_held (A 5) (fd 5)
  b_least_held : Binds K (fd 5) ["low", "high"] []
  g_least_held : mg "least_held" = some (.ref (A 5))
  f_least_bounds : Fun K "least_bounds" "least_bounds" s_least_bounds (A 6) (fd 6)
  b_least_bounds : Binds K (fd 6) ["low", "high"] []
  g_least_bounds : mg "least_bounds" = some (.ref (A 6))
  f_is_exact : Fun K "is_exact" "is_exact" s_is_exact (A 7) (fd 7)
  b_is_exact : Binds K (fd 7) ["low", "high"] []
  g_is_exact : mg "is_exact" = some (.ref (A 7))
  f_law_pool : Fun K "_law_pool" "_law_pool" s_law_pool (A 8) (fd 8)
  b_law_pool : Binds K (fd 8) ["_law_script", "_law_k"] []
  g_law_pool : mg "_law_pool" = some (.ref (A 8))
  f_law_take : Fun K "_law_take" "_law_take" s_law_take (A 9) (fd 9)
  b_law_take : Binds K (fd 9) ["_law_pool_here", "_law_many"] []
  g_law_take : mg "_law_take" = some (.ref (A 9))
  f_law_least : Fun K "_law_least" "_law_least" s_law_least (A 10) (fd 10)
  b_law_least : Binds K (fd 10) ["_law_low", "_law_high"] []
  g_law_least : mg "_law_least" = some (.ref (A 10))
  f_law_all_told : Fun K "_law_all_told" "_law_all_told" s_law_all_told (A 11) (fd 11)
  b_law_all_told : Binds K (fd 11) ["_law_most"] []
  g_law_all_told : mg "_law_all_told" = some (.ref (A 11))
  f_law_bits_so : Fun K "_law_bits_so" "_law_bits_so" s_law_bits_so (A 12) (fd 12)
  b_law_bits_so : Binds K (fd 12) ["_law_low", "_law_high", "_law_some"] []
  g_law_bits_so : mg "_law_bits_so" = some (.ref (A 12))
  f_law_small_so : Fun K "_law_small_so" "_law_small_so" s_law_small_so (A 13) (fd 13)
  b_law_small_so : Binds K (fd 13) ["_law_low", "_law_high", "_law_every"] []
  g_law_small_so : mg "_law_small_so" = some (.ref (A 13))
  f_law : Fun K "law" "law" s_law (A 14) (fd 14)
  b_law : Binds K (fd 14) ["_law_script"] []
  g_law : mg "law" = some (.ref (A 14))
  c_CELLS : ∃ t, mg "CELLS" = some (.int 4096 t)
  c_MOST_COUNT : ∃ t, mg "MOST_COUNT" = some (.int 16 t)
  z_abs : mg "abs" = none
  z_bool : mg "bool" = none
  z_int : mg "int" = none
  z_isinstance : mg "isinstance" = none
  z_len : mg "len" = none
  z_max : mg "max" = none
  z_min : mg "min" = none
  z_range : mg "range" = none
  z_repr : mg "repr" = none
  z_sum : mg "sum" = none
  z_tuple : mg "tuple" = none
  k_ReachError : mg "ReachError" = some (.ref (C 0))
  k_NoBounds : mg "NoBounds" = some (.ref (C 1))
  x_NoBounds : PySem.W.excIn K (C 1) [.type "ValueError", .type "Exception", .type "BaseException", .type "object"] "ValueError.__new__" = true
  p_NoBounds : PySem.W.keepIn K (.ref (C 1)) = true
  u_NoBounds : PySem.W.subIn K (.ref (C 1)) (.type "BaseException") = some true
  y_NoBounds : PySem.W.typeIn K (.ref (C 1)) = some (.type "type")
section
variable {P : Program} {w : World} {K : PySem.W.Frag} {mg : Str → Option Value} {base : Heap} {C A : Nat → Addr} {fd : Nat → FuncData}
theorem ok_is_whole (T : Txt w K mg C A fd) : FnOk P w K mg base (L2N.CX P w) 1 (A 0) (fd 0) ["thing"] (spOf K C 1 g_is_whole) :=
  fn_ev T.f_is_whole sc_is_whole fun cdv Ar outer s H E hr tk po =>
    (es_one (s_ret (ee_and (ee_isi (ee_var 0) rfl T.z_isinstance rfl T.z_int (by decide +kernel)) (ee_one (ee_not (ee_isi (ee_var 0) rfl T.z_isinstance rfl T.z_bool (by decide +kernel)))))))
theorem ok_look_at_bounds (T : Txt w K mg C A fd) : FnOk P w K mg base (L2N.CX P w) 2 (A 1) (fd 1) ["low", "high"] (spOf K C 2 g_look_at_bounds) :=
  fn_ev T.f_look_at_bounds sc_look_at_bounds fun cdv Ar outer s H E hr tk po =>
    (es_one (s_if (PW.pt (et_or (et_not (et_val (ee_callC (Cal.ok (ok_is_whole T) (hr.mono (by decide))) rfl T.g_is_whole T.f_is_whole.kp T.b_is_whole tk (ea_cons (ee_var 0) ea_nil) (al_cons al_nil)))) (et_or (et_not (et_val (ee_callC (Cal.ok (ok_is_whole T) (hr.mono (by decide))) rfl T.g_is_whole T.f_is_whole.kp T.b_is_whole tk (ea_cons (ee_var 1) ea_nil) (al_cons al_nil)))) (et_or1 (et_not (et_chain ee_int (ch_link leD_ok (ee_var 0) (ch_link ltD_ok (ee_var 1) (ch_last leD_ok (ee_gI T.c_CELLS))))))))))
    (es_one (s_raise0 cl_NoBounds rfl tk PySem.F.excBase_ValueError T.x_NoBounds T.k_NoBounds T.p_NoBounds (raises_own T.u_NoBounds T.y_NoBounds) rfl))
    es_nil))
theorem ok_least_in_bits (T : Txt w K mg C A fd) : FnOk P w K mg base (L2N.CX P w) 1 (A 2) (fd 2) ["low", "high"] (spOf K C 2 g_least_in_bits) :=
  fn_ev T.f_least_in_bits sc_least_in_bits fun cdv Ar outer s H E hr tk po =>
    (es_cons (s_set 2 sc_least_in_bits.nd ee_int)
    (es_cons (s_while 20 po (et_cmp gtD_ok (ee_op subD_ok (ee_un negD_ok (ee_op shrD_ok (ee_un negD_ok (ee_var 1)) (ee_var 2))) (ee_op shrD_ok (ee_var 0) (ee_var 2))) (ee_gI T.c_MOST_COUNT) (nomark _))
    (es_one (s_aug 2 sc_least_in_bits.nd iaddD_ok ee_int)))
    (es_cons (s_set 3 sc_least_in_bits.nd (ee_op shrD_ok (ee_var 0) (ee_var 2)))
    (es_one (s_ret (ee_tup (ea_cons (ee_var 2) (ea_cons (ee_var 3) (ea_cons (ee_op subD_ok (ee_un negD_ok (ee_op shrD_ok (ee_un negD_ok (ee_var 1)) (ee_var 2))) (ee_var 3)) ea_nil))) (al_cons (al_cons (al_cons al_nil)))))))))
theorem ok_in_bits (T : Txt w K mg C A fd) : FnOk P w K mg base (L2N.CX P w) 3 (A 3) (fd 3) ["low", "high"] (spOf K C 2 g_in_bits) :=
  fn_ev T.f_in_bits sc_in_bits fun cdv Ar outer s H E hr tk po =>
    (es_cons (s_exp (ee_callC (Cal.ok (ok_look_at_bounds T) (hr.mono (by decide))) rfl T.g_look_at_bounds T.f_look_at_bounds.kp T.b_look_at_bounds tk (ea_cons (ee_var 0) (ea_cons (ee_var 1) ea_nil)) (al_cons (al_cons al_nil))))
    (es_one (s_ret (ee_callC (Cal.ok (ok_least_in_bits T) (hr.mono (by decide))) rfl T.g_least_in_bits T.f_least_in_bits.kp T.b_least_in_bits tk (ea_cons (ee_var 0) (ea_cons (ee_var 1) ea_nil)) (al_cons (al_cons al_nil))))))
theorem ok_from_bits (T : Txt w K mg C A fd) : FnOk P w K mg base (L2N.CX P w) 1 (A 4) (fd 4) ["step", "first", "count"] (spOf K C 3 g_from_bits) :=
  fn_ev T.f_from_bits sc_from_bits fun cdv Ar outer s H E hr tk po =>
    (es_one (s_ret (ee_tup (ea_cons (ee_op shlD_ok (ee_var 1) (ee_var 0)) (ea_cons (ee_op shlD_ok (ee_op addD_ok (ee_var 1) (ee_var 2)) (ee_var 0)) ea_nil)) (al_cons (al_cons al_nil)))))
theorem ok_least_held (T : Txt w K mg C A fd) : FnOk P w K mg base (L2N.CX P w) 2 (A 5) (fd 5) ["low", "high"] (spOf K C 2 g_least_held) :=
  fn_ev T.f_least_held sc_least_held fun cdv Ar outer s H E hr tk po =>
    (es_cons (s_asg (ee_callC (Cal.ok (ok_least_in_bits T) (hr.mono (by decide))) rfl T.g_least_in_bits T.f_least_in_bits.kp T.b_least_in_bits tk (ea_cons (ee_var 0) (ea_cons (ee_var 1) ea_nil)) (al_cons (al_cons al_nil))) (g_tp rfl (gs_cons 2 sc_least_held.nd (gs_cons 3 sc_least_held.nd (gs_cons 4 sc_least_held.nd gs_nil)))))
    (es_one (s_ret (ee_callC (Cal.ok (ok_from_bits T) (hr.mono (by decide))) rfl T.g_from_bits T.f_from_bits.kp T.b_from_bits tk (ea_cons (ee_var 2) (ea_cons (ee_var 3) (ea_cons (ee_var 4) ea_nil))) (al_cons (al_cons (al_cons al_nil)))))))
theorem ok_least_bounds (T : Txt w K mg C A fd) : FnOk P w K mg base (L2N.CX P w) 3 (A 6) (fd 6) ["low", "high"] (spOf K C 2 g_least_bounds) :=
  fn_ev T.f_least_bounds sc_least_bounds fun cdv Ar outer s H E hr tk po =>
    (es_cons (s_exp (ee_callC (Cal.ok (ok_look_at_bounds T) (hr.mono (by decide))) rfl T.g_look_at_bounds T.f_look_at_bounds.kp T.b_look_at_bounds tk (ea_cons (ee_var 0) (ea_cons (ee_var 1) ea_nil)) (al_cons (al_cons al_nil))))
    (es_one (s_ret (ee_callC (Cal.ok (ok_least_held T) (hr.mono (by decide))) rfl T.g_least_held T.f_least_held.kp T.b_least_held tk (ea_cons (ee_var 0) (ea_cons (ee_var 1) ea_nil)) (al_cons (al_cons al_nil))))))
theorem ok_is_exact (T : Txt w K mg C A fd) : FnOk P w K mg base (L2N.CX P w) 3 (A 7) (fd 7) ["low", "high"] (spOf K C 2 g_is_exact) :=
  fn_ev T.f_is_exact sc_is_exact fun cdv Ar outer s H E hr tk po =>
    (es_cons (s_exp (ee_callC (Cal.ok (ok_look_at_bounds T) (hr.mono (by decide))) rfl T.g_look_at_bounds T.f_look_at_bounds.kp T.b_look_at_bounds tk (ea_cons (ee_var 0) (ea_cons (ee_var 1) ea_nil)) (al_cons (al_cons al_nil))))
    (es_one (s_ret (ee_cmp (eqD_ok hr.units) (ee_callC (Cal.ok (ok_least_held T) (hr.mono (by decide))) rfl T.g_least_held T.f_least_held.kp T.b_least_held tk (ea_cons (ee_var 0) (ea_cons (ee_var 1) ea_nil)) (al_cons (al_cons al_nil))) (ee_tup (ea_cons (ee_var 0) (ea_cons (ee_var 1) ea_nil)) (al_cons (al_cons al_nil))) (nomark _)))))
theorem ok_law_pool (T : Txt w K mg C A fd) : FnOk P w K mg base (L2N.CX P w) 1 (A 8) (fd 8) ["_law_script", "_law_k"] (spOf K C 2 g_law_pool) :=
  fn_ev T.f_law_pool sc_law_pool fun cdv Ar outer s H E hr tk po =>
    (es_cons (s_set 2 sc_law_pool.nd (ee_op addD_ok (ee_op mulD_ok ee_int (ee_callB (sumD_ok rfl) rfl T.z_sum (by decide +kernel) (ea_cons (ee_sl (ee_var 0) eo_none (eo_some ee_int)) ea_nil))) (ee_var 1)))
    (es_cons (s_if (et_cmp ltD_ok (ee_var 1) (ee_callB lenD_ok rfl T.z_len (by decide +kernel) (ea_cons (ee_var 0) ea_nil)) (nomark _))
    (es_one (s_set 2 sc_law_pool.nd (ee_ix (ee_var 0) (ee_var 1))))
    es_nil)
    (es_cons (s_set 3 sc_law_pool.nd (ee_callB absD_ok rfl T.z_abs (by decide +kernel) (ea_cons (ee_var 2) ea_nil)))
    (es_cons (s_set 4 sc_law_pool.nd (ee_op modD_ok (ee_op mulD_ok (ee_op addD_ok (ee_op addD_ok (ee_op addD_ok (ee_op modD_ok (ee_var 3) ee_int) (ee_op mulD_ok (ee_op mulD_ok ee_int (ee_var 1)) (ee_var 1))) (ee_op mulD_ok ee_int (ee_var 1))) ee_int) ee_int) ee_int))
    (es_one (s_ret (ee_lstM (ea_cons (ee_op mulD_ok (ee_var 3) (ee_callTy intD_ok rfl T.z_int (by decide +kernel) (ea_cons (ee_cmp geD_ok (ee_var 3) (ee_op powD_ok ee_int ee_int) (nomark _)) ea_nil))) (ea_cons (ee_op modD_ok (ee_op mulD_ok (ee_var 4) (ee_var 4)) ee_int) ea_nil)) (al_cons (al_cons al_nil)))))))))
theorem ok_law_take (T : Txt w K mg C A fd) : FnOk P w K mg base (L2N.CX P w) 1 (A 9) (fd 9) ["_law_pool_here", "_law_many"] (spOf K C 2 g_law_take) :=
  fn_ev T.f_law_take sc_law_take fun cdv Ar outer s H E hr tk po =>
    (es_cons (s_if (et_cmp gtD_ok (ee_ix (ee_var 0) ee_int) ee_int (nomark _))
    (es_cons (s_set 2 sc_law_take.nd (ee_op modD_ok (ee_ix (ee_var 0) ee_int) (ee_var 1)))
    (es_cons (s_putIx (ee_op divD_ok (ee_ix (ee_var 0) ee_int) (ee_var 1)) (ee_var 0) ee_int)
    (es_one (s_ret (ee_var 2)))))
    es_nil)
    (es_cons (s_putIx (ee_op modD_ok (ee_op addD_ok (ee_op mulD_ok (ee_ix (ee_var 0) ee_int) ee_int) ee_int) ee_int) (ee_var 0) ee_int)
    (es_one (s_ret (ee_op modD_ok (ee_op divD_ok (ee_op modD_ok (ee_op mulD_ok (ee_ix (ee_var 0) ee_int) (ee_ix (ee_var 0) ee_int)) ee_int) ee_int) (ee_var 1))))))
theorem ok_law_least (T : Txt w K mg C A fd) : FnOk P w K mg base (L2N.CX P w) 1 (A 10) (fd 10) ["_law_low", "_law_high"] (spOf K C 2 g_law_least) :=
  fn_ev T.f_law_least sc_law_least fun cdv Ar outer s H E hr tk po =>
    (es_cons (s_set 2 sc_law_least.nd ee_int)
    (es_cons (s_while 20 po (et_cmp gtD_ok (ee_op subD_ok (ee_op shrD_ok (ee_op subD_ok (ee_var 1) ee_int) (ee_var 2)) (ee_op shrD_ok (ee_var 0) (ee_var 2))) ee_int (nomark _))
    (es_one (s_set 2 sc_law_least.nd (ee_op addD_ok (ee_var 2) ee_int))))
    (es_one (s_ret (ee_tup (ea_cons (ee_op shlD_ok (ee_op shrD_ok (ee_var 0) (ee_var 2)) (ee_var 2)) (ea_cons (ee_op shlD_ok (ee_op addD_ok (ee_op shrD_ok (ee_op subD_ok (ee_var 1) ee_int) (ee_var 2)) ee_int) (ee_var 2)) (ea_cons (ee_var 2) ea_nil))) (al_cons (al_cons (al_cons al_nil))))))))
theorem ok_law_all_told (T : Txt w K mg C A fd) : FnOk P w K mg base (L2N.CX P w) 1 (A 11) (fd 11) ["_law_most"] (spOf K C 1 g_law_all_told) :=
  fn_ev T.f_law_all_told sc_law_all_told fun cdv Ar outer s H E hr tk po =>
    (es_cons (s_set 1 sc_law_all_told.nd ee_dctTM)
    (es_cons (s_for po rfl (ei_range1 rfl T.z_range (ea_cons ee_int ea_nil)) (g_nm 2 sc_law_all_told.nd)
    (es_one (s_for po rfl (ei_range1 rfl T.z_range (ea_cons (ee_op addD_ok (ee_op shrD_ok (ee_var 0) (ee_var 2)) ee_int) ea_nil)) (g_nm 3 sc_law_all_told.nd)
    (es_one (s_for po rfl (ei_range2 rfl T.z_range (ea_cons ee_int (ea_cons ee_int ea_nil))) (g_nm 4 sc_law_all_told.nd)
    (es_one (s_if (et_cmp leD_ok (ee_op shlD_ok (ee_op addD_ok (ee_var 3) (ee_var 4)) (ee_var 2)) (ee_var 0) (nomark _))
    (es_one (s_putT hr.units ee_bl (ee_var 1) (ea_cons (ee_op shlD_ok (ee_var 3) (ee_var 2)) (ea_cons (ee_op shlD_ok (ee_op addD_ok (ee_var 3) (ee_var 4)) (ee_var 2)) ea_nil)) (al_cons (al_cons al_nil))))
    es_nil)))))))
    (es_one (s_ret (ee_var 1)))))
theorem ok_law_bits_so (T : Txt w K mg C A fd) : FnOk P w K mg base (L2N.CX P w) 1 (A 12) (fd 12) ["_law_low", "_law_high", "_law_some"] (spOf K C 3 g_law_bits_so) :=
  fn_ev T.f_law_bits_so sc_law_bits_so fun cdv Ar outer s H E hr tk po =>
    (es_cons (s_asg (ee_var 2) (g_tp rfl (gs_cons 3 sc_law_bits_so.nd (gs_cons 4 sc_law_bits_so.nd (gs_cons 5 sc_law_bits_so.nd gs_nil)))))
    (es_cons (s_if (PW.pt (et_or (et_not (et_chain ee_int (ch_link leD_ok (ee_var 3) (ch_last leD_ok ee_int)))) (et_or (et_not (et_chain ee_int (ch_link leD_ok (ee_var 5) (ch_last leD_ok ee_int)))) (et_or1 (PW.pt (et_and (et_cmp gtD_ok (ee_var 3) ee_int (nomark _)) (et_and1 (et_cmp ltD_ok (ee_var 5) ee_int (nomark _)))))))))
    (es_one (s_ret ee_bl))
    es_nil)
    (es_one (s_ret (ee_cmp (eqD_ok hr.units) (ee_tup (ea_cons (ee_op shlD_ok (ee_var 4) (ee_var 3)) (ea_cons (ee_op shlD_ok (ee_op addD_ok (ee_var 4) (ee_var 5)) (ee_var 3)) ea_nil)) (al_cons (al_cons al_nil))) (ee_tup (ea_cons (ee_var 0) (ea_cons (ee_var 1) ea_nil)) (al_cons (al_cons al_nil))) (nomark _))))))
theorem ok_law_small_so (T : Txt w K mg C A fd) : FnOk P w K mg base (L2N.CX P w) 4 (A 13) (fd 13) ["_law_low", "_law_high", "_law_every"] (spOf K C 3 g_law_small_so) :=
  fn_ev T.f_law_small_so sc_law_small_so fun cdv Ar outer s H E hr tk po =>
    (es_cons (s_set 3 sc_law_small_so.nd (ee_callC (Cal.ok (ok_least_bounds T) (hr.mono (by decide))) rfl T.g_least_bounds T.f_least_bounds.kp T.b_least_bounds tk (ea_cons (ee_var 0) (ea_cons (ee_var 1) ea_nil)) (al_cons (al_cons al_nil))))
    (es_cons (s_if (PW.pt (et_or (et_not (et_val (ee_isi (ee_var 3) rfl T.z_isinstance rfl T.z_tuple (by decide +kernel)))) (et_or (et_cmp (dninT_ok hr.units) (ee_var 3) (ee_var 2) (by rfl)) (et_or1 (et_not (et_chain (ee_ix (ee_var 3) ee_int) (ch_link leD_ok (ee_var 0) (ch_link ltD_ok (ee_var 1) (ch_last leD_ok (ee_ix (ee_var 3) ee_int))))))))))
    (es_one (s_ret ee_bl))
    es_nil)
    (es_cons (s_for po rfl (ei_keysT (ee_var 2)) (g_tp rfl (gs_cons 4 sc_law_small_so.nd (gs_cons 5 sc_law_small_so.nd gs_nil)))
    (es_one (s_if (PW.pt (et_and (et_cmp leD_ok (ee_var 4) (ee_var 0) (nomark _)) (et_and (et_cmp leD_ok (ee_var 1) (ee_var 5) (nomark _)) (et_and1 (et_not (PW.pt (et_and (et_cmp leD_ok (ee_var 4) (ee_ix (ee_var 3) ee_int) (nomark _)) (et_and1 (et_cmp leD_ok (ee_ix (ee_var 3) ee_int) (ee_var 5) (nomark _))))))))))
    (es_one (s_ret ee_bl))
    es_nil)))
    (es_cons (s_if (PW.pt (et_or (PW.pt (et_and (et_cmp isNot_ok (ee_callC (Cal.ok (ok_is_exact T) (hr.mono (by decide))) rfl T.g_is_exact T.f_is_exact.kp T.b_is_exact tk (ea_cons (ee_var 0) (ea_cons (ee_var 1) ea_nil)) (al_cons (al_cons al_nil))) ee_bl (nomark _)) (et_and1 (et_cmp (dinT_ok hr.units) (ee_tup (ea_cons (ee_var 0) (ea_cons (ee_var 1) ea_nil)) (al_cons (al_cons al_nil))) (ee_var 2) (by rfl))))) (et_or1 (PW.pt (et_and (et_val (ee_callC (Cal.ok (ok_is_exact T) (hr.mono (by decide))) rfl T.g_is_exact T.f_is_exact.kp T.b_is_exact tk (ea_cons (ee_var 0) (ea_cons (ee_var 1) ea_nil)) (al_cons (al_cons al_nil)))) (et_and1 (et_cmp (dninT_ok hr.units) (ee_tup (ea_cons (ee_var 0) (ea_cons (ee_var 1) ea_nil)) (al_cons (al_cons al_nil))) (ee_var 2) (by rfl))))))))
    (es_one (s_ret ee_bl))
    es_nil)
    (es_one (s_ret (ee_callC (Cal.ok (ok_law_bits_so T) (hr.mono (by decide))) rfl T.g_law_bits_so T.f_law_bits_so.kp T.b_law_bits_so tk (ea_cons (ee_ix (ee_var 3) ee_int) (ea_cons (ee_ix (ee_var 3) ee_int) (ea_cons (ee_callC (Cal.ok (ok_in_bits T) (hr.mono (by decide))) rfl T.g_in_bits T.f_in_bits.kp T.b_in_bits tk (ea_cons (ee_var 0) (ea_cons (ee_var 1) ea_nil)) (al_cons (al_cons al_nil))) ea_nil))) (al_cons (al_cons (al_cons al_nil))))))))))
theorem ok_law (T : Txt w K mg C A fd) : FnG P w K mg base (L2N.CX P w) 5 (A 14) (fd 14) ["_law_script"] (spOf K C 1 g_law) :=
  fnG_ev T.f_law sc_law fun cdv Ar outer s H E hr tk po =>
    (es_cons (s_set 1 sc_law.nd (ee_frzT (ee_callC (Cal.ok (ok_law_all_told T) (hr.room.mono (by decide))) rfl T.g_law_all_told T.f_law_all_told.kp T.b_law_all_told tk (ea_cons ee_int ea_nil) (al_cons al_nil))))
    (es_cons (s_for po rfl (ei_range1 rfl T.z_range (ea_cons (ee_callB (maxD2_ok rfl) rfl T.z_max (by decide +kernel) (ea_cons ee_int (ea_cons (ee_callB (minD2_ok rfl) rfl T.z_min (by decide +kernel) (ea_cons (ee_callB lenD_ok rfl T.z_len (by decide +kernel) (ea_cons (ee_var 0) ea_nil)) (ea_cons ee_int ea_nil))) ea_nil))) ea_nil)) (g_nm 2 sc_law.nd)
    (es_cons (s_set 3 sc_law.nd (ee_callC (Cal.ok (ok_law_pool T) (hr.room.mono (by decide))) rfl T.g_law_pool T.f_law_pool.kp T.b_law_pool tk (ea_cons (ee_var 0) (ea_cons (ee_var 2) ea_nil)) (al_cons (al_cons al_nil))))
    (es_cons (s_set 4 sc_law.nd (ee_callC (Cal.ok (ok_law_take T) (hr.room.mono (by decide))) rfl T.g_law_take T.f_law_take.kp T.b_law_take tk (ea_cons (ee_var 3) (ea_cons ee_int ea_nil)) (al_cons (al_cons al_nil))))
    (es_cons (s_set 5 sc_law.nd (ee_op addD_ok (ee_op addD_ok (ee_var 4) ee_int) (ee_callC (Cal.ok (ok_law_take T) (hr.room.mono (by decide))) rfl T.g_law_take T.f_law_take.kp T.b_law_take tk (ea_cons (ee_var 3) (ea_cons (ee_op subD_ok ee_int (ee_var 4)) ea_nil)) (al_cons (al_cons al_nil)))))
    (es_cons (s_if (et_not (et_val (ee_callC (Cal.ok (ok_law_small_so T) (hr.room.mono (by decide))) rfl T.g_law_small_so T.f_law_small_so.kp T.b_law_small_so tk (ea_cons (ee_var 4) (ea_cons (ee_var 5) (ea_cons (ee_var 1) ea_nil))) (al_cons (al_cons (al_cons al_nil))))))
    (es_one (s_ret ee_bl))
    es_nil)
    (es_one (s_for po rfl (ei_range1 rfl T.z_range (ea_cons ee_int ea_nil)) (g_nm 6 sc_law.nd)
    (es_cons (s_set 4 sc_law.nd (ee_ix (ee_lst (ea_cons ee_int (ea_cons (ee_callC (Cal.ok (ok_law_take T) (hr.room.mono (by decide))) rfl T.g_law_take T.f_law_take.kp T.b_law_take tk (ea_cons (ee_var 3) (ea_cons ee_int ea_nil)) (al_cons (al_cons al_nil))) (ea_cons ee_int (ea_cons ee_int ea_nil)))) (al_cons (al_cons (al_cons (al_cons al_nil))))) (ee_callC (Cal.ok (ok_law_take T) (hr.room.mono (by decide))) rfl T.g_law_take T.f_law_take.kp T.b_law_take tk (ea_cons (ee_var 3) (ea_cons ee_int ea_nil)) (al_cons (al_cons al_nil)))))
    (es_cons (s_set 5 sc_law.nd (ee_op addD_ok (ee_op addD_ok (ee_var 4) ee_int) (ee_ix (ee_lst (ea_cons ee_int (ea_cons (ee_callC (Cal.ok (ok_law_take T) (hr.room.mono (by decide))) rfl T.g_law_take T.f_law_take.kp T.b_law_take tk (ea_cons (ee_var 3) (ea_cons (ee_op subD_ok ee_int (ee_var 4)) ea_nil)) (al_cons (al_cons al_nil))) (ea_cons (ee_op subD_ok ee_int (ee_var 4)) (ea_cons (ee_callB (minD2_ok rfl) rfl T.z_min (by decide +kernel) (ea_cons ee_int (ea_cons (ee_op subD_ok ee_int (ee_var 4)) ea_nil))) ea_nil)))) (al_cons (al_cons (al_cons (al_cons al_nil))))) (ee_callC (Cal.ok (ok_law_take T) (hr.room.mono (by decide))) rfl T.g_law_take T.f_law_take.kp T.b_law_take tk (ea_cons (ee_var 3) (ea_cons ee_int ea_nil)) (al_cons (al_cons al_nil))))))
    (es_cons (s_set 7 sc_law.nd (ee_callC (Cal.ok (ok_law_least T) (hr.room.mono (by decide))) rfl T.g_law_least T.f_law_least.kp T.b_law_least tk (ea_cons (ee_var 4) (ea_cons (ee_var 5) ea_nil)) (al_cons (al_cons al_nil))))
    (es_cons (s_if (PW.pt (et_or (et_cmp (neD_ok hr.room.units) (ee_callC (Cal.ok (ok_least_bounds T) (hr.room.mono (by decide))) rfl T.g_least_bounds T.f_least_bounds.kp T.b_least_bounds tk (ea_cons (ee_var 4) (ea_cons (ee_var 5) ea_nil)) (al_cons (al_cons al_nil))) (ee_sl (ee_var 7) eo_none (eo_some ee_int)) (nomark _)) (et_or1 (et_cmp (neD_ok hr.room.units) (ee_callB (reprD_ok hr.room.units hr.gd) rfl T.z_repr (by decide +kernel) (ea_cons (ee_callC (Cal.ok (ok_is_exact T) (hr.room.mono (by decide))) rfl T.g_is_exact T.f_is_exact.kp T.b_is_exact tk (ea_cons (ee_var 4) (ea_cons (ee_var 5) ea_nil)) (al_cons (al_cons al_nil))) ea_nil)) (ee_callB (reprD_ok hr.room.units hr.gd) rfl T.z_repr (by decide +kernel) (ea_cons (ee_cmp (eqD_ok hr.room.units) (ee_sl (ee_var 7) eo_none (eo_some ee_int)) (ee_tup (ea_cons (ee_var 4) (ea_cons (ee_var 5) ea_nil)) (al_cons (al_cons al_nil))) (nomark _)) ea_nil)) (nomark _)))))
    (es_one (s_ret ee_bl))
    es_nil)
    (es_cons (s_if (et_cmp (neD_ok hr.room.units) (ee_callC (Cal.ok (ok_in_bits T) (hr.room.mono (by decide))) rfl T.g_in_bits T.f_in_bits.kp T.b_in_bits tk (ea_cons (ee_var 4) (ea_cons (ee_var 5) ea_nil)) (al_cons (al_cons al_nil))) (ee_tup (ea_cons (ee_ix (ee_var 7) ee_int) (ea_cons (ee_op shrD_ok (ee_ix (ee_var 7) ee_int) (ee_ix (ee_var 7) ee_int)) (ea_cons (ee_op shrD_ok (ee_op subD_ok (ee_ix (ee_var 7) ee_int) (ee_ix (ee_var 7) ee_int)) (ee_ix (ee_var 7) ee_int)) ea_nil))) (al_cons (al_cons (al_cons al_nil)))) (nomark _))
    (es_one (s_ret ee_bl))
    es_nil)
    (es_one (s_if (et_not (et_val (ee_callC (Cal.ok (ok_law_bits_so T) (hr.room.mono (by decide))) rfl T.g_law_bits_so T.f_law_bits_so.kp T.b_law_bits_so tk (ea_cons (ee_ix (ee_var 7) ee_int) (ea_cons (ee_ix (ee_var 7) ee_int) (ea_cons (ee_callC (Cal.ok (ok_in_bits T) (hr.room.mono (by decide))) rfl T.g_in_bits T.f_in_bits.kp T.b_in_bits tk (ea_cons (ee_var 4) (ea_cons (ee_var 5) ea_nil)) (al_cons (al_cons al_nil))) ea_nil))) (al_cons (al_cons (al_cons al_nil))))))
    (es_one (s_ret ee_bl))
    es_nil))))))))))))))
    (es_one (s_ret ee_bl))))
end
theorem all_mk {l : PySem.W.OpenLaw} {w : World} {K : PySem.W.Frag} {h : Heap} {mg : Str → Option Value} {fa f0 f1 f2 f3 f4 f5 f6 f7 f8 f9 f10 f11 f12 f13 f14 c0 c1 : Addr} (X : K.In h) (G : h.Ns mainGlobals mg) (hfa : mg "law" = some (.ref fa))
    {od0 an0 : Option Addr} {sl0 : Array (Option Value)} {oc0 kV0 dc0 pm0 cd0 ct0 : Value}
    {od1 an1 : Option Addr} {sl1 : Array (Option Value)} {oc1 kV1 dc1 pm1 cd1 ct1 : Value}
    {od2 an2 : Option Addr} {sl2 : Array (Option Value)} {oc2 kV2 dc2 pm2 cd2 ct2 : Value}
    {od3 an3 : Option Addr} {sl3 : Array (Option Value)} {oc3 kV3 dc3 pm3 cd3 ct3 : Value}
    {od4 an4 : Option Addr} {sl4 : Array (Option Value)} {oc4 kV4 dc4 pm4 cd4 ct4 : Value}
    {od5 an5 : Option Addr} {sl5 : Array (Option Value)} {oc5 kV5 dc5 pm5 cd5 ct5 : Value}
    {od6 an6 : Option Addr} {sl6 : Array (Option Value)} {oc6 kV6 dc6 pm6 cd6 ct6 : Value}
    {od7 an7 : Option Addr} {sl7 : Array (Option Value)} {oc7 kV7 dc7 pm7 cd7 ct7 : Value}
    {od8 an8 : Option Addr} {sl8 : Array (Option Value)} {oc8 kV8 dc8 pm8 cd8 ct8 : Value}
    {od9 an9 : Option Addr} {sl9 : Array (Option Value)} {oc9 kV9 dc9 pm9 cd9 ct9 : Value}
    {od10 an10 : Option Addr} {sl10 : Array (Option Value)} {oc10 kV10 dc10 pm10 cd10 ct10 : Value}
    {od11 an11 : Option Addr} {sl11 : Array (Option Value)} {oc11 kV11 dc11 pm11 cd11 ct11 : Value}
    {od12 an12 : Option Addr} {sl12 : Array (Option Value)} {oc12 kV12 dc12 pm12 cd12 ct12 : Value}
    {od13 an13 : Option Addr} {sl13 : Array (Option Value)} {oc13 kV13 dc13 pm13 cd13 ct13 : Value}
    {od14 an14 : Option Addr} {sl14 : Array (Option Value)} {oc14 kV14 dc14 pm14 cd14 ct14 : Value}
    {t_CELLS : Tok}
    {t_MOST_COUNT : Tok}
    (a0 : PySem.W.nsIn K mainGlobals "is_whole" = some (some (.ref f0)))
    (l0 : K.lookup f0 = some ⟨oc0, od0, .func (PySem.W.fnOf "is_whole" "is_whole" (defArgs s_is_whole) (defBody s_is_whole) (defScope s_is_whole) .none kV0 dc0 pm0 an0 cd0 ct0), sl0⟩)
    (o0 : PySem.W.codeIn K cd0 "is_whole" = true)
    (p0 : PySem.W.keepIn K (.ref f0) = true)
    (a1 : PySem.W.nsIn K mainGlobals "look_at_bounds" = some (some (.ref f1)))
    (l1 : K.lookup f1 = some ⟨oc1, od1, .func (PySem.W.fnOf "look_at_bounds" "look_at_bounds" (defArgs s_look_at_bounds) (defBody s_look_at_bounds) (defScope s_look_at_bounds) .none kV1 dc1 pm1 an1 cd1 ct1), sl1⟩)
    (o1 : PySem.W.codeIn K cd1 "look_at_bounds" = true)
    (p1 : PySem.W.keepIn K (.ref f1) = true)
    (a2 : PySem.W.nsIn K mainGlobals "least_in_bits" = some (some (.ref f2)))
    (l2 : K.lookup f2 = some ⟨oc2, od2, .func (PySem.W.fnOf "least_in_bits" "least_in_bits" (defArgs s_least_in_bits) (defBody s_least_in_bits) (defScope s_least_in_bits) .none kV2 dc2 pm2 an2 cd2 ct2), sl2⟩)
    (o2 : PySem.W.codeIn K cd2 "least_in_bits" = true)
    (p2 : PySem.W.keepIn K (.ref f2) = true)
    (a3 : PySem.W.nsIn K mainGlobals "in_bits" = some (some (.ref f3)))
    (l3 : K.lookup f3 = some ⟨oc3, od3, .func (PySem.W.fnOf "in_bits" "in_bits" (defArgs s_in_bits) (defBody s_in_bits) (defScope s_in_bits) .none kV3 dc3 pm3 an3 cd3 ct3), sl3⟩)
    (o3 : PySem.W.codeIn K cd3 "in_bits" = true)
    (p3 : PySem.W.keepIn K (.ref f3) = true)
    (a4 : PySem.W.nsIn K mainGlobals "from_bits" = some (some (.ref f4)))
    (l4 : K.lookup f4 = some ⟨oc4, od4, .func (PySem.W.fnOf "from_bits" "from_bits" (defArgs s_from_bits) (defBody s_from_bits) (defScope s_from_bits) .none kV4 dc4 pm4 an4 cd4 ct4), sl4⟩)
    (o4 : PySem.W.codeIn K cd4 "from_bits" = true)
    (p4 : PySem.W.keepIn K (.ref f4) = true)
    (a5 : PySem.W.nsIn K mainGlobals "least_held" = some (some (.ref f5)))
    (l5 : K.lookup f5 = some ⟨oc5, od5, .func (PySem.W.fnOf "least_held" "least_held" (defArgs s_least_held) (defBody s_least_held) (defScope s_least_held) .none kV5 dc5 pm5 an5 cd5 ct5), sl5⟩)
    (o5 : PySem.W.codeIn K cd5 "least_held" = true)
    (p5 : PySem.W.keepIn K (.ref f5) = true)
    (a6 : PySem.W.nsIn K mainGlobals "least_bounds" = some (some (.ref f6)))
    (l6 : K.lookup f6 = some ⟨oc6, od6, .func (PySem.W.fnOf "least_bounds" "least_bounds" (defArgs s_least_bounds) (defBody s_least_bounds) (defScope s_least_bounds) .none kV6 dc6 pm6 an6 cd6 ct6), sl6⟩)
    (o6 : PySem.W.codeIn K cd6 "least_bounds" = true)
    (p6 : PySem.W.keepIn K (.ref f6) = true)
    (a7 : PySem.W.nsIn K mainGlobals "is_exact" = some (some (.ref f7)))
    (l7 : K.lookup f7 = some ⟨oc7, od7, .func (PySem.W.fnOf "is_exact" "is_exact" (defArgs s_is_exact) (defBody s_is_exact) (defScope s_is_exact) .none kV7 dc7 pm7 an7 cd7 ct7), sl7⟩)
    (o7 : PySem.W.codeIn K cd7 "is_exact" = true)
    (p7 : PySem.W.keepIn K (.ref f7) = true)
    (a8 : PySem.W.nsIn K mainGlobals "_law_pool" = some (some (.ref f8)))
    (l8 : K.lookup f8 = some ⟨oc8, od8, .func (PySem.W.fnOf "_law_pool" "_law_pool" (defArgs s_law_pool) (defBody s_law_pool) (defScope s_law_pool) .none kV8 dc8 pm8 an8 cd8 ct8), sl8⟩)
    (o8 : PySem.W.codeIn K cd8 "_law_pool" = true)
    (p8 : PySem.W.keepIn K (.ref f8) = true)
    (a9 : PySem.W.nsIn K mainGlobals "_law_take" = some (some (.ref f9)))
    (l9 : K.lookup f9 = some ⟨oc9, od9, .func (PySem.W.fnOf "_law_take" "_law_take" (defArgs s_law_take) (defBody s_law_take) (defScope s_law_take) .none kV9 dc9 pm9 an9 cd9 ct9), sl9⟩)
    (o9 : PySem.W.codeIn K cd9 "_law_take" = true)
    (p9 : PySem.W.keepIn K (.ref f9) = true)
    (a10 : PySem.W.nsIn K mainGlobals "_law_least" = some (some (.ref f10)))
    (l10 : K.lookup f10 = some ⟨oc10, od10, .func (PySem.W.fnOf "_law_least" "_law_least" (defArgs s_law_least) (defBody s_law_least) (defScope s_law_least) .none kV10 dc10 pm10 an10 cd10 ct10), sl10⟩)
    (o10 : PySem.W.codeIn K cd10 "_law_least" = true)
    (p10 : PySem.W.keepIn K (.ref f10) = true)
    (a11 : PySem.W.nsIn K mainGlobals "_law_all_told" = some (some (.ref f11)))
    (l11 : K.lookup f11 = some ⟨oc11, od11, .func (PySem.W.fnOf "_law_all_told" "_law_all_told" (defArgs s_law_all_told) (defBody s_law_all_told) (defScope s_law_all_told) .none kV11 dc11 pm11 an11 cd11 ct11), sl11⟩)
    (o11 : PySem.W.codeIn K cd11 "_law_all_told" = true)
    (p11 : PySem.W.keepIn K (.ref f11) = true)
    (a12 : PySem.W.nsIn K mainGlobals "_law_bits_so" = some (some (.ref f12)))
    (l12 : K.lookup f12 = some ⟨oc12, od12, .func (PySem.W.fnOf "_law_bits_so" "_law_bits_so" (defArgs s_law_bits_so) (defBody s_law_bits_so) (defScope s_law_bits_so) .none kV12 dc12 pm12 an12 cd12 ct12), sl12⟩)
    (o12 : PySem.W.codeIn K cd12 "_law_bits_so" = true)
    (p12 : PySem.W.keepIn K (.ref f12) = true)
    (a13 : PySem.W.nsIn K mainGlobals "_law_small_so" = some (some (.ref f13)))
    (l13 : K.lookup f13 = some ⟨oc13, od13, .func (PySem.W.fnOf "_law_small_so" "_law_small_so" (defArgs s_law_small_so) (defBody s_law_small_so) (defScope s_law_small_so) .none kV13 dc13 pm13 an13 cd13 ct13), sl13⟩)
    (o13 : PySem.W.codeIn K cd13 "_law_small_so" = true)
    (p13 : PySem.W.keepIn K (.ref f13) = true)
    (a14 : PySem.W.nsIn K mainGlobals "law" = some (some (.ref f14)))
    (l14 : K.lookup f14 = some ⟨oc14, od14, .func (PySem.W.fnOf "law" "law" (defArgs s_law) (defBody s_law) (defScope s_law) .none kV14 dc14 pm14 an14 cd14 ct14), sl14⟩)
    (o14 : PySem.W.codeIn K cd14 "law" = true)
    (p14 : PySem.W.keepIn K (.ref f14) = true)
    (k_CELLS : PySem.W.nsIn K mainGlobals "CELLS" = some (some (.int 4096 t_CELLS)))
    (k_MOST_COUNT : PySem.W.nsIn K mainGlobals "MOST_COUNT" = some (some (.int 16 t_MOST_COUNT)))
    (z_abs : PySem.W.nsIn K mainGlobals "abs" = some none)
    (z_bool : PySem.W.nsIn K mainGlobals "bool" = some none)
    (z_int : PySem.W.nsIn K mainGlobals "int" = some none)
    (z_isinstance : PySem.W.nsIn K mainGlobals "isinstance" = some none)
    (z_len : PySem.W.nsIn K mainGlobals "len" = some none)
    (z_max : PySem.W.nsIn K mainGlobals "max" = some none)
    (z_min : PySem.W.nsIn K mainGlobals "min" = some none)
    (z_range : PySem.W.nsIn K mainGlobals "range" = some none)
    (z_repr : PySem.W.nsIn K mainGlobals "repr" = some none)
    (z_sum : PySem.W.nsIn K mainGlobals "sum" = some none)
    (z_tuple : PySem.W.nsIn K mainGlobals "tuple" = some none)
    (g_ReachError : PySem.W.nsIn K mainGlobals "ReachError" = some (some (.ref c0)))
    (g_NoBounds : PySem.W.nsIn K mainGlobals "NoBounds" = some (some (.ref c1)))
    (x_NoBounds : PySem.W.excIn K c1 [.type "ValueError", .type "Exception", .type "BaseException", .type "object"] "ValueError.__new__" = true)
    (p_NoBounds : PySem.W.keepIn K (.ref c1) = true)
    (u_NoBounds : PySem.W.subIn K (.ref c1) (.type "BaseException") = some true)
    (y_NoBounds : PySem.W.typeIn K (.ref c1) = some (.type "type"))
    : ∃ (fd : FuncData) (C : Nat → Addr), (∀ (s : Shared) (v : Value), BindsTo s fd ⟨[v], []⟩ [("_law_script", v)]) ∧ ∀ base : Heap, K.In base → base.Ns mainGlobals mg → FnG l.prog w K mg base (L2N.CX l.prog w) 5 fa fd ["_law_script"] (spOf K C 1 g_law) := by
  have e := hfa.symm.trans (PySem.W.mg_of X G a14)
  cases e
  have F0 := fun_mk (st := s_is_whole) l0 o0 p0
  have F1 := fun_mk (st := s_look_at_bounds) l1 o1 p1
  have F2 := fun_mk (st := s_least_in_bits) l2 o2 p2
  have F3 := fun_mk (st := s_in_bits) l3 o3 p3
  have F4 := fun_mk (st := s_from_bits) l4 o4 p4
  have F5 := fun_mk (st := s_least_held) l5 o5 p5
  have F6 := fun_mk (st := s_least_bounds) l6 o6 p6
  have F7 := fun_mk (st := s_is_exact) l7 o7 p7
  have F8 := fun_mk (st := s_law_pool) l8 o8 p8
  have F9 := fun_mk (st := s_law_take) l9 o9 p9
  have F10 := fun_mk (st := s_law_least) l10 o10 p10
  have F11 := fun_mk (st := s_law_all_told) l11 o11 p11
  have F12 := fun_mk (st := s_law_bits_so) l12 o12 p12
  have F13 := fun_mk (st := s_law_small_so) l13 o13 p13
  have F14 := fun_mk (st := s_law) l14 o14 p14
  let A : Nat → Addr := fun n => match n with | 0 => f0 | 1 => f1 | 2 => f2 | 3 => f3 | 4 => f4 | 5 => f5 | 6 => f6 | 7 => f7 | 8 => f8 | 9 => f9 | 10 => f10 | 11 => f11 | 12 => f12 | 13 => f13 | 14 => fa | _ => 0
  let C : Nat → Addr := fun n => match n with | 0 => c0 | 1 => c1 | _ => 0
  let fd : Nat → FuncData := fun n => match n with | 0 => PySem.W.fnOf "is_whole" "is_whole" (defArgs s_is_whole) (defBody s_is_whole) (defScope s_is_whole) .none kV0 dc0 pm0 an0 cd0 ct0 | 1 => PySem.W.fnOf "look_at_bounds" "look_at_bounds" (defArgs s_look_at_bounds) (defBody s_look_at_bounds) (defScope s_look_at_bounds) .none kV1 dc1 pm1 an1 cd1 ct1 | 2 => PySem.W.fnOf "least_in_bits" "least_in_bits" (defArgs s_least_in_bits) (defBody s_least_in_bits) (defScope s_least_in_bits) .none kV2 dc2 pm2 an2 cd2 ct2 | 3 => PySem.W.fnOf "in_bits" "in_bits" (defArgs s_in_bits) (defBody s_in_bits) (defScope s_in_bits) .none kV3 dc3 pm3 an3 cd3 ct3 | 4 => PySem.W.fnOf "from_bits" "from_bits" (defArgs s_from_bits) (defBody s_from_bits) (defScope s_from_bits) .none kV4 dc4 pm4 an4 cd4 ct4 | 5 => PySem.W.fnOf "least_held" "least_held" (defArgs s_least_held) (defBody s_least_held) (defScope s_least_held) .none kV5 dc5 pm5 an5 cd5 ct5 | 6 => PySem.W.fnOf "least_bounds" "least_bounds" (defArgs s_least_bounds) (defBody s_least_bounds) (defScope s_least_bounds) .none kV6 dc6 pm6 an6 cd6 ct6 | 7 => PySem.W.fnOf "is_exact" "is_exact" (defArgs s_is_exact) (defBody s_is_exact) (defScope s_is_exact) .none kV7 dc7 pm7 an7 cd7 ct7 | 8 => PySem.W.fnOf "_law_pool" "_law_pool" (defArgs s_law_pool) (defBody s_law_pool) (defScope s_law_pool) .none kV8 dc8 pm8 an8 cd8 ct8 | 9 => PySem.W.fnOf "_law_take" "_law_take" (defArgs s_law_take) (defBody s_law_take) (defScope s_law_take) .none kV9 dc9 pm9 an9 cd9 ct9 | 10 => PySem.W.fnOf "_law_least" "_law_least" (defArgs s_law_least) (defBody s_law_least) (defScope s_law_least) .none kV10 dc10 pm10 an10 cd10 ct10 | 11 => PySem.W.fnOf "_law_all_told" "_law_all_told" (defArgs s_law_all_told) (defBody s_law_all_told) (defScope s_law_all_told) .none kV11 dc11 pm11 an11 cd11 ct11 | 12 => PySem.W.fnOf "_law_bits_so" "_law_bits_so" (defArgs s_law_bits_so) (defBody s_law_bits_so) (defScope s_law_bits_so) .none kV12 dc12 pm12 an12 cd12 ct12 | 13 => PySem.W.fnOf "_law_small_so" "_law_small_so" (defArgs s_law_small_so) (defBody s_law_small_so) (defScope s_law_small_so) .none kV13 dc13 pm13 an13 cd13 ct13 | 14 => PySem.W.fnOf "law" "law" (defArgs s_law) (defBody s_law) (defScope s_law) .none kV14 dc14 pm14 an14 cd14 ct14 | _ => PySem.W.fnOf "law" "law" (defArgs s_law) (defBody s_law) (defScope s_law) .none kV14 dc14 pm14 an14 cd14 ct14
  have T : Txt w K mg C A fd := {
    f_is_whole := F0,
    b_is_whole := F0.binds (ps := ["thing"]) fun _ _ _ _ _ _ us hl => match us, hl with | [_], _ => rfl,
    g_is_whole := PySem.W.mg_of X G a0,
    f_look_at_bounds := F1,
    b_look_at_bounds := F1.binds (ps := ["low", "high"]) fun _ _ _ _ _ _ us hl => match us, hl with | [_, _], _ => rfl,
    g_look_at_bounds := PySem.W.mg_of X G a1,
    f_least_in_bits := F2,
    b_least_in_bits := F2.binds (ps := ["low", "high"]) fun _ _ _ _ _ _ us hl => match us, hl with | [_, _], _ => rfl,
    g_least_in_bits := PySem.W.mg_of X G a2,
    f_in_bits := F3,
    b_in_bits := F3.binds (ps := ["low", "high"]) fun _ _ _ _ _ _ us hl => match us, hl with | [_, _], _ => rfl,
    g_in_bits := PySem.W.mg_of X G a3,
    f_from_bits := F4,
    b_from_bits := F4.binds (ps := ["step", "first", "count"]) fun _ _ _ _ _ _ us hl => match us, hl with | [_, _, _], _ => rfl,
    g_from_bits := PySem.W.mg_of X G a4,
    f_least_held := F5,
    b_least_held := F5.binds (ps := ["low", "high"]) fun _ _ _ _ _ _ us hl => match us, hl with | [_, _], _ => rfl,
    g_least_held := PySem.W.mg_of X G a5,
    f_least_bounds := F6,
    b_least_bounds := F6.binds (ps := ["low", "high"]) fun _ _ _ _ _ _ us hl => match us, hl with | [_, _], _ => rfl,
    g_least_bounds := PySem.W.mg_of X G a6,
    f_is_exact := F7,
    b_is_exact := F7.binds (ps := ["low", "high"]) fun _ _ _ _ _ _ us hl => match us, hl with | [_, _], _ => rfl,
    g_is_exact := PySem.W.mg_of X G a7,
    f_law_pool := F8,
    b_law_pool := F8.binds (ps := ["_law_script", "_law_k"]) fun _ _ _ _ _ _ us hl => match us, hl with | [_, _], _ => rfl,
    g_law_pool := PySem.W.mg_of X G a8,
    f_law_take := F9,
    b_law_take := F9.binds (ps := ["_law_pool_here", "_law_many"]) fun _ _ _ _ _ _ us hl => match us, hl with | [_, _], _ => rfl,
    g_law_take := PySem.W.mg_of X G a9,
    f_law_least := F10,
    b_law_least := F10.binds (ps := ["_law_low", "_law_high"]) fun _ _ _ _ _ _ us hl => match us, hl with | [_, _], _ => rfl,
    g_law_least := PySem.W.mg_of X G a10,
    f_law_all_told := F11,
    b_law_all_told := F11.binds (ps := ["_law_most"]) fun _ _ _ _ _ _ us hl => match us, hl with | [_], _ => rfl,
    g_law_all_told := PySem.W.mg_of X G a11,
    f_law_bits_so := F12,
    b_law_bits_so := F12.binds (ps := ["_law_low", "_law_high", "_law_some"]) fun _ _ _ _ _ _ us hl => match us, hl with | [_, _, _], _ => rfl,
    g_law_bits_so := PySem.W.mg_of X G a12,
    f_law_small_so := F13,
    b_law_small_so := F13.binds (ps := ["_law_low", "_law_high", "_law_every"]) fun _ _ _ _ _ _ us hl => match us, hl with | [_, _, _], _ => rfl,
    g_law_small_so := PySem.W.mg_of X G a13,
    f_law := F14,
    b_law := F14.binds (ps := ["_law_script"]) fun _ _ _ _ _ _ us hl => match us, hl with | [_], _ => rfl,
    g_law := PySem.W.mg_of X G a14,
    c_CELLS := ⟨_, PySem.W.mg_of X G k_CELLS⟩,
    c_MOST_COUNT := ⟨_, PySem.W.mg_of X G k_MOST_COUNT⟩,
    z_abs := PySem.W.mg_none_of X G z_abs,
    z_bool := PySem.W.mg_none_of X G z_bool,
    z_int := PySem.W.mg_none_of X G z_int,
    z_isinstance := PySem.W.mg_none_of X G z_isinstance,
    z_len := PySem.W.mg_none_of X G z_len,
    z_max := PySem.W.mg_none_of X G z_max,
    z_min := PySem.W.mg_none_of X G z_min,
    z_range := PySem.W.mg_none_of X G z_range,
    z_repr := PySem.W.mg_none_of X G z_repr,
    z_sum := PySem.W.mg_none_of X G z_sum,
    z_tuple := PySem.W.mg_none_of X G z_tuple,
    k_ReachError := PySem.W.mg_of X G g_ReachError,
    k_NoBounds := PySem.W.mg_of X G g_NoBounds,
    x_NoBounds := x_NoBounds,
    p_NoBounds := p_NoBounds,
    u_NoBounds := u_NoBounds,
    y_NoBounds := y_NoBounds }
  exact ⟨_, C, fun s v => .of_eq rfl, fun base _ _ => ok_law T⟩
end
theorem mulOk_of {i j : Int} (h : -18446744073709551616 < i) (h2 : i < 18446744073709551616) : mulOk i j = true := by unfold mulOk; simp [h, h2]
theorem take_eq {S : Store} {n : Nat} {a b many : Int} (hS : S[n]? = some (.lst [.int a, .int b])) (hb : 0 ≤ b) (hb2 : b < 2147483647) (hm : 0 < many) (hm2 : many < 18446744073709551616) :
    g_law_take [.loc n, .int many] S = if 0 < a then .ok (.int (a % many)) (S.set n (.lst [.int (a / many), .int b]))
      else .ok (.int ((b * 48271 + 11) % 2147483647 * ((b * 48271 + 11) % 2147483647) % 2147483629 / 16 % many)) (S.set n (.lst [.int a, .int ((b * 48271 + 11) % 2147483647)])) := by
  have hl : n < S.length := (List.getElem?_eq_some_iff.mp hS).1
  have hset : ∀ o : MO, (S.set n o)[n]? = some o := fun o => List.getElem?_set_self hl
  have hb3 : mulOk b 48271 = true := mulOk_of (by omega) (by omega)
  have hb4 : mulOk ((b * 48271 + 11) % 2147483647) ((b * 48271 + 11) % 2147483647) = true := mulOk_of (by omega) (by omega)
  unfold g_law_take runDef m_law_take
  simp [ixD, atI, ixN, hS, putIx, hm, hm2, hb3, hb4, hset]
def PoolAt (S : Store) (n : Nat) : Prop := ∃ a b : Int, S[n]? = some (.lst [.int a, .int b]) ∧ 0 ≤ a ∧ 0 ≤ b ∧ b < 2147483647
theorem take_ok {S : Store} {n : Nat} (many : Int) (h : PoolAt S n) (hm : 0 < many) (hm2 : many < 18446744073709551616) : ∃ r S', g_law_take [.loc n, .int many] S = .ok (.int r) S' ∧ 0 ≤ r ∧ r < many ∧ PoolAt S' n ∧ ∃ o, S' = S.set n o := by
  obtain ⟨a, b, hS, ha, hb, hb2⟩ := h
  have hl : n < S.length := (List.getElem?_eq_some_iff.mp hS).1
  rw [take_eq hS hb hb2 hm hm2]
  split
  · exact ⟨_, _, rfl, Int.emod_nonneg _ (by omega), Int.emod_lt_of_pos _ hm, ⟨_, _, List.getElem?_set_self hl, Int.ediv_nonneg ha (by omega), hb, hb2⟩, _, rfl⟩
  · exact ⟨_, _, rfl, Int.emod_nonneg _ (by omega), Int.emod_lt_of_pos _ hm, ⟨_, _, List.getElem?_set_self hl, ha, by omega, by omega⟩, _, rfl⟩
theorem atI_map (ns : List Int) (k : Int) (h : 0 ≤ k) (h2 : k < ns.length) : atI (ns.map D.int) k = some (.int (ns.getD k.toNat 0)) := by
  have h3 : k.toNat < ns.length := by omega
  simp [atI, ixN, h, h2, List.getD, h3]
theorem pool_ok (ns : List Int) (k : Int) (S : Store) (hk : 0 ≤ k) (hk2 : k < 1000) : ∃ a b : Int, 0 ≤ a ∧ 0 ≤ b ∧ b < 2147483647 ∧ g_law_pool [.lst (ns.map D.int), .int k] S = .ok (.loc S.length) (S ++ [.lst [.int a, .int b]]) := by
  have m1 : ∀ x, mulOk 7 x = true := fun x => mulOk_of (by omega) (by omega)
  have m2 : mulOk 7919 k = true := mulOk_of (by omega) (by omega)
  have m3 : mulOk (7919 * k) k = true := mulOk_of (by omega) (by omega)
  have m4 : mulOk 31 k = true := mulOk_of (by omega) (by omega)
  have kk : 0 ≤ 7919 * k * k ∧ 7919 * k * k < 7919000000 := by
    have h1 : 0 ≤ k * k := Int.mul_nonneg hk hk
    have h2 : k * k ≤ 999 * 999 := Int.mul_le_mul (by omega) (by omega) hk (by omega)
    have e : 7919 * k * k = 7919 * (k * k) := Int.mul_assoc ..
    rw [e]
    omega
  have fin : ∀ c : Int, ∃ a b : Int, 0 ≤ a ∧ 0 ≤ b ∧ b < 2147483647 ∧
      ((sSeq (sSet 3 (rCal absD (rCons (rVar 2) rNil)))
                      (sSeq
                        (sSet 4
                          (rBin modD
                            (rBin mulD
                              (rBin addD
                                (rBin addD
                                  (rBin addD (rBin modD (rVar 3) (rCon (D.int 2147483629)))
                                    (rBin mulD (rBin mulD (rCon (D.int 7919)) (rVar 1)) (rVar 1)))
                                  (rBin mulD (rCon (D.int 31)) (rVar 1)))
                                (rCon (D.int 17)))
                              (rCon (D.int 48271)))
                            (rCon (D.int 2147483647))))
                        (sRet
                          (rLstM
                            (rCons
                              (rBin mulD (rVar 3)
                                (rCal intD
                                  (rCons (rBin geD (rVar 3) (rBin powD (rCon (D.int 10)) (rCon (D.int 18)))) rNil)))
                              (rCons (rBin modD (rBin mulD (rVar 4) (rVar 4)) (rCon (D.int 2147483629)))
                                rNil)))))) [some (D.lst (List.map D.int ns)), some (D.int k), some (.int c), none, none] S).res = Res.ok (D.loc (List.length S)) (S ++ [MO.lst [D.int a, D.int b]]) := fun c => by
    generalize hg : (if c < 0 then -c else c) = z
    have hz : 0 ≤ z := by rw [← hg]; split <;> omega
    have m5 : mulOk (z % 2147483629 + 7919 * k * k + 31 * k + 17) 48271 = true := mulOk_of (by omega) (by omega)
    generalize hy : (z % 2147483629 + 7919 * k * k + 31 * k + 17) * 48271 % 2147483647 = y
    have hy0 : 0 ≤ y := by omega
    have hy1 : y < 2147483647 := by omega
    have m6 : mulOk y y = true := mulOk_of (by omega) (by omega)
    have m7 : ∀ b : Bool, mulOk z (if b = true then 1 else 0) = true := fun b => by cases b <;> simp [mulOk]
    have p1 : powOk 10 18 = true := by decide
    have m8 := m7 (decide (10 ^ 18 ≤ z))
    simp at m8
    refine ⟨if 1000000000000000000 ≤ z then z else 0, y * y % 2147483629, ?_, by omega, by omega, ?_⟩
    · split <;> omega
    · simp [hg, m2, m3, m4, m5, hy, m6, p1, m8]
      split <;> simp
  unfold g_law_pool runDef m_law_pool
  by_cases hlt : k < ns.length
  · obtain ⟨a, b, h1, h2, h3, h4⟩ := fin (ns.getD k.toNat 0)
    refine ⟨a, b, h1, h2, h3, ?_⟩
    rw [← h4]
    simp [slD, sumD, cutD, HT.sIx, ← List.map_take, allI_map, m1, hlt, ixD, atI_map ns k hk hlt]
  · obtain ⟨a, b, h1, h2, h3, h4⟩ := fin (7 * (ns.take (min 63 ns.length)).sum + k)
    refine ⟨a, b, h1, h2, h3, ?_⟩
    rw [← h4]
    simp [slD, sumD, cutD, HT.sIx, ← List.map_take, allI_map, m1, hlt]
def Typed (S : Store) (d : D) : Prop := ∃ t, tyD S d = some t
def isW : D → Bool
  | .int _ => true
  | _ => false
theorem isi_loc_int {S : Store} {n : Nat} (h : Typed S (.loc n)) : isiD "int" S (.loc n) = some (.bl false) := by
  obtain ⟨t, h⟩ := h
  have h2 := h
  simp only [tyD] at h2
  split at h2 <;> cases h2
  · exact isiD_of h (by decide +kernel)
  · exact isiD_of h (by decide +kernel)
theorem is_whole_eq {S : Store} {d : D} (h : Typed S d) : g_is_whole [d] S = .ok (.bl (isW d)) S := by
  unfold g_is_whole runDef m_is_whole
  cases d with
  | loc n => simp [isi_loc_int h, isW]
  | exn c ns xs => obtain ⟨t, h⟩ := h; cases h
  | dcT ks xs => obtain ⟨t, h⟩ := h; cases h
  | _ => simp [isW]
def noB : Exn := ⟨cl_NoBounds, [], []⟩
def bnd : D → D → Option (Int × Int)
  | .int l, .int h => if 0 ≤ l ∧ l < h ∧ h ≤ 4096 then some (l, h) else none
  | _, _ => none
theorem bnd_some {a b : D} {l h : Int} (e : bnd a b = some (l, h)) : a = .int l ∧ b = .int h ∧ 0 ≤ l ∧ l < h ∧ h ≤ 4096 := by
  unfold bnd at e
  split at e
  · split at e
    · rename_i hh
      cases e
      exact ⟨rfl, rfl, hh⟩
    · cases e
  · cases e
theorem look_eq {S : Store} {a b : D} (h1 : Typed S a) (h2 : Typed S b) : g_look_at_bounds [a, b] S = if (bnd a b).isSome = true then .ok .non S else .err noB S := by
  unfold g_look_at_bounds runDef m_look_at_bounds
  have e1 := is_whole_eq h1
  have e2 := is_whole_eq h2
  cases ha : isW a with
  | false =>
    have hb : bnd a b = none := by cases a <;> cases b <;> first | rfl | simp [isW] at ha
    rw [ha] at e1
    simp [e1, hb, noB]
  | true =>
    rw [ha] at e1
    cases hb : isW b with
    | false =>
      have hb' : bnd a b = none := by cases a <;> cases b <;> first | rfl | simp [isW] at ha hb
      rw [hb] at e2
      simp [e1, e2, hb', noB]
    | true =>
      rw [hb] at e2
      obtain ⟨l, rfl⟩ : ∃ l, a = .int l := by cases a <;> first | exact ⟨_, rfl⟩ | simp [isW] at ha
      obtain ⟨h, rfl⟩ : ∃ l, b = .int l := by cases b <;> first | exact ⟨_, rfl⟩ | simp [isW] at hb
      simp [e1, e2, bnd, noB]
      by_cases c1 : 0 ≤ l <;> by_cases c2 : l < h <;> by_cases c3 : h ≤ 4096 <;> simp [c1, c2, c3]
def cdv (h : Int) (s : Nat) : Int := -(-h / 2 ^ s)
def cnt (l h : Int) (s : Nat) : Int := cdv h s - l / 2 ^ s
def fstep (l h : Int) : Nat → Nat → Nat
  | 0, s => s
  | n + 1, s => if 16 < cnt l h s then fstep l h n (s + 1) else s
def stp (l h : Int) : Nat := fstep l h 8 0
theorem cnt8 {l h : Int} (h0 : 0 ≤ l) (h2 : h ≤ 4096) : cnt l h 8 ≤ 16 := by
  unfold cnt cdv
  have e : (2 : Int) ^ 8 = 256 := by decide
  rw [e]
  omega
theorem fstep_spec (l h : Int) : ∀ (n s : Nat), cnt l h (s + n) ≤ 16 → cnt l h (fstep l h n s) ≤ 16 ∧ s ≤ fstep l h n s ∧ fstep l h n s ≤ s + n ∧ ∀ t, s ≤ t → t < fstep l h n s → 16 < cnt l h t
  | 0, s, hc => ⟨hc, Nat.le_refl _, Nat.le_refl _, fun t h1 h2 => absurd h2 (by simp only [fstep]; omega)⟩
  | n + 1, s, hc => by
    unfold fstep
    split
    · rename_i hs
      obtain ⟨h1, h2, h3, h4⟩ := fstep_spec l h n (s + 1) (by rw [show s + 1 + n = s + (n + 1) by omega]; exact hc)
      exact ⟨h1, by omega, by omega, fun t a b => by
        by_cases e : t = s
        · subst e; exact hs
        · exact h4 t (by omega) b⟩
    · rename_i hs
      exact ⟨by omega, Nat.le_refl _, by omega, fun t a b => by omega⟩
theorem stp_spec {l h : Int} (h0 : 0 ≤ l) (h2 : h ≤ 4096) : cnt l h (stp l h) ≤ 16 ∧ stp l h ≤ 8 ∧ ∀ t, t < stp l h → 16 < cnt l h t := by
  obtain ⟨h1, _, h3, h4⟩ := fstep_spec l h 8 0 (cnt8 h0 h2)
  exact ⟨h1, by unfold stp; omega, fun t a => h4 t (Nat.zero_le _) a⟩
def lib (l h : Int) : D := .tup [.int (stp l h), .int (l / 2 ^ stp l h), .int (cnt l h (stp l h))]
theorem lib_loop {l h : Int} {S : Store} {x : Option D} (tc : RT) (hb : RS)
    (ht : tc = rTest (rBin gtD (rBin subD (rUn negD (rBin shrD (rUn negD (rVar 1)) (rVar 2))) (rBin shrD (rVar 0) (rVar 2))) (rCon (.int 16))))
    (hbd : hb = sAug 2 (i2 (fun _ _ => true) fun i j => .int (i + j)) (rCon (.int 1))) :
    ∀ (n s m : Nat), cnt l h (s + n) ≤ 16 → n < m → whileN tc hb m [some (.int l), some (.int h), some (.int s), x] S = .nx [some (.int l), some (.int h), some (.int (fstep l h n s)), x] S
  | 0, s, 0, hc, hm => by omega
  | n + 1, s, 0, hc, hm => by omega
  | 0, s, m + 1, hc, hm => by
    have hs : ¬ 16 < cnt l h s := by have : cnt l h s ≤ 16 := hc; omega
    unfold cnt cdv at hs
    simp [whileN, ht, fstep, hs]
  | n + 1, s, m + 1, hc, hm => by
    by_cases hs : 16 < cnt l h s
    · have ih := lib_loop (S := S) (x := x) tc hb ht hbd n (s + 1) m (by rw [show s + 1 + n = s + (n + 1) by omega]; exact hc) (by omega)
      have e : fstep l h (n + 1) s = fstep l h n (s + 1) := by simp [fstep, hs]
      rw [e, ← ih]
      have hs' := hs
      unfold cnt cdv at hs'
      simp [whileN]
      subst ht hbd
      simp [hs']
    · have e : fstep l h (n + 1) s = s := by simp [fstep, hs]
      have hs' := hs
      unfold cnt cdv at hs'
      simp [whileN, ht, e, hs']
theorem lib_eq {l h : Int} {S : Store} (h0 : 0 ≤ l) (h2 : h ≤ 4096) : g_least_in_bits [.int l, .int h] S = .ok (lib l h) S := by
  have lp := lib_loop (l := l) (h := h) (S := S) (x := none) _ lb1_least_in_bits rfl rfl 8 0 20 (cnt8 h0 h2) (by omega)
  unfold g_least_in_bits runDef m_least_in_bits
  simp only [Int.ofNat_zero] at lp
  simp [lp, lib, stp, cnt, cdv]
def lhl (l h : Int) : Int := l / 2 ^ stp l h * 2 ^ stp l h
def lhh (l h : Int) : Int := cdv h (stp l h) * 2 ^ stp l h
theorem pow_pos (s : Nat) : (0 : Int) < 2 ^ s := Int.pow_pos (by decide)
theorem from_eq {f c : Int} {s : Nat} {S : Store} (hs : s ≤ 8) (hf : f.natAbs < 4294967296) (hc : c.natAbs < 4294967296) : g_from_bits [.int s, .int f, .int c] S = .ok (.tup [.int (f * 2 ^ s), .int ((f + c) * 2 ^ s)]) S := by
  have p1 : powOk f s = true := by unfold powOk; simp; omega
  have p2 : powOk (f + c) s = true := by unfold powOk; simp; omega
  unfold g_from_bits runDef m_from_bits
  simp [p1, p2]
theorem div_bnd {l : Int} (s : Nat) (h0 : 0 ≤ l) (h1 : l ≤ 4096) : 0 ≤ l / 2 ^ s ∧ l / 2 ^ s ≤ 4096 := by
  have p := pow_pos s
  refine ⟨Int.ediv_nonneg h0 (by omega), Int.le_trans (Int.ediv_le_self _ h0) h1⟩
theorem cdv_le {h : Int} (s : Nat) : h ≤ cdv h s * 2 ^ s := by
  unfold cdv
  have p := pow_pos s
  have := Int.ediv_mul_le (-h) (Int.ne_of_gt p)
  rw [Int.neg_mul]
  omega
theorem cdv_lt {h : Int} (s : Nat) : cdv h s * 2 ^ s < h + 2 ^ s := by
  unfold cdv
  have p := pow_pos s
  have := Int.lt_ediv_add_one_mul_self (-h) p
  rw [Int.neg_mul]
  rw [Int.add_mul, Int.one_mul] at this
  omega
theorem cdv_pos {h : Int} (s : Nat) (h0 : 0 < h) : 0 < cdv h s := by
  have p := pow_pos s
  have a := cdv_le (h := h) s
  by_cases z : 0 < cdv h s
  · exact z
  · have : cdv h s * 2 ^ s ≤ 0 := Int.mul_nonpos_of_nonpos_of_nonneg (by omega) (by omega)
    omega
theorem cdv_bnd {h : Int} (s : Nat) (h0 : 0 < h) (h1 : h ≤ 4096) : 0 < cdv h s ∧ cdv h s ≤ 4096 := by
  refine ⟨cdv_pos s h0, ?_⟩
  have p := pow_pos s
  have b := cdv_lt (h := h) s
  by_cases z : cdv h s ≤ h
  · omega
  · have : (h + 1) * 2 ^ s ≤ cdv h s * 2 ^ s := Int.mul_le_mul_of_nonneg_right (by omega) (by omega)
    rw [Int.add_mul, Int.one_mul] at this
    have : h * 1 ≤ h * 2 ^ s := Int.mul_le_mul_of_nonneg_left (by omega) (by omega)
    omega
theorem held_eq {l h : Int} {S : Store} (h0 : 0 ≤ l) (h1 : l < h) (h2 : h ≤ 4096) : g_least_held [.int l, .int h] S = .ok (.tup [.int (lhl l h), .int (lhh l h)]) S := by
  obtain ⟨s1, s2, _⟩ := stp_spec h0 h2
  have a := div_bnd (stp l h) h0 (by omega : l ≤ 4096)
  have b := cdv_bnd (stp l h) (by omega : 0 < h) h2
  have c : cnt l h (stp l h) = cdv h (stp l h) - l / 2 ^ stp l h := rfl
  have e := from_eq (f := l / 2 ^ stp l h) (c := cnt l h (stp l h)) (S := S) s2 (by omega) (by omega)
  unfold g_least_held runDef m_least_held
  have c2 : l / 2 ^ stp l h + cnt l h (stp l h) = cdv h (stp l h) := by omega
  simp [lib_eq h0 h2, lib, e, lhl, lhh, c2]
theorem in_bits_eq {S : Store} {a b : D} (h1 : Typed S a) (h2 : Typed S b) : g_in_bits [a, b] S = match bnd a b with | some (l, h) => .ok (lib l h) S | none => .err noB S := by
  unfold g_in_bits runDef m_in_bits
  simp [look_eq h1 h2]
  cases hb : bnd a b with
  | none => simp
  | some p =>
    obtain ⟨l, h⟩ := p
    obtain ⟨rfl, rfl, b1, b2, b3⟩ := bnd_some hb
    simp [lib_eq b1 b3]
theorem least_bounds_eq {S : Store} {a b : D} (h1 : Typed S a) (h2 : Typed S b) : g_least_bounds [a, b] S = match bnd a b with | some (l, h) => .ok (.tup [.int (lhl l h), .int (lhh l h)]) S | none => .err noB S := by
  unfold g_least_bounds runDef m_least_bounds
  simp [look_eq h1 h2]
  cases hb : bnd a b with
  | none => simp
  | some p =>
    obtain ⟨l, h⟩ := p
    obtain ⟨rfl, rfl, b1, b2, b3⟩ := bnd_some hb
    simp [held_eq b1 b2 b3]
def exb (l h : Int) : Bool := lhl l h == l && lhh l h == h
theorem is_exact_eq {S : Store} {a b : D} (h1 : Typed S a) (h2 : Typed S b) : g_is_exact [a, b] S = match bnd a b with | some (l, h) => .ok (.bl (exb l h)) S | none => .err noB S := by
  unfold g_is_exact runDef m_is_exact
  simp [look_eq h1 h2]
  cases hb : bnd a b with
  | none => simp
  | some p =>
    obtain ⟨l, h⟩ := p
    obtain ⟨rfl, rfl, b1, b2, b3⟩ := bnd_some hb
    simp [held_eq b1 b2 b3, exb, PyData.eqvAll, PyData.eqv]
def fnd (c : Nat → Bool) : Nat → Nat → Nat
  | 0, s => s
  | n + 1, s => if c s = true then fnd c n (s + 1) else s
theorem while_fnd {tc : RT} {body : RS} {E : Nat → Ev.Env} {S : Store} {c : Nat → Bool} (N : Nat) (ht : ∀ s, s ≤ N → tc (E s) S = .ok (c s) S) (hb : ∀ s, s < N → body (E s) S = .nx (E (s + 1)) S) :
    ∀ (n s m : Nat), s + n ≤ N → c (s + n) = false → n < m → whileN tc body m (E s) S = .nx (E (fnd c n s)) S
  | 0, s, 0, _, hc, hm => by omega
  | n + 1, s, 0, _, hc, hm => by omega
  | 0, s, m + 1, hN, hc, hm => by
    have h0 : c s = false := hc
    simp [whileN, ht s (by omega), h0, fnd]
  | n + 1, s, m + 1, hN, hc, hm => by
    simp only [whileN, ht s (by omega), fl_ok]
    cases h0 : c s with
    | false => simp [fnd, h0]
    | true =>
      have ih := while_fnd N ht hb n (s + 1) m (by omega) (by rw [show s + 1 + n = s + (n + 1) by omega]; exact hc) (by omega)
      simp [hb s (by omega), fnd, h0, ih]
theorem fstep_fnd (l h : Int) : ∀ (n s : Nat), fstep l h n s = fnd (fun s => decide (16 < cnt l h s)) n s
  | 0, s => rfl
  | n + 1, s => by simp only [fstep, fnd, decide_eq_true_eq, fstep_fnd l h n (s + 1)]
theorem uniqW {a b p h : Int} (hp : 0 < p) (h1 : h ≤ a * p) (h2 : a * p < h + p) (h3 : h ≤ b * p) (h4 : b * p < h + p) : a = b := by
  have e1 : a * p < (b + 1) * p := by rw [Int.add_mul, Int.one_mul]; omega
  have e2 : b * p < (a + 1) * p := by rw [Int.add_mul, Int.one_mul]; omega
  have f1 := Int.lt_of_mul_lt_mul_right e1 (by omega)
  have f2 := Int.lt_of_mul_lt_mul_right e2 (by omega)
  omega
theorem cdv_pred {h : Int} (s : Nat) : (h - 1) / 2 ^ s + 1 = cdv h s := by
  have p := pow_pos s
  have a := cdv_le (h := h) s
  have b := cdv_lt (h := h) s
  have c := Int.ediv_mul_le (h - 1) (Int.ne_of_gt p)
  have d := Int.lt_ediv_add_one_mul_self (h - 1) p
  have e : ((h - 1) / 2 ^ s + 1) * 2 ^ s = (h - 1) / 2 ^ s * 2 ^ s + 2 ^ s := by rw [Int.add_mul, Int.one_mul]
  exact uniqW (h := h) p (by omega) (by omega) a b
theorem cdv_gt {m : Int} (s : Nat) (k : Int) : k < cdv m s ↔ k * 2 ^ s < m := by
  have p := pow_pos s
  have a := cdv_le (h := m) s
  have b := cdv_lt (h := m) s
  constructor
  · intro h
    have : (k + 1) * 2 ^ s ≤ cdv m s * 2 ^ s := Int.mul_le_mul_of_nonneg_right (by omega) (by omega)
    rw [Int.add_mul, Int.one_mul] at this
    omega
  · intro h
    exact Int.lt_of_mul_lt_mul_right (Int.lt_of_lt_of_le h a) (by omega)
theorem cdv_le_iff {m : Int} (s : Nat) (k : Int) : cdv m s ≤ k ↔ m ≤ k * 2 ^ s := by
  have := cdv_gt (m := m) s k
  omega
theorem le_div_iff {l : Int} (s : Nat) (k : Int) : k ≤ l / 2 ^ s ↔ k * 2 ^ s ≤ l := Int.le_ediv_iff_mul_le (pow_pos s)
theorem div_mul' (k : Int) (s : Nat) : k * 2 ^ s / 2 ^ s = k := Int.mul_ediv_cancel _ (Int.ne_of_gt (pow_pos s))
theorem stp_le {l h : Int} {s : Nat} (h0 : 0 ≤ l) (h2 : h ≤ 4096) (hc : cnt l h s ≤ 16) : stp l h ≤ s := by
  obtain ⟨_, _, c⟩ := stp_spec h0 h2
  by_cases z : stp l h ≤ s
  · exact z
  · have := c s (by omega)
    omega
theorem cnt_le {l h a b : Int} {s : Nat} (h1 : a * 2 ^ s ≤ l) (h2 : h ≤ b * 2 ^ s) : cnt l h s ≤ b - a := by
  unfold cnt
  have e1 := (le_div_iff (l := l) s a).mpr h1
  have e2 := (cdv_le_iff (m := h) s b).mpr h2
  omega
theorem pow_split {t s : Nat} (h : t ≤ s) : (2 : Int) ^ s = 2 ^ (s - t) * 2 ^ t := by rw [← Int.pow_add]; congr 1; omega
theorem held_within {l h a b : Int} {s : Nat} (h0 : 0 ≤ l) (h2 : h ≤ 4096) (h3 : a * 2 ^ s ≤ l) (h4 : h ≤ b * 2 ^ s) (h5 : b - a ≤ 16) : a * 2 ^ s ≤ lhl l h ∧ lhh l h ≤ b * 2 ^ s := by
  have hs := stp_le (s := s) h0 h2 (Int.le_trans (cnt_le h3 h4) h5)
  unfold lhl lhh
  generalize stp l h = t at *
  have p := pow_pos t
  rw [pow_split hs] at *
  constructor
  · rw [← Int.mul_assoc] at h3 ⊢
    exact Int.mul_le_mul_of_nonneg_right ((le_div_iff t _).mpr h3) (by omega)
  · rw [← Int.mul_assoc] at h4 ⊢
    exact Int.mul_le_mul_of_nonneg_right ((cdv_le_iff t _).mpr h4) (by omega)
theorem held_holds (l h : Int) : lhl l h ≤ l ∧ h ≤ lhh l h := by
  unfold lhl lhh
  exact ⟨Int.ediv_mul_le _ (Int.ne_of_gt (pow_pos _)), cdv_le _⟩
theorem exact_of {a b : Int} {s : Nat} (h0 : 0 ≤ a * 2 ^ s) (h2 : b * 2 ^ s ≤ 4096) (h5 : b - a ≤ 16) : lhl (a * 2 ^ s) (b * 2 ^ s) = a * 2 ^ s ∧ lhh (a * 2 ^ s) (b * 2 ^ s) = b * 2 ^ s := by
  obtain ⟨e1, e2⟩ := held_within (l := a * 2 ^ s) (h := b * 2 ^ s) h0 h2 (Int.le_refl _) (Int.le_refl _) h5
  obtain ⟨e3, e4⟩ := held_holds (a * 2 ^ s) (b * 2 ^ s)
  omega
theorem exb_of {a b : Int} {s : Nat} (h0 : 0 ≤ a * 2 ^ s) (h2 : b * 2 ^ s ≤ 4096) (h5 : b - a ≤ 16) : exb (a * 2 ^ s) (b * 2 ^ s) = true := by
  obtain ⟨e1, e2⟩ := exact_of h0 h2 h5
  unfold exb
  simp [e1, e2]
theorem exb_iff {l h : Int} : exb l h = true ↔ lhl l h = l ∧ lhh l h = h := by unfold exb; simp
theorem bnd_int {l h : Int} (h0 : 0 ≤ l) (h1 : l < h) (h2 : h ≤ 4096) : bnd (.int l) (.int h) = some (l, h) := by simp [bnd, h0, h1, h2]
theorem is_exact_int {l h : Int} {S : Store} (h0 : 0 ≤ l) (h1 : l < h) (h2 : h ≤ 4096) : g_is_exact [.int l, .int h] S = .ok (.bl (exb l h)) S := by
  have e := is_exact_eq (S := S) (a := .int l) (b := .int h) ⟨_, rfl⟩ ⟨_, rfl⟩
  rw [bnd_int h0 h1 h2] at e
  exact e
theorem least_bounds_int {l h : Int} {S : Store} (h0 : 0 ≤ l) (h1 : l < h) (h2 : h ≤ 4096) : g_least_bounds [.int l, .int h] S = .ok (.tup [.int (lhl l h), .int (lhh l h)]) S := by
  have e := least_bounds_eq (S := S) (a := .int l) (b := .int h) ⟨_, rfl⟩ ⟨_, rfl⟩
  rw [bnd_int h0 h1 h2] at e
  exact e
theorem in_bits_int {l h : Int} {S : Store} (h0 : 0 ≤ l) (h1 : l < h) (h2 : h ≤ 4096) : g_in_bits [.int l, .int h] S = .ok (lib l h) S := by
  have e := in_bits_eq (S := S) (a := .int l) (b := .int h) ⟨_, rfl⟩ ⟨_, rfl⟩
  rw [bnd_int h0 h1 h2] at e
  exact e
theorem law_least_eq {l h : Int} {S : Store} (h0 : 0 ≤ l) (h1 : l < h) (h2 : h ≤ 4096) : g_law_least [.int l, .int h] S = .ok (.tup [.int (lhl l h), .int (lhh l h), .int (stp l h)]) S := by
  have lp := while_fnd (tc := rTest (rBin gtD (rBin subD (rBin shrD (rBin subD (rVar 1) (rCon (.int 1))) (rVar 2)) (rBin shrD (rVar 0) (rVar 2))) (rCon (.int 15)))) (body := lb1_law_least)
    (E := fun s => [some (.int l), some (.int h), some (.int (s : Nat))]) (S := S) (c := fun s => decide (16 < cnt l h s)) 8
    (fun s _ => by
      have e : (15 < (h - 1) / 2 ^ s - l / 2 ^ s) ↔ 16 < cnt l h s := by
        unfold cnt; rw [← cdv_pred (h := h) s]; omega
      simp [e]) (fun s _ => by simp [lb1_law_least]) 8 0 20 (by omega) (by have := cnt8 h0 h2; simp; exact this) (by omega)
  rw [← fstep_fnd] at lp
  obtain ⟨s1, s2, _⟩ := stp_spec h0 h2
  have b := cdv_bnd (stp l h) (by omega : 0 < h) h2
  have a := div_bnd (stp l h) h0 (by omega : l ≤ 4096)
  have p1 : powOk (l / 2 ^ stp l h) (stp l h) = true := by unfold powOk; simp; omega
  have p2 : powOk (cdv h (stp l h)) (stp l h) = true := by unfold powOk; simp; omega
  unfold g_law_least runDef m_law_least
  simp only [Int.ofNat_zero] at lp
  rw [show fstep l h 8 0 = stp l h from rfl] at lp
  simp [lp, cdv_pred, p1, p2, lhl, lhh]
theorem cnt_pos {l h : Int} {s : Nat} (h1 : l < h) : 1 ≤ cnt l h s := by
  unfold cnt
  have p := pow_pos s
  have a := Int.ediv_mul_le l (Int.ne_of_gt p)
  have b := cdv_le (h := h) s
  have c : l / 2 ^ s * 2 ^ s < cdv h s * 2 ^ s := by omega
  have := Int.lt_of_mul_lt_mul_right c (by omega)
  omega
theorem cnt_from9 {l h : Int} (h0 : 0 ≤ l) (h2 : h ≤ 4096) (hs : 0 < stp l h) : 8 < cnt l h (stp l h) := by
  obtain ⟨s1, s2, s3⟩ := stp_spec h0 h2
  have hb := s3 (stp l h - 1) (by omega)
  generalize hz : stp l h = s at *
  obtain ⟨t, rfl⟩ : ∃ t, s = t + 1 := ⟨s - 1, by omega⟩
  rw [Nat.add_sub_cancel] at hb
  unfold cnt at hb ⊢
  have e : (2 : Int) ^ (t + 1) = 2 * 2 ^ t := by rw [Int.pow_succ]; omega
  have p := pow_pos t
  have p1 := pow_pos (t + 1)
  have a1 : cdv h t ≤ 2 * cdv h (t + 1) := by
    refine (cdv_le_iff t _).mpr ?_
    have := cdv_le (h := h) (t + 1)
    rw [e] at this
    rw [show 2 * cdv h (t + 1) * 2 ^ t = cdv h (t + 1) * (2 * 2 ^ t) by rw [Int.mul_comm 2 (cdv h (t + 1)), Int.mul_assoc]]
    exact this
  have a2 : 2 * (l / 2 ^ (t + 1)) ≤ l / 2 ^ t := by
    refine (le_div_iff t _).mpr ?_
    have := Int.ediv_mul_le l (Int.ne_of_gt p1)
    rw [e] at this ⊢
    rw [show 2 * (l / (2 * 2 ^ t)) * 2 ^ t = l / (2 * 2 ^ t) * (2 * 2 ^ t) by rw [Int.mul_comm 2 (l / (2 * 2 ^ t)), Int.mul_assoc]]
    exact this
  omega
theorem pow_le8 {s : Nat} (h : s ≤ 8) : (1 : Int) ≤ 2 ^ s ∧ (2 : Int) ^ s ≤ 256 := by
  rcases s with _ | _ | _ | _ | _ | _ | _ | _ | _ | s <;> first | decide | omega
theorem bits_eq {l h : Int} {S : Store} (h0 : 0 ≤ l) (h1 : l < h) (h2 : h ≤ 4096) : g_law_bits_so [.int (lhl l h), .int (lhh l h), lib l h] S = .ok (.bl true) S := by
  obtain ⟨s1, s2, s3⟩ := stp_spec h0 h2
  have c1 := cnt_pos (s := stp l h) h1
  have c9 := fun q => cnt_from9 (l := l) (h := h) h0 h2 q
  have a := div_bnd (stp l h) h0 (by omega : l ≤ 4096)
  have b := cdv_bnd (stp l h) (by omega : 0 < h) h2
  have e : l / 2 ^ stp l h + cnt l h (stp l h) = cdv h (stp l h) := by unfold cnt; omega
  have p1 : powOk (l / 2 ^ stp l h) (stp l h) = true := by unfold powOk; simp; omega
  have p2 : powOk (cdv h (stp l h)) (stp l h) = true := by unfold powOk; simp; omega
  have pl : lhl l h = l / 2 ^ stp l h * 2 ^ stp l h := rfl
  have ph : lhh l h = cdv h (stp l h) * 2 ^ stp l h := rfl
  unfold g_law_bits_so runDef m_law_bits_so lib
  rw [pl, ph]
  generalize stp l h = s at *
  generalize hx : l / 2 ^ s = x at *
  generalize hy : cnt l h s = y at *
  have q1 : (0 : Int) ≤ (s : Int) := by omega
  have q2 : (s : Int) ≤ 8 := by omega
  by_cases z : s = 0
  · have q5 : ¬ (0 : Int) < (s : Int) := by omega
    have q6 : ¬ 0 < s := by omega
    simp [q1, q2, c1, s1, q5, q6, e, p1, p2, PyData.eqvAll, PyData.eqv]
  · have c9' := c9 (by omega)
    have q3 : ¬ y < 9 := by omega
    simp [q1, q2, c1, s1, q3, e, p1, p2, PyData.eqvAll, PyData.eqv]
def kk (p : Int × Int) : List Key := [.inl p.1, .inl p.2]
def putL (ks : List (Int × Int)) (p : Int × Int) : List (Int × Int) := if p ∈ ks then ks else ks ++ [p]
theorem hasT_kk (ks : List (Int × Int)) (p : Int × Int) : hasT (ks.map kk) (kk p) = decide (p ∈ ks) := by
  unfold hasT
  rw [List.any_map, Bool.eq_iff_iff, List.any_eq_true, decide_eq_true_eq]
  constructor
  · rintro ⟨q, hq, e⟩
    have e' : kk q = kk p := of_decide_eq_true e
    simp only [kk, List.cons.injEq, Sum.inl.injEq, and_true] at e'
    obtain ⟨a, b⟩ := p
    obtain ⟨c, d⟩ := q
    simp only at e'
    rw [← e'.1, ← e'.2]; exact hq
  · exact fun h => ⟨p, h, decide_eq_true rfl⟩
theorem repT_true (k : List Key) : ∀ (ks : List (List Key)), repT ks (List.replicate ks.length (Ev.D.bl true)) k (.bl true) = List.replicate ks.length (.bl true)
  | [] => rfl
  | k' :: ks => by
    rw [List.length_cons, List.replicate_succ, repT, repT_true k ks]
    simp
def dT6 (ks : List (Int × Int)) : MO := .dT (ks.map kk) (List.replicate ks.length (.bl true))
theorem putKT_kk (ks : List (Int × Int)) (p : Int × Int) : (putKT (ks.map kk) (List.replicate ks.length (Ev.D.bl true)) (kk p) (.bl true)).1 = (putL ks p).map kk ∧ (putKT (ks.map kk) (List.replicate ks.length (Ev.D.bl true)) (kk p) (.bl true)).2 = List.replicate (putL ks p).length (.bl true) := by
  unfold putKT putL
  rw [hasT_kk]
  by_cases h : p ∈ ks
  · simp only [h, decide_true, if_true, true_and]
    have := repT_true (kk p) (ks.map kk)
    rw [List.length_map] at this
    exact this
  · simp only [h, decide_false, Bool.false_eq_true, if_false, List.map_append, List.map_cons, List.map_nil, true_and, List.length_append, List.length_cons, List.length_nil]
    rw [List.replicate_succ']
theorem put6 {S : Store} {ks : List (Int × Int)} {a b : Int} (h : ks.length < 1000000) : putT (S ++ [dT6 ks]) (.loc S.length) [.int a, .int b] (.bl true) = some (S ++ [dT6 (putL ks (a, b))]) := by
  have e : (S ++ [dT6 ks])[S.length]? = some (.dT (ks.map kk) (List.replicate ks.length (.bl true))) := by simp [dT6]
  have z : ks.length < sizeLine := by rw [sizeLine_eq]; omega
  have k := putKT_kk ks (a, b)
  simp only [putT, e, keysOf, Ev.keyOf, Option.bind_some, List.length_map, z, if_true]
  rw [show [(Sum.inl a : Key), Sum.inl b] = kk (a, b) from rfl, k.1, k.2]
  simp [dT6, List.set_append_right]
theorem for_cons6 {sa : RS} {e e' : Ev.Env} {S S1 : Store} {d : Ev.D} {xs : List Ev.D} {n : Nat} (h : sa (e.set n (some d)) S = .nx e' S1) : forL (.nm n) sa (d :: xs) e S = forL (.nm n) sa xs e' S1 := by
  simp [forL, h]
def Tl (p : Int × Int) : Prop := ∃ s f c : Nat, s ≤ 8 ∧ 1 ≤ c ∧ c ≤ 16 ∧ p = ((f : Int) * 2 ^ s, ((f : Int) + c) * 2 ^ s) ∧ p.2 ≤ 128
theorem mem_putL {ks : List (Int × Int)} {p q : Int × Int} : q ∈ putL ks p ↔ q ∈ ks ∨ q = p := by
  unfold putL
  split
  · rename_i h
    exact ⟨.inl, fun z => z.elim id fun z => z ▸ h⟩
  · simp
theorem len_putL (ks : List (Int × Int)) (p : Int × Int) : (putL ks p).length ≤ ks.length + 1 := by
  unfold putL
  split <;> simp
theorem pow_nn (f : Nat) {s : Nat} (hs : s ≤ 8) (hf : f ≤ 200) : powOk ((f : Int)) s = true := by unfold powOk; simp; omega
theorem inner {S : Store} {s f : Nat} (hs : s ≤ 8) (hf : f ≤ 150) : ∀ (cs : List Nat) (ks : List (Int × Int)) (y : Option Ev.D), (∀ c ∈ cs, 1 ≤ c ∧ c ≤ 16) → ks.length + cs.length < 900000 → (∀ p ∈ ks, Tl p) →
    ∃ ks' y', forL (.nm 4) lb1_law_all_told (cs.map fun c => .int (c : Nat)) [some (.int 128), some (.loc S.length), some (.int (s : Nat)), some (.int (f : Nat)), y] (S ++ [dT6 ks]) = .nx [some (.int 128), some (.loc S.length), some (.int (s : Nat)), some (.int (f : Nat)), y'] (S ++ [dT6 ks']) ∧
      ks'.length ≤ ks.length + cs.length ∧ (∀ p ∈ ks, p ∈ ks') ∧ (∀ c ∈ cs, ((f : Int) + c) * 2 ^ s ≤ 128 → ((f : Int) * 2 ^ s, ((f : Int) + (c : Nat)) * 2 ^ s) ∈ ks') ∧ ∀ p ∈ ks', Tl p
  | [], ks, y, _, _, hk => ⟨ks, y, rfl, Nat.le_refl _, fun _ h => h, fun _ h => (by cases h), hk⟩
  | c :: cs, ks, y, hc, hl, hk => by
    have c1 := hc c List.mem_cons_self
    have p1 := pow_nn f hs (by omega)
    have p2 : powOk ((f : Int) + (c : Nat)) s = true := by have := pow_nn (f + c) hs (by omega); rw [Int.natCast_add] at this; exact this
    have pt := put6 (S := S) (ks := ks) (a := (f : Int) * 2 ^ s) (b := ((f : Int) + (c : Nat)) * 2 ^ s) (by rw [List.length_cons] at hl; omega)
    by_cases z : ((f : Int) + (c : Nat)) * 2 ^ s ≤ 128
    · have body : lb1_law_all_told [some (.int 128), some (.loc S.length), some (.int (s : Nat)), some (.int (f : Nat)), some (.int (c : Nat))] (S ++ [dT6 ks]) = .nx [some (.int 128), some (.loc S.length), some (.int (s : Nat)), some (.int (f : Nat)), some (.int (c : Nat))] (S ++ [dT6 (putL ks ((f : Int) * 2 ^ s, ((f : Int) + (c : Nat)) * 2 ^ s))]) := by
        unfold lb1_law_all_told
        simp [p1, p2, z, pt]
      have ll := len_putL ks ((f : Int) * 2 ^ s, ((f : Int) + (c : Nat)) * 2 ^ s)
      rw [List.length_cons] at hl
      obtain ⟨ks', y', h1, h2, h3, h4, h5⟩ := inner hs hf cs (putL ks ((f : Int) * 2 ^ s, ((f : Int) + (c : Nat)) * 2 ^ s)) (some (.int (c : Nat))) (fun c h => hc c (List.mem_cons_of_mem _ h)) (by omega) (fun p hp => by
        rcases mem_putL.mp hp with hp | rfl
        · exact hk p hp
        · exact ⟨s, f, c, hs, c1.1, c1.2, rfl, z⟩)
      refine ⟨ks', y', ?_, by rw [List.length_cons]; omega, fun p hp => h3 p (mem_putL.mpr (.inl hp)), fun d hd hz => ?_, h5⟩
      · rw [List.map_cons]
        exact (for_cons6 body).trans h1
      · rcases List.mem_cons.mp hd with rfl | hd
        · exact h3 _ (mem_putL.mpr (.inr rfl))
        · exact h4 d hd hz
    · have body : lb1_law_all_told [some (.int 128), some (.loc S.length), some (.int (s : Nat)), some (.int (f : Nat)), some (.int (c : Nat))] (S ++ [dT6 ks]) = .nx [some (.int 128), some (.loc S.length), some (.int (s : Nat)), some (.int (f : Nat)), some (.int (c : Nat))] (S ++ [dT6 ks]) := by
        unfold lb1_law_all_told
        simp [p2, z]
      rw [List.length_cons] at hl
      obtain ⟨ks', y', h1, h2, h3, h4, h5⟩ := inner hs hf cs ks (some (.int (c : Nat))) (fun c h => hc c (List.mem_cons_of_mem _ h)) (by omega) hk
      refine ⟨ks', y', ?_, by rw [List.length_cons]; omega, h3, fun d hd hz => ?_, h5⟩
      · rw [List.map_cons]
        exact (for_cons6 body).trans h1
      · rcases List.mem_cons.mp hd with rfl | hd
        · exact absurd hz z
        · exact h4 d hd hz
def cs16 : List Nat := [1, 2, 3, 4, 5, 6, 7, 8, 9, 10, 11, 12, 13, 14, 15, 16]
theorem rng_cs : rangeD 1 16 = cs16.map fun c => Ev.D.int (c : Nat) := by kernel_rfl
theorem mem_cs {c : Nat} (h1 : 1 ≤ c) (h2 : c ≤ 16) : c ∈ cs16 := by
  unfold cs16
  simp only [List.mem_cons, List.not_mem_nil, or_false]
  omega
theorem cs_mem {c : Nat} (h : c ∈ cs16) : 1 ≤ c ∧ c ≤ 16 := by
  unfold cs16 at h
  simp only [List.mem_cons, List.not_mem_nil, or_false] at h
  omega
theorem middle {S : Store} {s : Nat} (hs : s ≤ 8) : ∀ (fs : List Nat) (ks : List (Int × Int)) (y3 y4 : Option Ev.D), (∀ f ∈ fs, f ≤ 150) → ks.length + 16 * fs.length < 800000 → (∀ p ∈ ks, Tl p) →
    ∃ ks' y3' y4', forL (.nm 3) lb2_law_all_told (fs.map fun c => .int (c : Nat)) [some (.int 128), some (.loc S.length), some (.int (s : Nat)), y3, y4] (S ++ [dT6 ks]) = .nx [some (.int 128), some (.loc S.length), some (.int (s : Nat)), y3', y4'] (S ++ [dT6 ks']) ∧
      ks'.length ≤ ks.length + 16 * fs.length ∧ (∀ p ∈ ks, p ∈ ks') ∧ (∀ f ∈ fs, ∀ c : Nat, 1 ≤ c → c ≤ 16 → ((f : Int) + c) * 2 ^ s ≤ 128 → (((f : Nat) : Int) * 2 ^ s, ((f : Int) + (c : Nat)) * 2 ^ s) ∈ ks') ∧ ∀ p ∈ ks', Tl p
  | [], ks, y3, y4, _, _, hk => ⟨ks, y3, y4, rfl, Nat.le_refl _, fun _ h => h, fun _ h => (by cases h), hk⟩
  | f :: fs, ks, y3, y4, hf, hl, hk => by
    rw [List.length_cons] at hl
    have l16 : cs16.length = 16 := rfl
    obtain ⟨k1, z, h1, h2, h3, h4, h5⟩ := inner (S := S) (s := s) (f := f) hs (hf f List.mem_cons_self) cs16 ks y4 (fun c h => cs_mem h) (by rw [l16]; omega) hk
    rw [l16] at h2
    obtain ⟨k2, w3, w4, g1, g2, g3, g4, g5⟩ := middle hs fs k1 (some (.int (f : Nat))) z (fun f h => hf f (List.mem_cons_of_mem _ h)) (by omega) h5
    refine ⟨k2, w3, w4, ?_, by rw [List.length_cons]; omega, fun p hp => g3 p (h3 p hp), fun d hd c c1 c2 hz => ?_, g5⟩
    · have body : lb2_law_all_told [some (.int 128), some (.loc S.length), some (.int (s : Nat)), some (.int (f : Nat)), y4] (S ++ [dT6 ks]) = .nx [some (.int 128), some (.loc S.length), some (.int (s : Nat)), some (.int (f : Nat)), z] (S ++ [dT6 k1]) := by
        unfold lb2_law_all_told
        simp [rng_cs, h1]
      rw [List.map_cons]
      exact (for_cons6 body).trans g1
    · rcases List.mem_cons.mp hd with rfl | hd
      · exact g3 _ (h4 c (mem_cs c1 c2) hz)
      · exact g4 d hd c c1 c2 hz
def fsOf (s : Nat) : List Nat := List.range (128 / 2 ^ s + 1)
theorem rng0 (m : Nat) : rangeD 0 m = (List.range m).map fun c => Ev.D.int (c : Nat) := by
  unfold rangeD
  apply List.map_congr_left
  intro i _
  rw [Int.zero_add]
theorem ran_fs {s : Nat} (hs : s ≤ 8) : ran1 [.int (128 / 2 ^ s + 1)] = some ((fsOf s).map fun c => Ev.D.int (c : Nat)) := by
  have e : (128 / 2 ^ s + 1 : Int) = ((128 / 2 ^ s + 1 : Nat) : Int) := by
    rcases s with _ | _ | _ | _ | _ | _ | _ | _ | _ | s <;> first | decide | omega
  have l : 128 / 2 ^ s ≤ 128 := Nat.div_le_self _ _
  unfold fsOf
  rw [e]
  generalize 128 / 2 ^ s = q at l
  rw [ran1_int, if_pos ⟨by omega, by omega⟩, Int.toNat_natCast, rng0]
theorem fs_le {s f : Nat} (h : f ∈ fsOf s) : f ≤ 128 := by
  unfold fsOf at h
  have := List.mem_range.mp h
  have h2 : 128 / 2 ^ s ≤ 128 := Nat.div_le_self _ _
  omega
theorem fs_len (s : Nat) : (fsOf s).length ≤ 129 := by
  unfold fsOf
  rw [List.length_range]
  have h2 : 128 / 2 ^ s ≤ 128 := Nat.div_le_self _ _
  omega
theorem mem_fs {s f c : Nat} (h : ((f : Int) + c) * 2 ^ s ≤ 128) : f ∈ fsOf s := by
  unfold fsOf
  rw [List.mem_range]
  have p : 0 < 2 ^ s := Nat.pow_pos (by decide)
  have h2 : (f + c) * 2 ^ s ≤ 128 := by exact_mod_cast h
  have h3 : f * 2 ^ s ≤ 128 := Nat.le_trans (Nat.mul_le_mul_right _ (Nat.le_add_right _ _)) h2
  have := (Nat.le_div_iff_mul_le p).mpr h3
  omega
theorem outer {S : Store} : ∀ (ss : List Nat) (ks : List (Int × Int)) (y2 y3 y4 : Option Ev.D), (∀ s ∈ ss, s ≤ 8) → ks.length + 3000 * ss.length < 700000 → (∀ p ∈ ks, Tl p) →
    ∃ ks' y2' y3' y4', forL (.nm 2) lb3_law_all_told (ss.map fun c => .int (c : Nat)) [some (.int 128), some (.loc S.length), y2, y3, y4] (S ++ [dT6 ks]) = .nx [some (.int 128), some (.loc S.length), y2', y3', y4'] (S ++ [dT6 ks']) ∧
      (∀ p ∈ ks, p ∈ ks') ∧ (∀ s ∈ ss, ∀ f c : Nat, 1 ≤ c → c ≤ 16 → ((f : Int) + c) * 2 ^ s ≤ 128 → (((f : Nat) : Int) * 2 ^ s, ((f : Int) + (c : Nat)) * 2 ^ s) ∈ ks') ∧ ∀ p ∈ ks', Tl p
  | [], ks, y2, y3, y4, _, _, hk => ⟨ks, y2, y3, y4, rfl, fun _ h => h, fun _ h => (by cases h), hk⟩
  | s :: ss, ks, y2, y3, y4, hs, hl, hk => by
    rw [List.length_cons] at hl
    have s8 := hs s List.mem_cons_self
    have lf := fs_len s
    obtain ⟨k1, z3, z4, h1, h2, h3, h4, h5⟩ := middle (S := S) (s := s) s8 (fsOf s) ks y3 y4 (fun f h => by have := fs_le h; omega) (by omega) hk
    obtain ⟨k2, w2, w3, w4, g1, g3, g4, g5⟩ := outer ss k1 (some (.int (s : Nat))) z3 z4 (fun f h => hs f (List.mem_cons_of_mem _ h)) (by omega) h5
    refine ⟨k2, w2, w3, w4, ?_, fun p hp => g3 p (h3 p hp), fun d hd f c c1 c2 hz => ?_, g5⟩
    · have body : lb3_law_all_told [some (.int 128), some (.loc S.length), some (.int (s : Nat)), y3, y4] (S ++ [dT6 ks]) = .nx [some (.int 128), some (.loc S.length), some (.int (s : Nat)), z3, z4] (S ++ [dT6 k1]) := by
        unfold lb3_law_all_told
        have rf := ran_fs s8
        simp at rf
        simp [rf, h1]
      rw [List.map_cons]
      have st := for_cons6 (n := 2) (xs := ss.map fun c => Ev.D.int (c : Nat)) (e := [some (.int 128), some (.loc S.length), y2, y3, y4]) body
      exact st.trans g1
    · rcases List.mem_cons.mp hd with rfl | hd
      · exact g3 _ (h4 f (mem_fs hz) c c1 c2 hz)
      · exact g4 d hd f c c1 c2 hz
def dE (ks : List (Int × Int)) : Ev.D := .dcT (ks.map kk) (List.replicate ks.length (.bl true))
structure All (ks : List (Int × Int)) : Prop where
  ok : ∀ p ∈ ks, Tl p
  all : ∀ p, Tl p → p ∈ ks
theorem all_told : ∃ ks, All ks ∧ ∀ e : Ev.Env, (rFrzT (rCall g_law_all_told (rCons (rCon (.int 128)) rNil))) e [] = .ok (dE ks) [] := by
  obtain ⟨ks, y2, y3, y4, h1, h3, h4, h5⟩ := outer (S := []) [0, 1, 2, 3, 4, 5, 6, 7, 8] [] none none none (fun s h => by simp only [List.mem_cons, List.not_mem_nil, or_false] at h; omega) (by show 0 + 3000 * 9 < 700000; omega) (fun p h => by cases h)
  refine ⟨ks, ⟨h5, fun p ⟨s, f, c, hs, c1, c2, e, hz⟩ => ?_⟩, fun e => ?_⟩
  · subst e
    exact h4 s (by simp only [List.mem_cons, List.not_mem_nil, or_false]; omega) f c c1 c2 hz
  · have rr : rangeD 0 9 = ([0, 1, 2, 3, 4, 5, 6, 7, 8].map fun c : Nat => Ev.D.int (c : Nat)) := by kernel_rfl
    have g : g_law_all_told [.int 128] [] = .ok (.loc 0) [dT6 ks] := by
      unfold g_law_all_told runDef m_law_all_told
      have h1' := h1
      simp only [List.nil_append, List.length_nil] at h1'
      simp only [show dT6 [] = MO.dT [] [] from rfl] at h1'
      simp [rr]
      simp at h1'
      simp [h1']
    have lo : ∀ n m, lows m (List.replicate n (Ev.D.bl true)) = true := fun n m => by
      induction n with
      | zero => rfl
      | succ n ih => rw [List.replicate_succ]; simp only [lows, D.low, ih, Bool.true_and]
    unfold rFrzT
    rw [rCall_eq, rCons_eq, rCon_eq]
    simp only [bind_ok, rNil_eq, g]
    simp only [frzT, lkT, dT6, List.length_nil, Nat.not_lt_zero, if_false, List.getElem?_cons_zero, lo, if_true, List.take_zero]
    rfl
theorem in_dE {S : Store} {ks : List (Int × Int)} {a b : Int} : dinT S (.tup [.int a, .int b]) (dE ks) = some (.bl (decide ((a, b) ∈ ks))) ∧ dninT S (.tup [.int a, .int b]) (dE ks) = some (.bl (!decide ((a, b) ∈ ks))) := by
  have h := hasT_kk ks (a, b)
  unfold kk at h
  simp only [dinT, dninT, inT, dE, keysOf, Ev.keyOf, Option.bind_some]
  unfold kk
  rw [show hasT (ks.map fun p => [(Sum.inl p.1 : Key), Sum.inl p.2]) [Sum.inl a, Sum.inl b] = _ from h]
  exact ⟨rfl, rfl⟩
theorem Tl.exact {a b : Int} (h : Tl (a, b)) : exb a b = true := by
  obtain ⟨s, f, c, hs, c1, c2, e, hz⟩ := h
  cases e
  have p := pow_le8 hs
  have f0 : (0 : Int) ≤ (f : Int) * 2 ^ s := Int.mul_nonneg (by omega) (by omega)
  exact exb_of f0 (by simp only at hz; omega) (by omega)
theorem Tl.of {l h : Int} (h0 : 0 ≤ l) (h1 : l < h) (h2 : h ≤ 96) : Tl (lhl l h, lhh l h) := by
  obtain ⟨s1, s2, s3⟩ := stp_spec h0 (by omega : h ≤ 4096)
  have c1 := cnt_pos (s := stp l h) h1
  have e : l / 2 ^ stp l h + cnt l h (stp l h) = cdv h (stp l h) := by unfold cnt; omega
  have hb := cdv_lt (h := h) (stp l h)
  have s3' : stp l h ≤ 3 := stp_le h0 (by omega) (by
    unfold cnt cdv
    have : (2 : Int) ^ 3 = 8 := rfl
    rw [this]; omega)
  have p8 : (2 : Int) ^ stp l h ≤ 8 := by
    generalize stp l h = s at s3'
    rcases s with _ | _ | _ | _ | s <;> first | decide | omega
  have d0 : 0 ≤ l / 2 ^ stp l h := (div_bnd (stp l h) h0 (by omega)).1
  refine ⟨stp l h, (l / 2 ^ stp l h).toNat, (cnt l h (stp l h)).toNat, s2, by omega, by omega, ?_, ?_⟩
  · rw [Int.toNat_of_nonneg d0, Int.toNat_of_nonneg (by omega), e]; rfl
  · show cdv h (stp l h) * 2 ^ stp l h ≤ 128
    omega
theorem small {ks : List (Int × Int)} (A : All ks) {l h : Int} {S : Store} (h0 : 0 ≤ l) (h1 : l < h) (h2 : h ≤ 96) : g_law_small_so [.int l, .int h, dE ks] S = .ok (.bl true) S := by
  have lb := least_bounds_int (S := S) h0 h1 (by omega : h ≤ 4096)
  have ex := is_exact_int (S := S) h0 h1 (by omega : h ≤ 4096)
  have ib := in_bits_int (S := S) h0 h1 (by omega : h ≤ 4096)
  have be := bits_eq (S := S) h0 h1 (by omega : h ≤ 4096)
  obtain ⟨w1, w2⟩ := held_holds l h
  have m1 : (lhl l h, lhh l h) ∈ ks := A.all _ (Tl.of h0 h1 h2)
  have d1 := (in_dE (S := S) (ks := ks) (a := lhl l h) (b := lhh l h)).2
  have d2 := (in_dE (S := S) (ks := ks) (a := l) (b := h))
  have m2 : decide ((l, h) ∈ ks) = exb l h := by
    rw [Bool.eq_iff_iff, decide_eq_true_eq]
    constructor
    · exact fun m => (A.ok _ m).exact
    · intro e
      obtain ⟨e1, e2⟩ := exb_iff.mp e
      have := m1
      rw [e1, e2] at this
      exact this
  rw [m2] at d2
  rw [decide_eq_true m1] at d1
  have kt : keysT (dE ks) = some (ks.map fun p => .tup [.int p.1, .int p.2]) := by
    simp only [dE, keysT, List.map_map]
    rfl
  have isd : isiD "tuple" S (.tup [.int (lhl l h), .int (lhh l h)]) = some (.bl true) := rfl
  have i0 : ixD S (.tup [.int (lhl l h), .int (lhh l h)]) (.int 0) = some (.int (lhl l h)) := rfl
  have i1 : ixD S (.tup [.int (lhl l h), .int (lhh l h)]) (.int 1) = some (.int (lhh l h)) := rfl
  obtain ⟨e', S', fl, y4, y5, rfl, rfl⟩ := forL_inv (t := .tp [4, 5]) (body := lb1_law_small_so) (fun e S' => ∃ y4 y5, e = [some (.int l), some (.int h), some (dE ks), some (.tup [.int (lhl l h), .int (lhh l h)]), y4, y5] ∧ S' = S) (ks.map fun p => .tup [.int p.1, .int p.2])
    (e := [some (.int l), some (.int h), some (dE ks), some (.tup [.int (lhl l h), .int (lhh l h)]), none, none]) (S := S)
    (fun d hd e S' ⟨y4, y5, he, hS⟩ => by
      subst he hS
      obtain ⟨p, hp, rfl⟩ := List.mem_map.mp hd
      refine ⟨[some (.int l), some (.int h), some (dE ks), some (.tup [.int (lhl l h), .int (lhh l h)]), some (.int p.1), some (.int p.2)], by simp, _, S', ?_, some (.int p.1), some (.int p.2), rfl, rfl⟩
      obtain ⟨s, f, c, hs, c1, c2, e, hz⟩ := A.ok p hp
      have hw : p.1 ≤ l → h ≤ p.2 → p.1 ≤ lhl l h ∧ lhh l h ≤ p.2 := fun q1 q2 => by
        rw [e] at q1 q2 ⊢
        exact held_within h0 (by omega) q1 q2 (by omega)
      unfold lb1_law_small_so
      by_cases q1 : p.1 ≤ l
      · by_cases q2 : h ≤ p.2
        · obtain ⟨q3, q4⟩ := hw q1 q2
          simp [q1, q2, i0, i1, q3, q4]
        · simp [q1, q2]
      · simp [q1]) ⟨none, none, rfl, rfl⟩
  unfold g_law_small_so runDef m_law_small_so
  cases hx : exb l h with
  | true =>
    rw [hx] at ex d2
    simp [lb, isd, d1, i0, i1, w1, w2, h1, kt, fl, ex, isNot, d2, ib, be]
  | false =>
    rw [hx] at ex d2
    simp [lb, isd, d1, i0, i1, w1, w2, h1, kt, fl, ex, isNot, d2, ib, be]
theorem repr_t {S : Store} : reprD S [.bl true] = some (.str (Str.ofString "True")) := by kernel_rfl
theorem repr_f {S : Store} : reprD S [.bl false] = some (.str (Str.ofString "False")) := by kernel_rfl
theorem turn6 {n : Nat} {x0 x1 x2 x4 x5 x6 x7 : Option Ev.D} {S : Store} (hp : PoolAt S n) : ∃ S' y4 y5 y7, lb1_law [x0, x1, x2, some (.loc n), x4, x5, x6, x7] S = .nx [x0, x1, x2, some (.loc n), y4, y5, x6, y7] S' ∧ PoolAt S' n := by
  obtain ⟨r1, S1, t1, a1, b1, p1, _⟩ := take_ok 4096 hp (by omega) (by omega)
  obtain ⟨r2, S2, t2, a2, b2, p2, _⟩ := take_ok 4 p1 (by omega) (by omega)
  obtain ⟨l, hl, l0, l1⟩ : ∃ l, ixD S2 (.lst [.int 0, .int r1, .int 4095, .int 1]) (.int r2) = some (.int l) ∧ 0 ≤ l ∧ l < 4096 := by
    have : r2 = 0 ∨ r2 = 1 ∨ r2 = 2 ∨ r2 = 3 := by omega
    rcases this with rfl | rfl | rfl | rfl
    · exact ⟨0, rfl, by omega, by omega⟩
    · exact ⟨r1, rfl, by omega, by omega⟩
    · exact ⟨4095, rfl, by omega, by omega⟩
    · exact ⟨1, rfl, by omega, by omega⟩
  obtain ⟨r3, S3, t3, a3, b3, p3, _⟩ := take_ok (4096 - l) p2 (by omega) (by omega)
  obtain ⟨r4, S4, t4, a4, b4, p4, _⟩ := take_ok 4 p3 (by omega) (by omega)
  have mi : minD2 S3 [.int 16, .int (4095 - l)] = some (.int (if 4095 - l < 16 then 4095 - l else 16)) := by simp
  obtain ⟨x, hx, x0', x1'⟩ : ∃ x, ixD S4 (.lst [.int 0, .int r3, .int (4095 - l), .int (if 4095 - l < 16 then 4095 - l else 16)]) (.int r4) = some (.int x) ∧ 0 ≤ x ∧ x ≤ 4095 - l := by
    have : r4 = 0 ∨ r4 = 1 ∨ r4 = 2 ∨ r4 = 3 := by omega
    rcases this with rfl | rfl | rfl | rfl
    · exact ⟨0, rfl, by omega, by omega⟩
    · exact ⟨r3, rfl, by omega, by omega⟩
    · exact ⟨4095 - l, rfl, by omega, by omega⟩
    · refine ⟨_, rfl, ?_, ?_⟩ <;> split <;> omega
  have h1 : l < l + 1 + x := by omega
  have h2 : l + 1 + x ≤ 4096 := by omega
  have ll := law_least_eq (S := S4) l0 h1 h2
  have lb := least_bounds_int (S := S4) l0 h1 h2
  have ex := is_exact_int (S := S4) l0 h1 h2
  have ib := in_bits_int (S := S4) l0 h1 h2
  have be := bits_eq (S := S4) l0 h1 h2
  have eqq : PyData.eqv (.tuple [.int (lhl l (l + 1 + x)), .int (lhh l (l + 1 + x))]) (.tuple [.int l, .int (l + 1 + x)]) = exb l (l + 1 + x) := by
    simp [PyData.eqv, PyData.eqvAll, exb]
  obtain ⟨s1, s2, s3⟩ := stp_spec l0 h2
  have e1 : lhl l (l + 1 + x) / 2 ^ stp l (l + 1 + x) = l / 2 ^ stp l (l + 1 + x) := div_mul' _ _
  have e2 : (lhh l (l + 1 + x) - lhl l (l + 1 + x)) / 2 ^ stp l (l + 1 + x) = cnt l (l + 1 + x) (stp l (l + 1 + x)) := by
    unfold lhh lhl cnt
    rw [← Int.sub_mul, div_mul']
  refine ⟨S4, some (.int l), some (.int (l + 1 + x)), some (.tup [.int (lhl l (l + 1 + x)), .int (lhh l (l + 1 + x)), .int (stp l (l + 1 + x))]), ?_, p4⟩
  have i7 : ∀ i : Nat, i < 3 → ixD S4 (.tup [.int (lhl l (l + 1 + x)), .int (lhh l (l + 1 + x)), .int (stp l (l + 1 + x))]) (.int (i : Nat)) = [Ev.D.int (lhl l (l + 1 + x)), .int (lhh l (l + 1 + x)), .int (stp l (l + 1 + x))][i]? := fun i hi => by
    have : i = 0 ∨ i = 1 ∨ i = 2 := by omega
    rcases this with rfl | rfl | rfl <;> rfl
  have j0 : ixD S4 (.tup [.int (lhl l (l + 1 + x)), .int (lhh l (l + 1 + x)), .int (stp l (l + 1 + x))]) (.int 0) = some (.int (lhl l (l + 1 + x))) := rfl
  have j1 : ixD S4 (.tup [.int (lhl l (l + 1 + x)), .int (lhh l (l + 1 + x)), .int (stp l (l + 1 + x))]) (.int 1) = some (.int (lhh l (l + 1 + x))) := rfl
  have j2 : ixD S4 (.tup [.int (lhl l (l + 1 + x)), .int (lhh l (l + 1 + x)), .int (stp l (l + 1 + x))]) (.int 2) = some (.int (stp l (l + 1 + x))) := rfl
  have sl : slD S4 (.tup [.int (lhl l (l + 1 + x)), .int (lhh l (l + 1 + x)), .int (stp l (l + 1 + x))]) none (some 2) = some (.tup [.int (lhl l (l + 1 + x)), .int (lhh l (l + 1 + x))]) := rfl
  have np : ∀ (e : Ev.Env) (S : Store), rNoP e S = .ok none S := fun _ _ => rfl
  generalize hh : l + 1 + x = h at *
  have v1 : PyData.eqvAll [.int (lhl l h), .int (lhh l h)] [.int (lhl l h), .int (lhh l h)] = true := by simp [PyData.eqvAll, PyData.eqv]
  have v2 : PyData.eqvAll [.int (lhl l h), .int (lhh l h)] [.int l, .int h] = exb l h := by simp [PyData.eqvAll, PyData.eqv, exb]
  have v3 : PyData.eqvAll [.int (stp l h), .int (l / 2 ^ stp l h), .int (cnt l h (stp l h))] [.int (stp l h), .int (l / 2 ^ stp l h), .int (cnt l h (stp l h))] = true := by simp [PyData.eqvAll, PyData.eqv]
  unfold lb1_law
  unfold lib at be ib
  cases hxb : exb l h with
  | true =>
    rw [hxb] at ex v2
    simp [t1, t2, hl, t3, mi, t4, hx, hh, ll, lb, sl, v1, ex, v2, ib, j0, j1, j2, e1, e2, v3, be, lib, repr_t, repr_f]
  | false =>
    rw [hxb] at ex v2
    simp [t1, t2, hl, t3, mi, t4, hx, hh, ll, lb, sl, v1, ex, v2, ib, j0, j1, j2, e1, e2, v3, be, lib, repr_t, repr_f]
theorem cell6 {ks : List (Int × Int)} (A : All ks) {ns : List Int} {k : Nat} {x3 x4 x5 x6 x7 : Option Ev.D} {S : Store} (hk : k < 1000) :
    ∃ S' y3 y4 y5 y6 y7, lb2_law [some (.lst (ns.map Ev.D.int)), some (dE ks), some (.int k), x3, x4, x5, x6, x7] S = .nx [some (.lst (ns.map Ev.D.int)), some (dE ks), some (.int k), y3, y4, y5, y6, y7] S' := by
  obtain ⟨a, b, ha, hb, hb2, hp⟩ := pool_ok ns k S (by omega) (by omega)
  have p0 : PoolAt (S ++ [.lst [.int a, .int b]]) S.length := ⟨a, b, by simp, ha, hb, hb2⟩
  obtain ⟨r1, S1, t1, a1, b1, p1, _⟩ := take_ok 96 p0 (by omega) (by omega)
  obtain ⟨r2, S2, t2, a2, b2, p2, _⟩ := take_ok (96 - r1) p1 (by omega) (by omega)
  have sm := small A (l := r1) (h := r1 + 1 + r2) (S := S2) (by omega) (by omega) (by omega)
  obtain ⟨e', S', fl, pS, y4, y5, y6, y7, rfl⟩ := forL_inv (t := .nm 6) (body := lb1_law) (fun e S' => PoolAt S' S.length ∧ ∃ y4 y5 y6 y7, e = [some (.lst (ns.map Ev.D.int)), some (dE ks), some (.int k), some (.loc S.length), y4, y5, y6, y7]) (rangeD 0 8)
    (e := [some (.lst (ns.map Ev.D.int)), some (dE ks), some (.int k), some (.loc S.length), some (.int r1), some (.int (r1 + 1 + r2)), x6, x7]) (S := S2)
    (fun d hd e S' ⟨hS, y4, y5, y6, y7, he⟩ => by
      subst he
      obtain ⟨S3, z4, z5, z7, h3, p3⟩ := turn6 (x0 := some (.lst (ns.map Ev.D.int))) (x1 := some (dE ks)) (x2 := some (.int k)) (x4 := y4) (x5 := y5) (x6 := some d) (x7 := y7) hS
      exact ⟨_, rfl, _, S3, h3, p3, _, _, _, _, rfl⟩) ⟨p2, _, _, _, _, rfl⟩
  refine ⟨S', some (.loc S.length), y4, y5, y6, y7, ?_⟩
  unfold lb2_law
  simp [hp, t1, t2, sm, fl]
theorem law_true (ns : List Int) (hl : ns.length ≤ 63) : ∃ S, g_law [.lst (ns.map Ev.D.int)] [] = .ok (.bl true) S := by
  obtain ⟨ks, A, al⟩ := all_told
  obtain ⟨m, hm, hr⟩ := ran_cells ns.length 10 (by omega) (by omega)
  obtain ⟨e', S', h1, y2, y3, y4, y5, y6, y7, rfl⟩ := forL_inv (t := .nm 2) (body := lb2_law) (fun e S' => ∃ y2 y3 y4 y5 y6 y7, e = [some (.lst (ns.map Ev.D.int)), some (dE ks), y2, y3, y4, y5, y6, y7]) (rangeD 0 m)
    (e := [some (.lst (ns.map Ev.D.int)), some (dE ks), none, none, none, none, none, none]) (S := [])
    (fun d hd e S' ⟨y2, y3, y4, y5, y6, y7, he⟩ => by
      obtain ⟨i, hi, rfl⟩ := mem_rangeD hd
      subst he
      rw [Int.zero_add]
      obtain ⟨S3, z3, z4, z5, z6, z7, h2⟩ := cell6 A (ns := ns) (k := i) (x3 := y3) (x4 := y4) (x5 := y5) (x6 := y6) (x7 := y7) (S := S') (by omega)
      exact ⟨_, rfl, _, S3, h2, _, _, _, _, _, _, rfl⟩) ⟨_, _, _, _, _, _, rfl⟩
  refine ⟨S', ?_⟩
  unfold g_law runDef m_law
  simp at hr
  simp [al, hr, h1]
end Lw
open PySem PySem.W PyProof.Rows
set_option maxHeartbeats 0 in
theorem PySem.Challenge.cw_sealedreach_k06_least_bounds_told_holds : PySem.Challenge.rw_sealedreach_k06_least_bounds_told.Holds := by
  w_on; o_law; k_head; (case hw => w_witness2)
  k_fill
  refine Ev.walk_evG (l := PySem.Challenge.rw_sealedreach_k06_least_bounds_told) (n := 63) (k := 5) (x := "_law_script") (g := Lw.g_law) rfl (by decide) rfl ⟨rfl, by decide, by decide⟩ (fun w h Y => PySem.W.kIn_of Y) ?F Lw.law_true
  case F =>
    intro w mg fa h KX G hmg
    refine' Lw.all_mk KX G hmg ?a0 ?l0 ?o0 ?p0 ?a1 ?l1 ?o1 ?p1 ?a2 ?l2 ?o2 ?p2 ?a3 ?l3 ?o3 ?p3 ?a4 ?l4 ?o4 ?p4 ?a5 ?l5 ?o5 ?p5 ?a6 ?l6 ?o6 ?p6 ?a7 ?l7 ?o7 ?p7 ?a8 ?l8 ?o8 ?p8 ?a9 ?l9 ?o9 ?p9 ?a10 ?l10 ?o10 ?p10 ?a11 ?l11 ?o11 ?p11 ?a12 ?l12 ?o12 ?p12 ?a13 ?l13 ?o13 ?p13 ?a14 ?l14 ?o14 ?p14 ?k_CELLS ?k_MOST_COUNT ?z_abs ?z_bool ?z_int ?z_isinstance ?z_len ?z_max ?z_min ?z_range ?z_repr ?z_sum ?z_tuple ?g_ReachError ?g_NoBounds ?x_NoBounds ?p_NoBounds ?u_NoBounds ?y_NoBounds
    (case a0 => first | k_is | rfl); (case l0 => first | k_is | rfl); (case o0 => first | k_is | rfl); (case p0 => first | k_is | rfl); (case a1 => first | k_is | rfl); (case l1 => first | k_is | rfl)
    (case o1 => first | k_is | rfl); (case p1 => first | k_is | rfl); (case a2 => first | k_is | rfl); (case l2 => first | k_is | rfl); (case o2 => first | k_is | rfl); (case p2 => first | k_is | rfl)
    (case a3 => first | k_is | rfl); (case l3 => first | k_is | rfl); (case o3 => first | k_is | rfl); (case p3 => first | k_is | rfl); (case a4 => first | k_is | rfl); (case l4 => first | k_is | rfl)
    (case o4 => first | k_is | rfl); (case p4 => first | k_is | rfl); (case a5 => first | k_is | rfl); (case l5 => first | k_is | rfl); (case o5 => first | k_is | rfl); (case p5 => first | k_is | rfl)
    (case a6 => first | k_is | rfl); (case l6 => first | k_is | rfl); (case o6 => first | k_is | rfl); (case p6 => first | k_is | rfl); (case a7 => first | k_is | rfl); (case l7 => first | k_is | rfl)
    (case o7 => first | k_is | rfl); (case p7 => first | k_is | rfl); (case a8 => first | k_is | rfl); (case l8 => first | k_is | rfl); (case o8 => first | k_is | rfl); (case p8 => first | k_is | rfl)
    (case a9 => first | k_is | rfl); (case l9 => first | k_is | rfl); (case o9 => first | k_is | rfl); (case p9 => first | k_is | rfl); (case a10 => first | k_is | rfl); (case l10 => first | k_is | rfl)
    (case o10 => first | k_is | rfl); (case p10 => first | k_is | rfl); (case a11 => first | k_is | rfl); (case l11 => first | k_is | rfl); (case o11 => first | k_is | rfl); (case p11 => first | k_is | rfl)
    (case a12 => first | k_is | rfl); (case l12 => first | k_is | rfl); (case o12 => first | k_is | rfl); (case p12 => first | k_is | rfl); (case a13 => first | k_is | rfl); (case l13 => first | k_is | rfl)
    (case o13 => first | k_is | rfl); (case p13 => first | k_is | rfl); (case a14 => first | k_is | rfl); (case l14 => first | k_is | rfl); (case o14 => first | k_is | rfl); (case p14 => first | k_is | rfl)
    (case k_CELLS => first | k_is | rfl); (case k_MOST_COUNT => first | k_is | rfl); (case z_abs => first | k_is | rfl); (case z_bool => first | k_is | rfl); (case z_int => first | k_is | rfl); (case z_isinstance => first | k_is | rfl)
    (case z_len => first | k_is | rfl); (case z_max => first | k_is | rfl); (case z_min => first | k_is | rfl); (case z_range => first | k_is | rfl); (case z_repr => first | k_is | rfl); (case z_sum => first | k_is | rfl)
    (case z_tuple => first | k_is | rfl); (case g_ReachError => first | k_is | rfl); (case g_NoBounds => first | k_is | rfl); (case x_NoBounds => k_exc); (case p_NoBounds => first | k_is | rfl); (case u_NoBounds => first | k_is | rfl)
    (case y_NoBounds => first | k_is | rfl)
