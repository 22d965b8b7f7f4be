import PyProof.Rows.All
import Wide.All
import OpenK.AllK
import Wide.FinOn
import HandS.ForMost
import HandS.ForExc
import HandS.IsInst
import HandS.Flow
import HandS.TupLe
import HandS.TupAny
import HandS.WideBits
import HandS.Wide
import HandS.Style
import KE.DataEq
import HandS.ExcCtx
import HandS.ExcIs
import HandS.EndBits
import KE.KExcIs
import PyProof.Draws
import PyProof.EnumMake
import HandS.Zip
import KE.GoesMore
import HandS.Text
import HandS.Conv
import HandS.Replace
import KE.DatumIndex
import PyProof.ReprRoads
import HandS.Defaults
import HandS.TryOnly
import PyProof.ListStr
import PyProof.TupleOfGen
import PyProof.Rows.StrRev
import HandS.ExcInit
import HandS.ExcField
import HandS.StrSplit
import HandS.ReplaceLit
import HandS.FStr
import HandS.Dict
import HandS.ExcOwn
import HandS.RaiseMore
import HandS.WrittenGet
import PyProof.AutoListH
import PyProof.ListMulRoad
import KE.KUnpackStar
import HandS.SetFor
import HandS.Strs
import HandS.SortOrd
import HandS.SortInts
import HandS.TupMul
import PyProof.NeKinds
import PyProof.Rows.AssignMoreSeq
import HandS.DictComp
import HandS.More
import HandS.OwnEq
import HandS.MakeKwOnly
import HandS.SortRule
import HandS.HotCalls
import HandS.ExcInitHot
import HandS.Deep
import KE.KEqNest
import PyProof.InstNe
import HandS.TryMany
import HandS.Spec
import HandS.ExcValue
import PySem.Challenge.RW_sealedreach_k05_refusals_apart
set_option Elab.async false
set_option linter.all false
set_option maxRecDepth 100000
set_option maxHeartbeats 4000000
namespace Ev
open PySem PySem.Spec PyProof.Rows L2
inductive D where
  | non
  | bl (b : Bool)
  | int (i : Int)
  | str (x : Str)
  | tup (xs : List D)
  | lst (xs : List D)
  | dct (ks : List Key) (xs : List D)
  | loc (n : Nat)
  | dcf (ks : List Key) (xs : List D)
  | exn (c : Nat) (ns : List Str) (xs : List D)
  | dcT (ks : List (List Key)) (xs : List D)
  deriving Inhabited
inductive MO where
  | lst (xs : List D)
  | dK (ks : List Key) (xs : List D)
  | ins (c : Nat) (ns : List Str) (xs : List D)
  | dT (ks : List (List Key)) (xs : List D)
  | dL (ks : List Key) (xs : List D)
abbrev Store := List MO
abbrev Env := List (Option D)
structure Exn where
  c : Nat
  ns : List Str
  xs : List D
inductive Res (A : Type) where
  | ok (a : A) (S : Store)
  | err (x : Exn) (S : Store)
  | bad
def Res.bind {A B : Type} : Res A → (A → Store → Res B) → Res B
  | .ok a S, f => f a S
  | .err x S, _ => .err x S
  | .bad, _ => .bad
def ofO {A : Type} : Option A → Store → Res A
  | some a, S => .ok a S
  | none, _ => .bad
structure Io where
  l : List Addr
  h : List (Addr × HO)
  k : List (Addr × (Obj × HO))
def Io.all (io : Io) : List Addr := io.l ++ io.h.map (·.1)
def Fz (io : Io) (H : Hp) : Hp := fun a => if a ∈ io.all then none else H a
theorem Fz_out {io : Io} {H : Hp} {a : Addr} (h : a ∉ io.all) : Fz io H a = H a := by unfold Fz; rw [if_neg h]
theorem Fz_same (io : Io) (H : Hp) : Same (Fz io H) H := fun b o e => by
  unfold Fz at e
  split at e
  · cases e
  · exact e
theorem sqT_same {K : PySem.W.Frag} {H H' : Hp} {a : Addr} {xs : List V} (e : Same H H') (h : SqT K H a xs) : SqT K H' a xs := by
  rcases h with (h | ⟨o, h⟩) | h
  · exact .inl (.inl (e _ _ h))
  · exact .inl (.inr ⟨o, e _ _ h⟩)
  · exact .inr h
def exH (a : Addr) (cls : Value) (d : Option Addr) : HO := .ext fun h => ∃ oe vs, h.get? a = some oe ∧ oe.cls = cls ∧ oe.dict = d ∧ oe.data = .fields vs
variable (K : PySem.W.Frag) (C : Nat → Addr)
mutual
inductive Rep (io : Io) (F : Hp) : D → V → Prop
  | non : Rep io F .non .non
  | bl (b : Bool) : Rep io F (.bl b) (.bl b)
  | int (i : Int) : Rep io F (.int i) (.int i)
  | str (x : Str) : Rep io F (.str x) (.str x)
  | tup {a : Addr} {vs : List V} {ds : List D} : SqT K F a vs → Reps io F ds vs → Rep io F (.tup ds) (.ref a)
  | lst {a : Addr} {vs : List V} {ds : List D} : SqL K F a vs → Reps io F ds vs → Rep io F (.lst ds) (.ref a)
  | dct {a : Addr} {kvs : List (Key × V)} {ks : List Key} {vs : List V} {ds : List D} : F a = some (.dK kvs) → kvs.map (·.1) = ks → kvs.map (·.2) = vs → Reps io F ds vs → Rep io F (.dct ks ds) (.ref a)
  | loc {n : Nat} {a : Addr} : io.l[n]? = some a → Rep io F (.loc n) (.ref a)
  | dcf {a : Addr} {o : Obj} {kvs : List (Key × V)} {ks : List Key} {vs : List V} {ds : List D} : F a = some (.frz o (.dK kvs)) → kvs.map (·.1) = ks → kvs.map (·.2) = vs → Reps io F ds vs → Rep io F (.dcf ks ds) (.ref a)
  | dcT {a : Addr} {o : Obj} {kvs : List (List Key × V)} {ks : List (List Key)} {vs : List V} {ds : List D} : F a = some (.frz o (.dT kvs)) → kvs.map (·.1) = ks → kvs.map (·.2) = vs → Reps io F ds vs → Rep io F (.dcT ks ds) (.ref a)
  | exn0 {c : Nat} {a : Addr} : F a = some (exH a (.ref (C c)) none) → Rep io F (.exn c [] []) (.ref a)
  | exnF {c : Nat} {a d : Addr} {fs : List (Str × V)} {ns : List Str} {vs : List V} {ds : List D} : F a = some (exH a (.ref (C c)) (some d)) → F d = some (.xd fs) → fs.map (·.1) = ns → fs.map (·.2) = vs → Reps io F ds vs → Rep io F (.exn c ns ds) (.ref a)
inductive Reps (io : Io) (F : Hp) : List D → List V → Prop
  | nil : Reps io F [] []
  | cons {d : D} {ds : List D} {v : V} {vs : List V} : Rep io F d v → Reps io F ds vs → Reps io F (d :: ds) (v :: vs)
end
variable {K C}
structure Ext (io : Io) (H : Hp) (io' : Io) (H' : Hp) : Prop where
  pre : ∀ (n : Nat) (a : Addr), io.l[n]? = some a → io'.l[n]? = some a
  hid : io'.h = io.h
  same : Same (Fz io H) (Fz io' H')
  kep : io'.k = io.k
theorem Ext.refl (io : Io) (H : Hp) : Ext io H io H := ⟨fun _ _ h => h, rfl, fun _ _ h => h, rfl⟩
theorem Ext.trans {io io1 io2 : Io} {H H1 H2 : Hp} (a : Ext io H io1 H1) (b : Ext io1 H1 io2 H2) : Ext io H io2 H2 :=
  ⟨fun n x h => b.pre n x (a.pre n x h), b.hid.trans a.hid, a.same.trans b.same, b.kep.trans a.kep⟩
mutual
theorem Rep.mono {io io' : Io} {F F' : Hp} (hp : ∀ (n : Nat) (a : Addr), io.l[n]? = some a → io'.l[n]? = some a) (hs : Same F F') : ∀ {d : D} {v : V}, Rep K C io F d v → Rep K C io' F' d v
  | _, _, .non => .non
  | _, _, .bl b => .bl b
  | _, _, .int i => .int i
  | _, _, .str x => .str x
  | _, _, .tup h r => .tup (sqT_same hs h) (Reps.mono hp hs r)
  | _, _, .lst h r => .lst (hs.seq h) (Reps.mono hp hs r)
  | _, _, .dct h e1 e2 r => .dct (hs _ _ h) e1 e2 (Reps.mono hp hs r)
  | _, _, .loc h => .loc (hp _ _ h)
  | _, _, .dcf h e1 e2 r => .dcf (hs _ _ h) e1 e2 (Reps.mono hp hs r)
  | _, _, .dcT h e1 e2 r => .dcT (hs _ _ h) e1 e2 (Reps.mono hp hs r)
  | _, _, .exn0 h => .exn0 (hs _ _ h)
  | _, _, .exnF h h2 e1 e2 r => .exnF (hs _ _ h) (hs _ _ h2) e1 e2 (Reps.mono hp hs r)
theorem Reps.mono {io io' : Io} {F F' : Hp} (hp : ∀ (n : Nat) (a : Addr), io.l[n]? = some a → io'.l[n]? = some a) (hs : Same F F') : ∀ {ds : List D} {vs : List V}, Reps K C io F ds vs → Reps K C io' F' ds vs
  | _, _, .nil => .nil
  | _, _, .cons h r => .cons (Rep.mono hp hs h) (Reps.mono hp hs r)
end
theorem Rep.ext {io io' : Io} {H H' : Hp} (e : Ext io H io' H') {d : D} {v : V} (r : Rep K C io (Fz io H) d v) : Rep K C io' (Fz io' H') d v := r.mono e.pre e.same
theorem Reps.ext {io io' : Io} {H H' : Hp} (e : Ext io H io' H') {d : List D} {v : List V} (r : Reps K C io (Fz io H) d v) : Reps K C io' (Fz io' H') d v := r.mono e.pre e.same
theorem Reps.length {io : Io} {F : Hp} : ∀ {ds : List D} {vs : List V}, Reps K C io F ds vs → ds.length = vs.length
  | _, _, .nil => rfl
  | _, _, .cons _ r => by simp [Reps.length r]
theorem Reps.get {io : Io} {F : Hp} : ∀ {ds : List D} {vs : List V} {i : Nat} {d : D}, Reps K C io F ds vs → ds[i]? = some d → ∃ v, vs[i]? = some v ∧ Rep K C io F d v
  | _, _, 0, _, .cons h _, e => by simp at e; subst e; exact ⟨_, rfl, h⟩
  | _, _, i + 1, d, .cons _ r, e => by
    obtain ⟨v, h1, h2⟩ := Reps.get (i := i) (d := d) r (by simpa using e)
    exact ⟨v, by simpa using h1, h2⟩
theorem Reps.getV {io : Io} {F : Hp} : ∀ {ds : List D} {vs : List V} {i : Nat} {v : V}, Reps K C io F ds vs → vs[i]? = some v → ∃ d, ds[i]? = some d ∧ Rep K C io F d v
  | _, _, 0, _, .cons h _, e => by simp at e; subst e; exact ⟨_, rfl, h⟩
  | _, _, i + 1, d, .cons _ r, e => by
    obtain ⟨v, h1, h2⟩ := Reps.getV (i := i) (v := d) r (by simpa using e)
    exact ⟨v, by simpa using h1, h2⟩
theorem Reps.append {io : Io} {F : Hp} : ∀ {ds es : List D} {vs us : List V}, Reps K C io F ds vs → Reps K C io F es us → Reps K C io F (ds ++ es) (vs ++ us)
  | _, _, _, _, .nil, s => s
  | _, _, _, _, .cons h r, s => .cons h (Reps.append r s)
theorem Reps.set {io : Io} {F : Hp} {d : D} {v : V} (h : Rep K C io F d v) : ∀ {ds : List D} {vs : List V} (i : Nat), Reps K C io F ds vs → Reps K C io F (ds.set i d) (vs.set i v)
  | _, _, _, .nil => .nil
  | _, _, 0, .cons _ r => .cons h r
  | _, _, i + 1, .cons q r => .cons q (Reps.set h i r)
theorem Reps.take {io : Io} {F : Hp} : ∀ {ds : List D} {vs : List V} (n : Nat), Reps K C io F ds vs → Reps K C io F (ds.take n) (vs.take n)
  | _, _, 0, _ => .nil
  | _, _, _ + 1, .nil => .nil
  | _, _, n + 1, .cons h r => .cons h (Reps.take n r)
theorem Reps.drop {io : Io} {F : Hp} : ∀ {ds : List D} {vs : List V} (n : Nat), Reps K C io F ds vs → Reps K C io F (ds.drop n) (vs.drop n)
  | _, _, 0, r => r
  | _, _, _ + 1, .nil => .nil
  | _, _, n + 1, .cons _ r => Reps.drop n r
variable (K C) in
def ORep (io : Io) (H : Hp) (a : Addr) : MO → Prop
  | .lst ds => ∃ vs, H a = some (.lst vs) ∧ Reps K C io (Fz io H) ds vs
  | .dK ks ds => ∃ kvs, H a = some (.dK kvs) ∧ kvs.map (·.1) = ks ∧ Reps K C io (Fz io H) ds (kvs.map (·.2))
  | .dL ks ds => ∃ kvs o, io.k.lookup a = some (o, .dK kvs) ∧ H a = some (.frz o (.dK kvs)) ∧ kvs.map (·.1) = ks ∧ Reps K C io (Fz io H) ds (kvs.map (·.2))
  | .dT ks ds => ∃ kvs, H a = some (.dT kvs) ∧ kvs.map (·.1) = ks ∧ Reps K C io (Fz io H) ds (kvs.map (·.2))
  | .ins c ns ds => ∃ dx fs, H a = some (.ins (C c) dx fs) ∧ H dx = some (.own a) ∧ fs.map (·.1) = ns ∧ Reps K C io (Fz io H) ds (fs.map (·.2))
def isMut : HO → Bool
  | .lst _ => true
  | .dK _ => true
  | .dT _ => true
  | .frz _ (.dK _) => true
  | .ins _ _ _ => true
  | _ => false
variable (K C) in
structure Den (io : Io) (S : Store) (H : Hp) : Prop where
  len : io.l.length = S.length
  nd : io.all.Nodup
  obj : ∀ (n : Nat) (o : MO) (a : Addr), S[n]? = some o → io.l[n]? = some a → ORep K C io H a o
  hid : ∀ p ∈ io.h, H p.1 = some p.2 ∧ isMut p.2 = true
theorem ORep.at {io : Io} {H : Hp} {a : Addr} {o : MO} (h : ORep K C io H a o) : ∃ u, H a = some u ∧ isMut u = true := by
  cases o with
  | lst ds => obtain ⟨vs, e, _⟩ := h; exact ⟨_, e, rfl⟩
  | dK ks ds => obtain ⟨vs, e, _⟩ := h; exact ⟨_, e, rfl⟩
  | dT ks ds => obtain ⟨vs, e, _⟩ := h; exact ⟨_, e, rfl⟩
  | dL ks ds => obtain ⟨vs, o, _, e, _⟩ := h; exact ⟨_, e, rfl⟩
  | ins c ns ds => obtain ⟨_, _, e, _⟩ := h; exact ⟨_, e, rfl⟩
theorem Den.at {io : Io} {S : Store} {H : Hp} (d : Den K C io S H) {a : Addr} (h : a ∈ io.all) : ∃ u, H a = some u ∧ isMut u = true := by
  rcases List.mem_append.mp h with h | h
  · obtain ⟨n, hn, e⟩ := List.getElem_of_mem h
    have hS : n < S.length := by rw [← d.len]; exact hn
    exact (d.obj n S[n] a (by simp [hS]) (by simp [hn, e])).at
  · obtain ⟨p, hp, rfl⟩ := List.mem_map.mp h
    exact ⟨p.2, d.hid p hp⟩
theorem Den.fresh {io : Io} {S : Store} {H : Hp} (d : Den K C io S H) {p : Addr} (h : H p = none) : p ∉ io.all := fun z => by
  obtain ⟨u, e, _⟩ := d.at z
  rw [h] at e; cases e
theorem Den.notOwn {io : Io} {S : Store} {H : Hp} (d : Den K C io S H) {p x : Addr} (h : H p = some (.own x)) : p ∉ io.all := fun z => by
  obtain ⟨u, e, m⟩ := d.at z
  rw [h] at e; cases e; cases m
theorem mem_all {io : Io} {n : Nat} {a : Addr} (h : io.l[n]? = some a) : a ∈ io.all := List.mem_append_left _ (List.mem_of_getElem? h)
theorem Fz_upd_new {io : Io} {H : Hp} {p : Addr} {o : HO} (hp : p ∉ io.all) : Fz io (upd H p o) = upd (Fz io H) p o := by
  funext b
  unfold Fz upd
  by_cases e : b = p
  · subst e; simp [hp]
  · simp [e]
theorem Fz_upd_old {io : Io} {H : Hp} {p : Addr} {o : HO} (hp : p ∈ io.all) : Fz io (upd H p o) = Fz io H := by
  funext b
  unfold Fz upd
  by_cases e : b = p
  · subst e; simp [hp]
  · simp [e]
def Io.add (io : Io) (p : Addr) : Io := ⟨io.l ++ [p], io.h, io.k⟩
theorem mem_add {io : Io} {p b : Addr} : b ∈ (io.add p).all ↔ b = p ∨ b ∈ io.all := by
  unfold Io.add Io.all
  simp only [List.mem_append, List.mem_singleton]
  constructor
  · rintro ((h | h) | h)
    · exact .inr (.inl h)
    · exact .inl h
    · exact .inr (.inr h)
  · rintro (h | h | h)
    · exact .inl (.inr h)
    · exact .inl (.inl h)
    · exact .inr h
theorem Fz_upd_loc {io : Io} {H : Hp} {p : Addr} {o : HO} (hp : H p = none) : Fz (io.add p) (upd H p o) = Fz io H := by
  funext b
  unfold Fz upd
  simp only [mem_add]
  by_cases e : b = p
  · subst e; simp [hp]
  · simp [e]
theorem same_new {H : Hp} {p : Addr} {o : HO} (h : H p = none) : Same H (upd H p o) := fun b x e => by
  rw [upd_ne (ne_of_none e h)]; exact e
theorem Ext.new {io : Io} {S : Store} {H : Hp} {p : Addr} {o : HO} (d : Den K C io S H) (h : H p = none) : Ext io H io (upd H p o) :=
  ⟨fun _ _ e => e, rfl, by rw [Fz_upd_new (d.fresh h)]; exact same_new (by rw [Fz_out (d.fresh h)]; exact h), rfl⟩
theorem ORep.mono {io io' : Io} {S : Store} {H H' : Hp} {a : Addr} {o : MO} (d : Den K C io S H) (e : Ext io H io' H') (ha : H' a = H a) (h : ORep K C io H a o) : ORep K C io' H' a o := by
  cases o with
  | lst ds => obtain ⟨vs, q, r⟩ := h; exact ⟨vs, by rw [ha]; exact q, r.ext e⟩
  | dK ks ds => obtain ⟨vs, q, q2, r⟩ := h; exact ⟨vs, by rw [ha]; exact q, q2, r.ext e⟩
  | dT ks ds => obtain ⟨vs, q, q2, r⟩ := h; exact ⟨vs, by rw [ha]; exact q, q2, r.ext e⟩
  | dL ks ds => obtain ⟨vs, o, q0, q, q2, r⟩ := h; exact ⟨vs, o, by rw [e.kep]; exact q0, by rw [ha]; exact q, q2, r.ext e⟩
  | ins c ns ds =>
    obtain ⟨dx, fs, q, q1, q2, r⟩ := h
    refine ⟨dx, fs, by rw [ha]; exact q, ?_, q2, r.ext e⟩
    exact Fz_same _ _ _ _ (e.same dx _ (by rw [Fz_out (d.notOwn q1)]; exact q1))
theorem hid_mem {io : Io} {p : Addr × HO} (h : p ∈ io.h) : p.1 ∈ io.all := List.mem_append_right _ (List.mem_map.mpr ⟨p, h, rfl⟩)
theorem Den.new {io : Io} {S : Store} {H : Hp} {p : Addr} {o : HO} (d : Den K C io S H) (h : H p = none) : Den K C io S (upd H p o) :=
  ⟨d.len, d.nd, fun n x a e1 e2 => by
    have e : a ≠ p := fun z => d.fresh h (z ▸ mem_all e2)
    exact (d.obj n x a e1 e2).mono d (Ext.new d h) (upd_ne e), fun q hq => by
    have e : q.1 ≠ p := fun z => d.fresh h (z ▸ hid_mem hq)
    rw [upd_ne e]; exact d.hid q hq⟩
theorem Ext.loc {io : Io} {H : Hp} {p : Addr} {o : HO} (h : H p = none) : Ext io H (io.add p) (upd H p o) :=
  ⟨fun n a e => by
    have := (List.getElem?_eq_some_iff.mp e).1
    show (io.l ++ [p])[n]? = some a
    rw [List.getElem?_append_left this]; exact e, rfl, by rw [Fz_upd_loc h]; exact fun _ _ e => e, rfl⟩
theorem nodup_add {io : Io} {p : Addr} (nd : io.all.Nodup) (h : p ∉ io.all) : (io.add p).all.Nodup := by
  unfold Io.add Io.all at *
  simp only [List.mem_append, not_or] at h
  rw [List.append_assoc]
  rw [List.nodup_append] at nd ⊢
  refine ⟨nd.1, ?_, fun a ha b hb => ?_⟩
  · rw [List.singleton_append, List.nodup_cons]
    exact ⟨h.2, nd.2.1⟩
  · rw [List.singleton_append, List.mem_cons] at hb
    rcases hb with rfl | hb
    · exact fun z => h.1 (z ▸ ha)
    · exact nd.2.2 a ha b hb
theorem Den.loc {io : Io} {S : Store} {H : Hp} {p : Addr} {o : HO} {m : MO} (d : Den K C io S H) (h : H p = none) (hm : ORep K C (io.add p) (upd H p o) p m) : Den K C (io.add p) (S ++ [m]) (upd H p o) := by
  refine ⟨by simp [Io.add, d.len], nodup_add d.nd (d.fresh h), fun n x a e1 e2 => ?_, fun q hq => ?_⟩
  · have e2' : (io.l ++ [p])[n]? = some a := e2
    by_cases hn : n < io.l.length
    · rw [List.getElem?_append_left hn] at e2'
      rw [List.getElem?_append_left (by rw [← d.len]; exact hn)] at e1
      have e : a ≠ p := fun z => d.fresh h (z ▸ mem_all e2')
      exact (d.obj n x a e1 e2').mono d (Ext.loc h) (upd_ne e)
    · have h1 : n = io.l.length := by
        have := (List.getElem?_eq_some_iff.mp e2').1
        simp at this; omega
      subst h1
      rw [List.getElem?_append_right (Nat.le_refl _)] at e2'
      rw [d.len, List.getElem?_append_right (Nat.le_refl _)] at e1
      simp at e1 e2'
      subst e1; subst e2'
      exact hm
  · have hq' : q ∈ io.h := hq
    have e : q.1 ≠ p := fun z => d.fresh h (z ▸ hid_mem hq')
    rw [upd_ne e]; exact d.hid q hq'
theorem Ext.put {io : Io} {H : Hp} {p : Addr} {o : HO} (h : p ∈ io.all) : Ext io H io (upd H p o) :=
  ⟨fun _ _ e => e, rfl, by rw [Fz_upd_old h]; exact fun _ _ e => e, rfl⟩
theorem nodup_at {io : List Addr} (nd : io.Nodup) {n m : Nat} {a : Addr} (h1 : io[n]? = some a) (h2 : io[m]? = some a) : n = m := by
  obtain ⟨p1, e1⟩ := List.getElem?_eq_some_iff.mp h1
  obtain ⟨p2, e2⟩ := List.getElem?_eq_some_iff.mp h2
  exact (List.getElem_inj nd).mp (e1.trans e2.symm)
theorem Den.put {io : Io} {S : Store} {H : Hp} {n : Nat} {p : Addr} {o : HO} {m : MO} (d : Den K C io S H) (h : io.l[n]? = some p) (hm : ORep K C io (upd H p o) p m) : Den K C io (S.set n m) (upd H p o) := by
  have nd := List.nodup_append.mp d.nd
  refine ⟨by simp [d.len], d.nd, fun k x a e1 e2 => ?_, fun q hq => ?_⟩
  · by_cases hk : k = n
    · subst hk
      rw [h] at e2
      cases e2
      rw [List.getElem?_set_self (by have := (List.getElem?_eq_some_iff.mp h).1; rw [← d.len]; exact this)] at e1
      cases e1
      exact hm
    · rw [List.getElem?_set_ne (Ne.symm hk)] at e1
      have e : a ≠ p := fun z => hk (nodup_at nd.1 e2 (z ▸ h))
      exact (d.obj k x a e1 e2).mono d (Ext.put (mem_all h)) (upd_ne e)
  · have e : q.1 ≠ p := fun z => nd.2.2 p (List.mem_of_getElem? h) q.1 (List.mem_map.mpr ⟨q, hq, rfl⟩) z.symm
    rw [upd_ne e]; exact d.hid q hq
def Io.hide (io : Io) (p : Addr) (o : HO) : Io := ⟨io.l, (p, o) :: io.h, io.k⟩
theorem mem_hide {io : Io} {p b : Addr} {o : HO} : b ∈ (io.hide p o).all ↔ b = p ∨ b ∈ io.all := by
  unfold Io.hide Io.all
  simp only [List.mem_append, List.map_cons, List.mem_cons]
  constructor
  · rintro (h | h | h)
    · exact .inr (.inl h)
    · exact .inl h
    · exact .inr (.inr h)
  · rintro (h | h | h)
    · exact .inr (.inl h)
    · exact .inl h
    · exact .inr (.inr h)
theorem Fz_hide {io : Io} {H : Hp} {p : Addr} {o u : HO} (hp : H p = none) : Fz (io.hide p o) (upd H p u) = Fz io H := by
  funext b
  unfold Fz upd
  simp only [mem_hide]
  by_cases e : b = p
  · subst e; simp [hp]
  · simp [e]
theorem Fz_hide_put {io : Io} {H : Hp} {p : Addr} {o o' u : HO} : Fz (io.hide p o') (upd H p u) = Fz (io.hide p o) H := by
  funext b
  unfold Fz upd
  simp only [mem_hide]
  by_cases e : b = p
  · subst e; simp
  · simp [e]
theorem nodup_hide {io : Io} {p : Addr} {o : HO} (nd : io.all.Nodup) (h : p ∉ io.all) : (io.hide p o).all.Nodup := by
  unfold Io.hide Io.all at *
  simp only [List.mem_append, not_or] at h
  rw [List.nodup_append] at nd ⊢
  refine ⟨nd.1, ?_, fun a ha b hb => ?_⟩
  · rw [List.map_cons, List.nodup_cons]
    exact ⟨h.2, nd.2.1⟩
  · rw [List.map_cons, List.mem_cons] at hb
    rcases hb with rfl | hb
    · exact fun z => h.1 (z ▸ ha)
    · exact nd.2.2 a ha b hb
theorem ORep.same {io io' : Io} {S : Store} {H H' : Hp} {a : Addr} {o : MO} (d : Den K C io S H) (hl : io'.l = io.l) (hk : io'.k = io.k) (hs : Same (Fz io H) (Fz io' H')) (ha : H' a = H a) (h : ORep K C io H a o) : ORep K C io' H' a o := by
  have hp : ∀ (n : Nat) (a : Addr), io.l[n]? = some a → io'.l[n]? = some a := fun n a e => by rw [hl]; exact e
  cases o with
  | lst ds => obtain ⟨vs, q, r⟩ := h; exact ⟨vs, by rw [ha]; exact q, r.mono hp hs⟩
  | dK ks ds => obtain ⟨vs, q, q2, r⟩ := h; exact ⟨vs, by rw [ha]; exact q, q2, r.mono hp hs⟩
  | dT ks ds => obtain ⟨vs, q, q2, r⟩ := h; exact ⟨vs, by rw [ha]; exact q, q2, r.mono hp hs⟩
  | dL ks ds => obtain ⟨vs, o, q0, q, q2, r⟩ := h; exact ⟨vs, o, by rw [hk]; exact q0, by rw [ha]; exact q, q2, r.mono hp hs⟩
  | ins c ns ds =>
    obtain ⟨dx, fs, q, q1, q2, r⟩ := h
    refine ⟨dx, fs, by rw [ha]; exact q, ?_, q2, r.mono hp hs⟩
    exact Fz_same _ _ _ _ (hs dx _ (by rw [Fz_out (d.notOwn q1)]; exact q1))
theorem Den.hide {io : Io} {S : Store} {H : Hp} {p : Addr} {o : HO} (d : Den K C io S H) (h : H p = none) (m : isMut o = true) : Den K C (io.hide p o) S (upd H p o) := by
  have hs : Same (Fz io H) (Fz (io.hide p o) (upd H p o)) := by rw [Fz_hide h]; exact fun _ _ e => e
  refine ⟨d.len, nodup_hide d.nd (d.fresh h), fun n x a e1 e2 => ?_, fun q hq => ?_⟩
  · have e : a ≠ p := fun z => d.fresh h (z ▸ mem_all (show io.l[n]? = some a from e2))
    exact (d.obj n x a e1 e2).same d rfl rfl hs (upd_ne e)
  · have hq' : q = (p, o) ∨ q ∈ io.h := List.mem_cons.mp hq
    rcases hq' with rfl | hq'
    · exact ⟨upd_same, m⟩
    · have e : q.1 ≠ p := fun z => d.fresh h (z ▸ hid_mem hq')
      rw [upd_ne e]; exact d.hid q hq'
theorem Den.rehide {io : Io} {S : Store} {H : Hp} {p : Addr} {o o' : HO} (d : Den K C (io.hide p o) S H) (m : isMut o' = true) : Den K C (io.hide p o') S (upd H p o') := by
  have hs : Same (Fz (io.hide p o) H) (Fz (io.hide p o') (upd H p o')) := by rw [Fz_hide_put (o := o)]; exact fun _ _ e => e
  have nd := List.nodup_append.mp d.nd
  have nd2 : p ∉ io.h.map (·.1) ∧ _ := List.nodup_cons.mp (show (p :: io.h.map (·.1)).Nodup from nd.2.1)
  refine ⟨d.len, d.nd, fun n x a e1 e2 => ?_, fun q hq => ?_⟩
  · have e : a ≠ p := fun z => nd.2.2 a (List.mem_of_getElem? e2) p (by simp [Io.hide]) z
    exact (d.obj n x a e1 e2).same d rfl rfl hs (upd_ne e)
  · have hq' : q = (p, o') ∨ q ∈ io.h := List.mem_cons.mp hq
    rcases hq' with rfl | hq'
    · exact ⟨upd_same, m⟩
    · have e : q.1 ≠ p := fun z => nd2.1 (z ▸ List.mem_map.mpr ⟨q, hq', rfl⟩)
      rw [upd_ne e]; exact d.hid q (List.mem_cons_of_mem _ hq')
theorem Fz_unhide {io : Io} {H : Hp} {p : Addr} {o : HO} (hp : p ∉ io.all) (e : H p = some o) : Same (Fz (io.hide p o) H) (Fz io H) ∧ Fz io H p = some o := by
  refine ⟨fun b u q => ?_, by rw [Fz_out hp]; exact e⟩
  unfold Fz at q ⊢
  simp only [mem_hide] at q
  by_cases hb : b ∈ io.all
  · simp [hb] at q
  · simp only [hb, or_false, if_false] at q ⊢
    split at q
    · cases q
    · exact q
theorem Den.unhide {io : Io} {S : Store} {H : Hp} {p : Addr} {o : HO} (d : Den K C (io.hide p o) S H) : Den K C io S H ∧ p ∉ io.all ∧ H p = some o := by
  have nd := List.nodup_append.mp d.nd
  have nd2 : p ∉ io.h.map (·.1) ∧ (io.h.map (·.1)).Nodup := List.nodup_cons.mp (show (p :: io.h.map (·.1)).Nodup from nd.2.1)
  have hp : p ∉ io.all := fun z => by
    rcases List.mem_append.mp z with z | z
    · exact nd.2.2 p z p (by simp [Io.hide]) rfl
    · exact nd2.1 z
  have e : H p = some o := (d.hid (p, o) List.mem_cons_self).1
  refine ⟨⟨d.len, ?_, fun n x a e1 e2 => ?_, fun q hq => d.hid q (List.mem_cons_of_mem _ hq)⟩, hp, e⟩
  · unfold Io.all
    rw [List.nodup_append]
    exact ⟨nd.1, nd2.2, fun a ha b hb => nd.2.2 a ha b (List.mem_cons_of_mem _ hb)⟩
  · exact (d.obj n x a e1 e2).same d rfl rfl (Fz_unhide hp e).1 rfl
end Ev
namespace Ev
open PySem PySem.Spec L2
structure Slots (K : PySem.W.Frag) (C : Nat → Addr) (io : Io) (F : Hp) (e : Env) (sg : St) : Prop where
  len : e.length = sg.length
  get : ∀ (i : Nat) (d : D), e[i]? = some (some d) → ∃ v, sg[i]? = some (some v) ∧ Rep K C io F d v
theorem Slots.ext {K : PySem.W.Frag} {C : Nat → Addr} {io io' : Io} {H H' : Hp} {e : Env} {sg : St} (x : Ext io H io' H') (s : Slots K C io (Fz io H) e sg) : Slots K C io' (Fz io' H') e sg :=
  ⟨s.len, fun i d h => let ⟨v, h1, h2⟩ := s.get i d h; ⟨v, h1, h2.ext x⟩⟩
theorem Slots.set {K : PySem.W.Frag} {C : Nat → Addr} {io : Io} {F : Hp} {e : Env} {sg : St} {d : D} {v : V} (s : Slots K C io F e sg) (i : Nat) (r : Rep K C io F d v) : Slots K C io F (e.set i (some d)) (sg.set i (some v)) := by
  refine ⟨by simp [s.len], fun j x h => ?_⟩
  by_cases hj : j = i
  · subst hj
    by_cases hl : j < e.length
    · rw [List.getElem?_set_self hl] at h
      cases h
      exact ⟨v, by rw [List.getElem?_set_self (by rw [← s.len]; exact hl)], r⟩
    · rw [List.getElem?_eq_none (by simp; omega)] at h; cases h
  · rw [List.getElem?_set_ne (Ne.symm hj)] at h
    obtain ⟨u, h1, h2⟩ := s.get j x h
    exact ⟨u, by rw [List.getElem?_set_ne (Ne.symm hj)]; exact h1, h2⟩
theorem Slots.none {K : PySem.W.Frag} {C : Nat → Addr} {io : Io} {F : Hp} {e : Env} {sg : St} (s : Slots K C io F e sg) (i : Nat) : Slots K C io F (e.set i none) (sg.set i none) := by
  refine ⟨by simp [s.len], fun j x h => ?_⟩
  by_cases hj : j = i
  · subst hj
    by_cases hl : j < e.length
    · rw [List.getElem?_set_self hl] at h; cases h
    · rw [List.getElem?_eq_none (by simp; omega)] at h; cases h
  · rw [List.getElem?_set_ne (Ne.symm hj)] at h
    obtain ⟨u, h1, h2⟩ := s.get j x h
    exact ⟨u, by rw [List.getElem?_set_ne (Ne.symm hj)]; exact h1, h2⟩
def XR (K : PySem.W.Frag) (C : Nat → Addr) (io : Io) (H : Hp) (x : Exn) (cls : Value) (dd : Option Addr) : Prop :=
  cls = .ref (C x.c) ∧ ((x.ns = [] ∧ x.xs = [] ∧ dd = none) ∨ ∃ d fs, dd = some d ∧ H d = some (.xd fs) ∧ fs.map (·.1) = x.ns ∧ Reps K C io (Fz io H) x.xs (fs.map (·.2)))
def Post {A B : Type} (K : PySem.W.Frag) (C : Nat → Addr) (R : Io → Hp → A → B → Prop) (W : WX) (sg : St) (io : Io) (H : Hp) (r : Res A) (Q : B → Hp → Prop) : Prop :=
  match r with
  | .ok a S => ∀ b H' io', Ext io H io' H' → Den K C io' S H' → R io' (Fz io' H') a b → Q b H'
  | .err x S => ∀ cls dd H' io', Ext io H io' H' → Den K C io' S H' → XR K C io' H' x cls dd → W cls dd sg H'
  | .bad => False
abbrev RepR (K : PySem.W.Frag) (C : Nat → Addr) : Io → Hp → D → V → Prop := fun io F d v => Rep K C io F d v
abbrev RepsR (K : PySem.W.Frag) (C : Nat → Addr) : Io → Hp → List D → List V → Prop := fun io F d v => Reps K C io F d v
abbrev EqR {A : Type} : Io → Hp → A → A → Prop := fun _ _ a b => a = b
section
variable {K : PySem.W.Frag} {C : Nat → Addr} {A B A' B' : Type} {R : Io → Hp → A → B → Prop} {R' : Io → Hp → A' → B' → Prop} {W : WX} {sg : St} {io io' : Io} {H H' : Hp} {r : Res A} {Q Q' : B → Hp → Prop}
theorem Post.ext (e : Ext io H io' H') (h : Post K C R W sg io H r Q) : Post K C R W sg io' H' r Q := by
  cases r with
  | ok a S => exact fun b H2 io2 x d q => h b H2 io2 (e.trans x) d q
  | err x S => exact fun c dd H2 io2 x' d q => h c dd H2 io2 (e.trans x') d q
  | bad => exact h
theorem Post.mono (h : Post K C R W sg io H r Q) (m : ∀ b H', Q b H' → Q' b H') : Post K C R W sg io H r Q' := by
  cases r with
  | ok a S => exact fun b H2 io2 x d q => m _ _ (h b H2 io2 x d q)
  | err x S => exact h
  | bad => exact h
theorem Post.bind {k : A → Store → Res A'} {Q : B' → Hp → Prop} (h : Post K C R' W sg io H (r.bind k) Q) :
    Post K C R W sg io H r (fun b H1 => ∃ io1 S1 a, Ext io H io1 H1 ∧ Den K C io1 S1 H1 ∧ R io1 (Fz io1 H1) a b ∧ Post K C R' W sg io1 H1 (k a S1) Q) := by
  cases r with
  | ok a S => exact fun b H2 io2 x d q => ⟨io2, S, a, x, d, q, Post.ext x h⟩
  | err x S => exact h
  | bad => exact h
theorem Post.ofO {o : Option A} {S : Store} (h : Post K C R W sg io H (ofO o S) Q) : ∃ a, o = some a ∧ ∀ b H' io', Ext io H io' H' → Den K C io' S H' → R io' (Fz io' H') a b → Q b H' := by
  cases o with
  | some a => exact ⟨a, rfl, h⟩
  | none => exact h.elim
theorem Post.here {a : A} {S : Store} {b : B} (h : Post K C R W sg io H (.ok a S) Q) (d : Den K C io S H) (q : R io (Fz io H) a b) : Q b H := h b H io (Ext.refl io H) d q
end
abbrev RE := Env → Store → Res D
abbrev RT := Env → Store → Res Bool
abbrev RA := Env → Store → Res (List D)
def tR {A B : Type} (K : PySem.W.Frag) (C : Nat → Addr) (R : Io → Hp → A → B → Prop) (W : WX) (r : Env → Store → Res A) : St → Hp → (B → Hp → Prop) → Prop := fun sg H Q =>
  ∃ (e : Env) (S : Store) (io : Io), Den K C io S H ∧ Slots K C io (Fz io H) e sg ∧ Post K C R W sg io H (r e S) Q
abbrev tE (K : PySem.W.Frag) (C : Nat → Addr) (W : WX) (r : RE) : TE := tR K C (RepR K C) W r
abbrev tT (K : PySem.W.Frag) (C : Nat → Addr) (W : WX) (r : RT) : TT := tR K C EqR W r
abbrev tA (K : PySem.W.Frag) (C : Nat → Addr) (W : WX) (r : RA) : TA := tR K C (RepsR K C) W r
section
variable {K : PySem.W.Frag} {C : Nat → Addr} {A B A' B' A2 B2 : Type} {R : Io → Hp → A → B → Prop} {R' : Io → Hp → A' → B' → Prop} {R2 : Io → Hp → A2 → B2 → Prop} {W : WX} {sg : St} {H : Hp}
theorem tR.mono {r : Env → Store → Res A} {Q Q' : B → Hp → Prop} (h : tR K C R W r sg H Q) (m : ∀ b H', Q b H' → Q' b H') : tR K C R W r sg H Q' := by
  obtain ⟨e, S, io, d, s, p⟩ := h
  exact ⟨e, S, io, d, s, p.mono m⟩
theorem tR.seq1 {r : Env → Store → Res A} {r' : Env → Store → Res A'} {Q : B' → Hp → Prop} (k : Env → A → Store → Res A') (h : tR K C R' W r' sg H Q) (e' : ∀ e S, r' e S = (r e S).bind (k e)) :
    tR K C R W r sg H fun b H1 => ∃ e S io a, Den K C io S H1 ∧ Slots K C io (Fz io H1) e sg ∧ R io (Fz io H1) a b ∧ Post K C R' W sg io H1 (k e a S) Q := by
  obtain ⟨e, S, io, d, s, p⟩ := h
  rw [e'] at p
  exact ⟨e, S, io, d, s, p.bind.mono fun b H1 ⟨io1, S1, a, x, d1, q, p1⟩ => ⟨e, S1, io1, a, d1, s.ext x, q, p1⟩⟩
theorem tR.seq2 {r : Env → Store → Res A} {r2 : Env → Store → Res A2} {r' : Env → Store → Res A'} (hm : ∀ {io io' H H' a b}, Ext io H io' H' → R io (Fz io H) a b → R io' (Fz io' H') a b) {Q : B' → Hp → Prop} (k : Env → A → A2 → Store → Res A')
    (h : tR K C R' W r' sg H Q) (e' : ∀ e S, r' e S = (r e S).bind fun a S1 => (r2 e S1).bind (k e a)) :
    tR K C R W r sg H fun b H1 => tR K C R2 W r2 sg H1 fun b2 H2 => ∃ e S io a a2, Den K C io S H2 ∧ Slots K C io (Fz io H2) e sg ∧ R io (Fz io H2) a b ∧ R2 io (Fz io H2) a2 b2 ∧ Post K C R' W sg io H2 (k e a a2 S) Q := by
  obtain ⟨e, S, io, d, s, p⟩ := h
  rw [e'] at p
  refine ⟨e, S, io, d, s, p.bind.mono fun b H1 ⟨io1, S1, a, x, d1, q, p1⟩ => ?_⟩
  exact ⟨e, S1, io1, d1, s.ext x, p1.bind.mono fun b2 H2 ⟨io2, S2, a2, x2, d2, q2, p2⟩ => ⟨e, S2, io2, a, a2, d2, (s.ext x).ext x2, hm x2 q, q2, p2⟩⟩
end
theorem repM {K : PySem.W.Frag} {C : Nat → Addr} {io io' : Io} {H H' : Hp} {a : D} {b : V} (x : Ext io H io' H') (h : RepR K C io (Fz io H) a b) : RepR K C io' (Fz io' H') a b := Rep.ext x h
theorem _root_.L2.PE.imp {X : Cx} {e : Expr} {t t' : TE} (h : PE X e t) (hi : ∀ sg H Q, t' sg H Q → t sg H Q) : PE X e t' := ⟨fun pins s sg H Q I hw => h.run pins s sg H Q I (hi _ _ _ hw)⟩
theorem _root_.L2.PT.imp {X : Cx} {e : Expr} {t t' : TT} (h : PT X e t) (hi : ∀ sg H Q, t' sg H Q → t sg H Q) : PT X e t' := ⟨fun pins s sg H Q I hw => h.run pins s sg H Q I (hi _ _ _ hw)⟩
theorem _root_.L2.PW.imp {X : Cx} {e : Expr} {t t' : TT} (h : PW X e t) (hi : ∀ sg H Q, t' sg H Q → t sg H Q) : PW X e t' := ⟨fun wh pins s sg H Q I hw => h.run wh pins s sg H Q I (hi _ _ _ hw)⟩
theorem _root_.L2.PA.imp {X : Cx} {e : List Expr} {t t' : TA} (h : PA X e t) (hi : ∀ sg H Q, t' sg H Q → t sg H Q) : PA X e t' := ⟨fun p pins s sg H Q I hw => h.run p pins s sg H Q I (hi _ _ _ hw)⟩
theorem _root_.L2.PS.imp {X : Cx} {e : Stmt} {t t' : TS} (h : PS X e t) (hi : ∀ D sg H, t' D sg H → t D sg H) : PS X e t' := ⟨fun pins s sg H D I hw => h.run pins s sg H D I (hi _ _ _ hw)⟩
theorem _root_.L2.PSs.imp {X : Cx} {e : List Stmt} {t t' : TS} (h : PSs X e t) (hi : ∀ D sg H, t' D sg H → t D sg H) : PSs X e t' := ⟨fun pins s sg H D I hw => h.run pins s sg H D I (hi _ _ _ hw)⟩
theorem _root_.L2.PE.or {X : Cx} {e : Expr} {t t' : TE} (h : PE X e t) (h' : PE X e t') : PE X e (fun sg H Q => t sg H Q ∨ t' sg H Q) := ⟨fun pins s sg H Q I hw => hw.elim (h.run pins s sg H Q I) (h'.run pins s sg H Q I)⟩
def OpD (X : Cx) (C : Nat → Addr) (g : Value → Value → Sem Value) (f : Store → D → D → Option D) : Prop :=
  OpR X g (fun x y H Q => ∃ io S a b d, Den X.K C io S H ∧ Rep X.K C io (Fz io H) a x ∧ Rep X.K C io (Fz io H) b y ∧ f S a b = some d ∧ ∀ v H' io', Ext io H io' H' → Den X.K C io' S H' → Rep X.K C io' (Fz io' H') d v → Q v H')
def UnD (X : Cx) (C : Nat → Addr) (g : Value → Sem Value) (f : Store → D → Option D) : Prop :=
  UnR X g (fun x H Q => ∃ io S a d, Den X.K C io S H ∧ Rep X.K C io (Fz io H) a x ∧ f S a = some d ∧ ∀ v H' io', Ext io H io' H' → Den X.K C io' S H' → Rep X.K C io' (Fz io' H') d v → Q v H')
def CallD (X : Cx) (C : Nat → Addr) (g : Value) (f : Store → List D → Option D) : Prop :=
  CallR X g (fun xs H Q => ∃ io S as d, Den X.K C io S H ∧ Reps X.K C io (Fz io H) as xs ∧ f S as = some d ∧ ∀ v H' io', Ext io H io' H' → Den X.K C io' S H' → Rep X.K C io' (Fz io' H') d v → Q v H')
def rBin (f : Store → D → D → Option D) (a b : RE) : RE := fun e S => (a e S).bind fun x S1 => (b e S1).bind fun y S2 => ofO (f S2 x y) S2
def rUn (f : Store → D → Option D) (a : RE) : RE := fun e S => (a e S).bind fun x S1 => ofO (f S1 x) S1
def rCal (f : Store → List D → Option D) (a : RA) : RE := fun e S => (a e S).bind fun xs S1 => ofO (f S1 xs) S1
section
variable {X : Cx} {C : Nat → Addr} {W : WX} {a b : Expr} {ra rb : RE} {pos : Pos}
theorem ee_op {op : Operator} {f : Store → D → D → Option D} (ho : OpD X C (binaryOp op) f) (ha : PE X a (tE X.K C W ra)) (hb : PE X b (tE X.K C W rb)) : PE X (.BinOp a op b pos) (tE X.K C W (rBin f ra rb)) :=
  (pe_op ho ha hb).imp fun sg H Q h => (tR.seq2 repM (fun _ x y S => ofO (f S x y) S) h fun _ _ => rfl).mono fun x H1 h1 => h1.mono fun y H2 ⟨e, S, io, x1, y1, d, s, r1, r2, p⟩ => by
    obtain ⟨z, ez, p⟩ := p.ofO
    exact ⟨io, S, x1, y1, z, d, r1, r2, ez, p⟩
theorem ee_un {op : UnaryOp} {f : Store → D → Option D} (ho : UnD X C (unaryOp op) f) (ha : PE X a (tE X.K C W ra)) : PE X (.UnaryOp op a pos) (tE X.K C W (rUn f ra)) :=
  (pe_un ho ha).imp fun sg H Q h => (tR.seq1 (fun _ x S => ofO (f S x) S) h fun _ _ => rfl).mono fun x H1 ⟨e, S, io, x1, d, s, r1, p⟩ => by
    obtain ⟨z, ez, p⟩ := p.ofO
    exact ⟨io, S, x1, z, d, r1, ez, p⟩
theorem ee_cmp {op : CmpOp} {f : Store → D → D → Option D} (ho : OpD X C (compareOp op) f) (ha : PE X a (tE X.K C W ra)) (hb : PE X b (tE X.K C W rb)) (hm : behindInMarks op b = false) : PE X (.Compare a [op] [b] pos) (tE X.K C W (rBin f ra rb)) :=
  (pe_cmpR ho ha hb hm).imp fun sg H Q h => (tR.seq2 repM (fun _ x y S => ofO (f S x y) S) h fun _ _ => rfl).mono fun x H1 h1 => h1.mono fun y H2 ⟨e, S, io, x1, y1, d, s, r1, r2, p⟩ => by
    obtain ⟨z, ez, p⟩ := p.ofO
    exact ⟨io, S, x1, y1, z, d, r1, r2, ez, p⟩
def asB : D → Option Bool
  | .bl b => some b
  | _ => none
def rTest (a : RE) : RT := fun e S => (a e S).bind fun x S1 => ofO (asB x) S1
theorem asB_rep {K : PySem.W.Frag} {C : Nat → Addr} {io : Io} {F : Hp} {d : D} {v : V} {k : Bool} (h : asB d = some k) (r : Rep K C io F d v) : v = .bl k := by
  cases d <;> cases h
  cases r
  rfl
theorem tTest_of {t : TE} {r : RE} (h1 : ∀ sg H Q, tE X.K C W r sg H Q → t sg H Q) (sg : L2.St) (H : Hp) (Q : Bool → Hp → Prop) (h : tT X.K C W (rTest r) sg H Q) : tTest t sg H Q :=
  h1 sg H _ ((tR.seq1 (R := RepR X.K C) (r := r) (fun _ x S => ofO (asB x) S) h fun _ _ => rfl).mono fun x H1 ⟨e, S, io, x1, d, s, r1, p⟩ => by
    obtain ⟨k, ek, p⟩ := p.ofO
    exact ⟨k, asB_rep ek r1, p k H1 io (Ext.refl _ _) d rfl⟩)
theorem et_cmp {op : CmpOp} {f : Store → D → D → Option D} (ho : OpD X C (compareOp op) f) (ha : PE X a (tE X.K C W ra)) (hb : PE X b (tE X.K C W rb)) (hm : behindInMarks op b = false) : PT X (.Compare a [op] [b] pos) (tT X.K C W (rTest (rBin f ra rb))) :=
  (pt_cmpR ho ha hb hm).imp (tTest_of fun sg H Q h => (tR.seq2 repM (fun _ x y S => ofO (f S x y) S) h fun _ _ => rfl).mono fun x H1 h1 => h1.mono fun y H2 ⟨e, S, io, x1, y1, d, s, r1, r2, p⟩ => by
    obtain ⟨z, ez, p⟩ := p.ofO
    exact ⟨io, S, x1, y1, z, d, r1, r2, ez, p⟩)
end
end Ev
namespace Ev
open PySem PySem.Spec L2
def rVar (i : Nat) : RE := fun e S => match e[i]? with
  | some (some d) => .ok d S
  | _ => .bad
def rCon (d : D) : RE := fun _ S => .ok d S
section
variable {X : Cx} {C : Nat → Addr} {W : WX}
theorem ee_var (i : Nat) {x : Str} {pos : Pos} (hN : X.N[i]? = some x := by rfl) (hv : Vis X.env.scope x := by first | exact Or.inl rfl | exact Or.inr (Or.inl rfl) | exact Or.inr (Or.inr rfl)) (hd : (x == ("__debug__" : Str)) = false := by decide)
    (hcd : (x == ("__classdict__" : Str)) = false := by decide) : PE X (.Name x pos) (tE X.K C W (rVar i)) :=
  (pv i hN hv hd hcd).imp fun sg H Q h => by
    obtain ⟨e, S, io, d, s, p⟩ := h
    unfold rVar at p
    split at p
    · rename_i y ey
      obtain ⟨v, h1, h2⟩ := s.get i y ey
      exact ⟨v, h1, p.here d h2⟩
    · exact p.elim
theorem ee_con {v : V} {d : D} {e : Expr} (h : PE X e (tC v)) (r : ∀ io F, Rep X.K C io F d v) : PE X e (tE X.K C W (rCon d)) :=
  h.imp fun sg H Q h => by
    obtain ⟨e, S, io, d, s, p⟩ := h
    exact p.here d (r _ _)
theorem ee_int {i j pos} : PE X (.Constant (.int i) j pos) (tE X.K C W (rCon (.int i))) := ee_con pe_int fun _ _ => .int i
theorem ee_bl {i j pos} : PE X (.Constant (.bool i) j pos) (tE X.K C W (rCon (.bl i))) := ee_con pe_bl fun _ _ => .bl i
theorem ee_str {i j pos} : PE X (.Constant (.str i) j pos) (tE X.K C W (rCon (.str i))) := ee_con pe_str fun _ _ => .str i
theorem ee_non {j pos} : PE X (.Constant .none j pos) (tE X.K C W (rCon .non)) := ee_con pe_non fun _ _ => .non
end
def asL (S : Store) : D → Option (List D)
  | .lst xs => some xs
  | .loc n => match S[n]? with
    | some (.lst xs) => some xs
    | _ => none
  | _ => none
theorem asL_rep {K : PySem.W.Frag} {C : Nat → Addr} {io : Io} {S : Store} {H : Hp} {d : D} {v : V} {xs : List D} (h : asL S d = some xs) (dn : Den K C io S H) (r : Rep K C io (Fz io H) d v) :
    ∃ a vs, v = .ref a ∧ SqL K H a vs ∧ Reps K C io (Fz io H) xs vs := by
  cases r with
  | lst q rs => cases h; exact ⟨_, _, rfl, (Fz_same _ _).seq q, rs⟩
  | @loc n a q =>
    simp only [asL] at h
    split at h
    · rename_i ys e
      cases h
      obtain ⟨vs, h1, h2⟩ := dn.obj n _ a e q
      exact ⟨a, vs, rfl, .of h1, h2⟩
    · cases h
  | _ => cases h
theorem SqL.len {X : Cx} {pins : List (Addr × Obj)} {sg : L2.St} {H : Hp} {s : Shared} {a : Addr} {vs : List V} (I : Inv X pins sg H s) (h : SqL X.K H a vs) : vs.length ≤ sizeLine := let ⟨_, _, _, z⟩ := I.list h; z
def truthD (S : Store) : D → Option Bool
  | .non => some false
  | .bl b => some b
  | .int i => some (i != 0)
  | .str x => if x.length ≤ sizeLine then some ((x.length : Int) != 0) else none
  | .tup xs => some (!xs.isEmpty)
  | .lst xs => some (!xs.isEmpty)
  | .dct ks _ => some (!ks.isEmpty)
  | .loc n => match S[n]? with
    | some (.lst xs) => some (!xs.isEmpty)
    | some (.dK ks _) => some (!ks.isEmpty)
    | _ => none
  | .exn _ _ _ => none
  | .dcf _ _ => none
  | .dcT _ _ => none
theorem isEmpty_len {A B : Type} {xs : List A} {ys : List B} (h : xs.length = ys.length) : xs.isEmpty = ys.isEmpty := by
  cases xs <;> cases ys <;> first | rfl | cases h
theorem truth_rep {K : PySem.W.Frag} {C : Nat → Addr} {io : Io} {S : Store} {H : Hp} {d : D} {v : V} {k : Bool} (h : truthD S d = some k) (dn : Den K C io S H) (r : Rep K C io (Fz io H) d v) : TruV K v H k := by
  cases r with
  | non => cases h; rfl
  | bl => cases h; rfl
  | int => cases h; rfl
  | str x =>
    simp only [truthD] at h
    split at h
    · cases h; exact ⟨by assumption, rfl⟩
    · cases h
  | tup q rs => cases h; exact .inr (.inl ⟨_, sqT_same (Fz_same _ _) q, by rw [isEmpty_len rs.length]⟩)
  | lst q rs => cases h; exact .inl ⟨_, (Fz_same _ _).seq q, by rw [isEmpty_len rs.length]⟩
  | dcf _ _ _ _ => cases h
  | dcT _ _ _ _ => cases h
  | dct q e1 e2 rs => cases h; subst e1; exact .inr (.inr ⟨_, Fz_same _ _ _ _ q, by rw [isEmpty_len (List.length_map ..)]⟩)
  | @loc n a q =>
    simp only [truthD] at h
    split at h
    · rename_i ys e
      cases h
      obtain ⟨vs, h1, h2⟩ := dn.obj n _ a e q
      exact .inl ⟨vs, .of h1, by rw [isEmpty_len h2.length]⟩
    · rename_i ks ys e
      cases h
      obtain ⟨kvs, h1, h2, h3⟩ := dn.obj n _ a e q
      subst h2
      exact .inr (.inr ⟨kvs, h1, by rw [isEmpty_len (List.length_map ..)]⟩)
    · cases h
  | exn0 => cases h
  | exnF => cases h
def rTruth (a : RE) : RT := fun e S => (a e S).bind fun x S1 => ofO (truthD S1 x) S1
def rAndT (a b : RT) : RT := fun e S => (a e S).bind fun k S1 => if k = true then b e S1 else .ok false S1
def rOrT (a b : RT) : RT := fun e S => (a e S).bind fun k S1 => if k = true then .ok true S1 else b e S1
def rNotT (a : RT) : RT := fun e S => (a e S).bind fun k S1 => .ok (!k) S1
def rAnd (a b : RE) : RE := fun e S => (a e S).bind fun x S1 => (ofO (truthD S1 x) S1).bind fun k S2 => if k = true then b e S2 else .ok x S2
def rOr (a b : RE) : RE := fun e S => (a e S).bind fun x S1 => (ofO (truthD S1 x) S1).bind fun k S2 => if k = true then .ok x S2 else b e S2
def rNot (a : RE) : RE := fun e S => (a e S).bind fun x S1 => (ofO (truthD S1 x) S1).bind fun k S2 => .ok (.bl (!k)) S2
def rIf (t : RT) (a b : RE) : RE := fun e S => (t e S).bind fun k S1 => if k = true then a e S1 else b e S1
section
variable {X : Cx} {C : Nat → Addr} {W : WX} {a b c : Expr} {ra rb : RE} {ta tb tc : RT} {rest : List Expr} {pos : Pos}
theorem et_val (ha : PE X a (tE X.K C W ra)) (he : ∀ whole, isTrue a X.env whole = (do let v ← whole; standAt a.pos; holding [v] (truthy v)) := by intro _; rfl) : PT X a (tT X.K C W (rTruth ra)) :=
  (pt_truth ha he).imp fun sg H Q h => (tR.seq1 (fun _ x S => ofO (truthD S x) S) h fun _ _ => rfl).mono fun x H1 ⟨e, S, io, x1, d, s, r1, p⟩ => by
    obtain ⟨k, ek, p⟩ := p.ofO
    exact ⟨k, truth_rep ek d r1, p k H1 io (Ext.refl _ _) d rfl⟩
theorem et_or1 (ha : PT X a (tT X.K C W ta)) : PW X (.BoolOp .Or [a] pos) (tT X.K C W ta) := pw_or1 ha
theorem et_or (ha : PT X a (tT X.K C W ta)) (hb : PW X (.BoolOp .Or (b :: rest) pos) (tT X.K C W tb)) : PW X (.BoolOp .Or (a :: b :: rest) pos) (tT X.K C W (rOrT ta tb)) :=
  (pw_or ha hb).imp fun sg H Q h => (tR.seq1 (R := EqR) (fun e k S1 => if k = true then .ok true S1 else tb e S1) h fun _ _ => rfl).mono fun x H1 ⟨e, S, io, x1, d, s, r1, p⟩ => by
    cases r1
    cases x with
    | true => exact p true H1 io (Ext.refl _ _) d rfl
    | false => exact ⟨e, S, io, d, s, p⟩
theorem ee_if (hc : PT X c (tT X.K C W tc)) (ha : PE X a (tE X.K C W ra)) (hb : PE X b (tE X.K C W rb)) : PE X (.IfExp c a b pos) (tE X.K C W (rIf tc ra rb)) :=
  (pe_ifExp hc ha hb).imp fun sg H Q h => (tR.seq1 (R := EqR) (fun e k S1 => if k = true then ra e S1 else rb e S1) h fun _ _ => rfl).mono fun x H1 ⟨e, S, io, x1, d, s, r1, p⟩ => by
    cases r1
    cases x with
    | true => exact ⟨e, S, io, d, s, p⟩
    | false => exact ⟨e, S, io, d, s, p⟩
end
def rNil : RA := fun _ S => .ok [] S
def rCons (a : RE) (r : RA) : RA := fun e S => (a e S).bind fun x S1 => (r e S1).bind fun xs S2 => .ok (x :: xs) S2
def AL (n : Nat) (r : RA) : Prop := ∀ e S xs S', r e S = .ok xs S' → xs.length = n
theorem al_nil : AL 0 rNil := fun e S xs S' h => by cases h; rfl
theorem al_cons {n : Nat} {a : RE} {r : RA} (h : AL n r) : AL (n + 1) (rCons a r) := fun e S xs S' q => by
  unfold rCons at q
  cases h1 : a e S with
  | ok x S1 =>
    rw [h1] at q
    simp only [Res.bind] at q
    cases h2 : r e S1 with
    | ok ys S2 =>
      rw [h2] at q
      cases q
      simp [h e S1 ys _ h2]
    | err x S2 => rw [h2] at q; cases q
    | bad => rw [h2] at q; cases q
  | err x S1 => rw [h1] at q; cases q
  | bad => rw [h1] at q; cases q
def rTup (r : RA) : RE := fun e S => (r e S).bind fun xs S1 => .ok (.tup xs) S1
def rLst (r : RA) : RE := fun e S => (r e S).bind fun xs S1 => .ok (.lst xs) S1
def rLstM (r : RA) : RE := fun e S => (r e S).bind fun xs S1 => .ok (.loc S1.length) (S1 ++ [.lst xs])
section
variable {X : Cx} {C : Nat → Addr} {W : WX} {a : Expr} {es : List Expr} {ra : RE} {rs : RA} {pos : Pos}
theorem ea_nil : PA X [] (tA X.K C W rNil) := pa_nil.imp fun sg H Q h => by
  obtain ⟨e, S, io, d, s, p⟩ := h
  exact p.here d .nil
theorem ea_cons (ha : PE X a (tE X.K C W ra)) (hr : PA X es (tA X.K C W rs)) (hs : starEach (a :: es) X.env = (false, eval a X.env) :: starEach es X.env := by rfl) : PA X (a :: es) (tA X.K C W (rCons ra rs)) :=
  (pa_cons ha hr hs).imp fun sg H Q h => (tR.seq2 repM (fun _ x xs S => .ok (x :: xs) S) h fun _ _ => rfl).mono fun x H1 h1 => h1.mono fun y H2 ⟨e, S, io, x1, y1, d, s, r1, r2, p⟩ =>
    p _ H2 io (Ext.refl _ _) d (.cons r1 r2)
theorem new_tup {K : PySem.W.Frag} {C : Nat → Addr} {io : Io} {S : Store} {H : Hp} {xs : List D} {vs : List V} {p : Addr} (d : Den K C io S H) (r : Reps K C io (Fz io H) xs vs) (hp : H p = none) :
    Ext io H io (upd H p (.tup vs)) ∧ Den K C io S (upd H p (.tup vs)) ∧ Rep K C io (Fz io (upd H p (.tup vs))) (.tup xs) (.ref p) :=
  ⟨Ext.new d hp, d.new hp, .tup (.inl (.inl (by rw [Fz_out (d.fresh hp)]; exact upd_same))) (r.ext (Ext.new d hp))⟩
theorem new_lst {K : PySem.W.Frag} {C : Nat → Addr} {io : Io} {S : Store} {H : Hp} {xs : List D} {vs : List V} {p : Addr} (d : Den K C io S H) (r : Reps K C io (Fz io H) xs vs) (hp : H p = none) :
    Ext io H io (upd H p (.lst vs)) ∧ Den K C io S (upd H p (.lst vs)) ∧ Rep K C io (Fz io (upd H p (.lst vs))) (.lst xs) (.ref p) :=
  ⟨Ext.new d hp, d.new hp, .lst (.inl (.inl (by rw [Fz_out (d.fresh hp)]; exact upd_same))) (r.ext (Ext.new d hp))⟩
theorem new_lstM {K : PySem.W.Frag} {C : Nat → Addr} {io : Io} {S : Store} {H : Hp} {xs : List D} {vs : List V} {p : Addr} (d : Den K C io S H) (r : Reps K C io (Fz io H) xs vs) (hp : H p = none) :
    Ext io H (io.add p) (upd H p (.lst vs)) ∧ Den K C (io.add p) (S ++ [.lst xs]) (upd H p (.lst vs)) ∧ Rep K C (io.add p) (Fz (io.add p) (upd H p (.lst vs))) (.loc S.length) (.ref p) :=
  ⟨Ext.loc hp, d.loc hp ⟨vs, upd_same, r.ext (Ext.loc hp)⟩, .loc (by rw [← d.len]; show (io.l ++ [p])[io.l.length]? = some p; rw [List.getElem?_append_right (Nat.le_refl _)]; simp)⟩
theorem tA.alen {n : Nat} {K : PySem.W.Frag} {C : Nat → Addr} {sg : L2.St} {H : Hp} {Q : List V → Hp → Prop} (hn : AL n rs) (h : tA K C W rs sg H Q) : tA K C W rs sg H (fun vs H1 => vs.length = n ∧ Q vs H1) := by
  obtain ⟨e, S, io, d, s, p⟩ := h
  refine ⟨e, S, io, d, s, ?_⟩
  cases q : rs e S with
  | ok xs S1 =>
    rw [q] at p
    exact fun b H' io' x d' r => ⟨r.length.symm.trans (hn e S xs S1 q), p b H' io' x d' r⟩
  | err x S1 => rw [q] at p; exact p
  | bad => rw [q] at p; exact p
theorem ee_tup {n : Nat} {k} (h : PA X es (tA X.K C W rs)) (hn : AL n rs) (hz : n ≤ sizeLine := by decide) : PE X (.Tuple es k pos) (tE X.K C W (rTup rs)) :=
  (pe_tup h).imp fun sg H Q h => tR.mono (tA.alen hn (tR.seq1 (fun _ xs S => .ok (.tup xs) S) h fun _ _ => rfl)) fun vs H1 ⟨hl, e, S, io, xs, d, s, r1, p⟩ =>
    ⟨by rw [hl]; exact hz, fun q hq => let ⟨x, d', r'⟩ := new_tup d r1 hq; p _ _ _ x d' r'⟩
theorem ee_lst {n : Nat} (h : PA X es (tA X.K C W rs)) (hn : AL n rs) (hz : n ≤ sizeLine := by decide) : PE X (.List es pos) (tE X.K C W (rLst rs)) :=
  (pe_lst h).imp fun sg H Q h => tR.mono (tA.alen hn (tR.seq1 (fun _ xs S => .ok (.lst xs) S) h fun _ _ => rfl)) fun vs H1 ⟨hl, e, S, io, xs, d, s, r1, p⟩ =>
    ⟨by rw [hl]; exact hz, fun q hq => let ⟨x, d', r'⟩ := new_lst d r1 hq; p _ _ _ x d' r'⟩
theorem ee_lstM {n : Nat} (h : PA X es (tA X.K C W rs)) (hn : AL n rs) (hz : n ≤ sizeLine := by decide) : PE X (.List es pos) (tE X.K C W (rLstM rs)) :=
  (pe_lst h).imp fun sg H Q h => tR.mono (tA.alen hn (tR.seq1 (fun _ xs S => .ok (.loc S.length) (S ++ [.lst xs])) h fun _ _ => rfl)) fun vs H1 ⟨hl, e, S, io, xs, d, s, r1, p⟩ =>
    ⟨by rw [hl]; exact hz, fun q hq => let ⟨x, d', r'⟩ := new_lstM d r1 hq; p _ _ _ x d' r'⟩
end
end Ev
namespace Ev
open PySem PySem.Spec L2
section
variable {X : Cx} {C : Nat → Addr}
theorem opD_flat {g : Value → Value → Sem Value} {f : Store → D → D → Option D} {r : R2} (h : OpR X g r)
    (hf : ∀ io S H a b d x y, Den X.K C io S H → Rep X.K C io (Fz io H) a x → Rep X.K C io (Fz io H) b y → f S a b = some d → ∃ z, (∀ F, Rep X.K C io F d z) ∧ ∀ Q : VK, Q z H → r x y H Q) : OpD X C g f := by
  intro pins s sg H x y v u Q I rx ry ⟨io, S, a, b, d, dn, ra, rb, e, q⟩
  obtain ⟨z, rz, hq⟩ := hf io S H a b d x y dn ra rb e
  exact h pins s sg H x y v u Q I rx ry (hq Q (q z H io (Ext.refl _ _) dn (rz _)))
theorem OpD.or {g : Value → Value → Sem Value} {f f1 f2 : Store → D → D → Option D} (h1 : OpD X C g f1) (h2 : OpD X C g f2) (h : ∀ S a b d, f S a b = some d → f1 S a b = some d ∨ f2 S a b = some d) : OpD X C g f := by
  intro pins s sg H x y v u Q I rx ry ⟨io, S, a, b, d, dn, ra, rb, e, q⟩
  rcases h S a b d e with e | e
  · exact h1 pins s sg H x y v u Q I rx ry ⟨io, S, a, b, d, dn, ra, rb, e, q⟩
  · exact h2 pins s sg H x y v u Q I rx ry ⟨io, S, a, b, d, dn, ra, rb, e, q⟩
def i2 (c : Int → Int → Bool) (g : Int → Int → D) : Store → D → D → Option D
  | _, .int i, .int j => if c i j = true then some (g i j) else none
  | _, _, _ => none
theorem i2_some {c : Int → Int → Bool} {g : Int → Int → D} {S : Store} {a b d : D} (h : i2 c g S a b = some d) : ∃ i j, a = .int i ∧ b = .int j ∧ c i j = true ∧ d = g i j := by
  cases a <;> cases b <;> simp only [i2] at h <;> first | cases h | skip
  rename_i i j
  split at h
  · cases h; exact ⟨i, j, rfl, rfl, by assumption, rfl⟩
  · cases h
theorem opD_i2 {g : Value → Value → Sem Value} {c : Int → Int → Bool} {Cc : Int → Int → Prop} {k : Int → Int → V} {kd : Int → Int → D} (h : OpR X g (rI Cc k)) (hc : ∀ i j, c i j = true → Cc i j) (hk : ∀ io F i j, Rep X.K C io F (kd i j) (k i j)) : OpD X C g (i2 c kd) :=
  opD_flat h fun io S H a b d x y dn ra rb e => by
    obtain ⟨i, j, rfl, rfl, hb, rfl⟩ := i2_some e
    cases ra; cases rb
    exact ⟨k i j, fun F => hk io F i j, fun Q q => ⟨i, j, rfl, rfl, hc i j hb, q⟩⟩
theorem opD_i20 {g : Value → Value → Sem Value} {k : Int → Int → V} {kd : Int → Int → D} (h : OpR X g (rI0 k)) (hk : ∀ io F i j, Rep X.K C io F (kd i j) (k i j)) : OpD X C g (i2 (fun _ _ => true) kd) :=
  opD_flat h fun io S H a b d x y dn ra rb e => by
    obtain ⟨i, j, rfl, rfl, hb, rfl⟩ := i2_some e
    cases ra; cases rb
    exact ⟨k i j, fun F => hk io F i j, fun Q q => ⟨i, j, rfl, rfl, q⟩⟩
def addD (S : Store) (a b : D) : Option D := match a, b with
  | .int i, .int j => some (.int (i + j))
  | .str x, .str y => if x.length + y.length ≤ sizeLine then some (.str (x ++ y)) else none
  | .tup xs, .tup ys => if xs.length + ys.length ≤ sizeLine then some (.tup (xs ++ ys)) else none
  | a, b => match asL S a, asL S b with
    | some xs, some ys => if xs.length + ys.length ≤ sizeLine then some (.lst (xs ++ ys)) else none
    | _, _ => none
def rCatL (K : PySem.W.Frag) : R2 := fun x y H Q => ∃ l b xs zs, x = .ref l ∧ y = .ref b ∧ SqL K H l xs ∧ SqL K H b zs ∧ xs.length + zs.length ≤ sizeLine ∧ ∀ p, H p = none → Q (.ref p) (upd H p (.lst (xs ++ zs)))
open PyProof.Rows PySem.P in
theorem op_catL : OpR X (binaryOp .Add) (rCatL X.K) := by
  intro pins s sg H x y v u Q I rx ry h
  obtain ⟨l, b, xs, zs, rfl, rfl, hH, hB, hz, q⟩ := h
  cases rx
  cases ry
  obtain ⟨its, r, ⟨⟨c1, d1, t1, sl1⟩, n, e, hc, hd, hs⟩, z⟩ := I.list hH
  obtain ⟨its2, r2, ⟨⟨c2, d2, t2, sl2⟩, n2, e2, hc2, hd2, hs2⟩, z2⟩ := I.list hB
  simp only at hc hd hs hc2 hd2 hs2
  subst hc hd hs hc2 hd2 hs2
  have hl := r.length
  have hl2 := r2.length
  have ea : its.toArray ++ its2.toArray = (its ++ its2).toArray := by simp
  refine concat_meets ⟨_, e, rfl⟩ ⟨_, e2, rfl⟩ noFill_list_add seq_list_add PySem.F.slot_list_add PySem.F.entry_list_add (PySem.F.args_list_add_2 _ _) (list_addW l b its.toArray its2.toArray n n2 none none sl1 sl2 (by rw [List.size_toArray, List.size_toArray]; omega)) ⟨e, e2, ?_⟩
  rw [ea]
  exact ⟨.ref _, _, I.lnew (t' := s.toks) (r.append r2) (by rw [List.length_append]; omega), rfl, q _ I.fresh⟩
theorem addD_ok : OpD X C (binaryOp .Add) addD := by
  intro pins s sg H x y v u Q I rx ry ⟨io, S, a, b, d, dn, ra, rb, e, q⟩
  unfold addD at e
  split at e
  · cases e; cases ra; cases rb
    exact op_add pins s sg H _ _ v u Q I rx ry ⟨_, _, rfl, rfl, q _ H io (Ext.refl _ _) dn (.int _)⟩
  · split at e
    · cases e; cases ra; cases rb
      exact op_add_str pins s sg H _ _ v u Q I rx ry ⟨_, _, rfl, rfl, by assumption, q _ H io (Ext.refl _ _) dn (.str _)⟩
    · cases e
  · split at e
    · rename_i xs ys hz
      cases e
      cases ra with
      | @tup pa va _ qa ra =>
      cases rb with
      | @tup pb vb _ qb rb =>
      have l1 := ra.length
      have l2 := rb.length
      refine op_catA pins s sg H _ _ v u Q I rx ry ⟨_, _, _, _, rfl, rfl, sqT_same (Fz_same _ _) qa, sqT_same (Fz_same _ _) qb, by omega, fun ex => ?_, fun nx ey => ?_, fun nx ny p hp => ?_⟩
      · subst ex
        cases xs with
        | nil => exact q _ H io (Ext.refl _ _) dn (.tup qb rb)
        | cons _ _ => cases l1
      · subst ey
        cases ys with
        | nil => rw [List.append_nil] at q; exact q _ H io (Ext.refl _ _) dn (.tup qa ra)
        | cons _ _ => cases l2
      · obtain ⟨x1, d1, r1⟩ := new_tup dn (ra.append rb) hp
        exact q _ _ io x1 d1 r1
    · cases e
  · split at e
    · rename_i xs ys e1 e2
      split at e
      · cases e
        obtain ⟨p1, v1, rfl, h1, r1⟩ := asL_rep e1 dn ra
        obtain ⟨p2, v2, rfl, h2, r2⟩ := asL_rep e2 dn rb
        have l1 := r1.length
        have l2 := r2.length
        refine op_catL pins s sg H _ _ v u Q I rx ry ⟨_, _, _, _, rfl, rfl, h1, h2, by omega, fun p hp => ?_⟩
        obtain ⟨x1, d1, r1⟩ := new_lst dn (r1.append r2) hp
        exact q _ _ io x1 d1 r1
      · cases e
    · cases e
def mulOk (i j : Int) : Bool := (decide (-(2 ^ 64) < i) && decide (i < 2 ^ 64)) || (decide (-(2 ^ 64) < j) && decide (j < 2 ^ 64))
def mulD : Store → D → D → Option D := i2 mulOk fun i j => .int (i * j)
def divD : Store → D → D → Option D := i2 (fun _ j => decide (0 < j) && decide (j < 18446744073709551616)) fun i j => .int (i / j)
def modD : Store → D → D → Option D := i2 (fun _ j => decide (0 < j)) fun i j => .int (i % j)
def powOk (i j : Int) : Bool := decide (0 ≤ j) && decide (j ≤ 1000000) && decide (i.natAbs < 2 ^ 64)
def powD : Store → D → D → Option D := i2 powOk fun i j => .int (i ^ j.toNat)
def shlD : Store → D → D → Option D := i2 powOk fun i j => .int (i * 2 ^ j.toNat)
def ltD : Store → D → D → Option D := i2 (fun _ _ => true) fun i j => .bl (decide (i < j))
def leD : Store → D → D → Option D := i2 (fun _ _ => true) fun i j => .bl (decide (i ≤ j))
def gtD : Store → D → D → Option D := i2 (fun _ _ => true) fun i j => .bl (decide (j < i))
def geD : Store → D → D → Option D := i2 (fun _ _ => true) fun i j => .bl (decide (j ≤ i))
theorem mulD_ok : OpD X C (binaryOp .Mult) mulD := opD_i2 op_mul (fun i j h => by simpa [mulOk, CMul] using h) fun _ _ _ _ => .int _
theorem divD_ok : OpD X C (binaryOp .FloorDiv) divD := opD_i2 op_fdivW (fun i j h => by
  simp only [Bool.and_eq_true, decide_eq_true_eq] at h
  exact wide_div (b := 64) h.1 (by omega) (by decide) (by decide)) fun _ _ _ _ => .int _
theorem modD_ok : OpD X C (binaryOp .Mod) modD := opD_i2 op_mod (fun i j h => by simpa using h) fun _ _ _ _ => .int _
theorem powOk_of {i j : Int} (h : powOk i j = true) : CPow i j := by
  unfold powOk at h
  rw [Bool.and_eq_true, Bool.and_eq_true, decide_eq_true_iff, decide_eq_true_iff, decide_eq_true_iff] at h
  exact ⟨h.1.1, h.1.2, h.2⟩
theorem powD_ok : OpD X C (binaryOp .Pow) powD := opD_i2 op_pow (fun i j h => powOk_of h) fun _ _ _ _ => .int _
theorem ltD_ok : OpD X C (compareOp .Lt) ltD := opD_i20 op_lt fun _ _ _ _ => .bl _
theorem gtD_ok : OpD X C (compareOp .Gt) gtD := opD_i20 op_gt fun _ _ _ _ => .bl _
theorem geD_ok : OpD X C (compareOp .GtE) geD := opD_i20 op_ge fun _ _ _ _ => .bl _
def negD : Store → D → Option D
  | _, .int i => some (.int (-i))
  | _, _ => none
theorem negD_ok : UnD X C (unaryOp .USub) negD := by
  intro pins s sg H x v Q I rx ⟨io, S, a, d, dn, ra, e, q⟩
  cases ra <;> cases e
  exact un_neg pins s sg H _ v Q I rx ⟨_, rfl, q _ H io (Ext.refl _ _) dn (.int _)⟩
def isN : Store → D → D → Option D
  | _, .non, .non => some (.bl true)
  | _, .loc _, .non => some (.bl false)
  | _, .exn _ _ _, .non => some (.bl false)
  | _, .bl _, .non => some (.bl false)
  | _, .int _, .non => some (.bl false)
  | _, .str _, .non => some (.bl false)
  | _, .tup _, .non => some (.bl false)
  | _, .lst _, .non => some (.bl false)
  | _, .dct _ _, .non => some (.bl false)
  | _, .dcf _ _, .non => some (.bl false)
  | _, .dcT _ _, .non => some (.bl false)
  | _, .bl a, .bl b => some (.bl (decide (a = b)))
  | _, _, _ => none
end
def pyAll (f : D → Option PyData) : List D → Option (List PyData)
  | [] => some []
  | x :: xs => (f x).bind fun y => (pyAll f xs).bind fun ys => some (y :: ys)
def pyD (S : Store) : Nat → D → Option PyData
  | _, .non => some .none
  | _, .bl b => some (.bool b)
  | _, .int i => some (.int i)
  | _, .str x => some (.str x)
  | n + 1, .tup xs => (pyAll (pyD S n) xs).bind fun ys => some (.tuple ys)
  | n + 1, .lst xs => (pyAll (pyD S n) xs).bind fun ys => some (.list ys)
  | n + 1, .loc k => match S[k]? with
    | some (.lst xs) => (pyAll (pyD S n) xs).bind fun ys => some (.list ys)
    | _ => none
  | _, _ => none
theorem pyAll_cons {f : D → Option PyData} {x : D} {xs : List D} {ps : List PyData} (h : pyAll f (x :: xs) = some ps) : ∃ y ys, f x = some y ∧ pyAll f xs = some ys ∧ ps = y :: ys := by
  simp only [pyAll] at h
  cases h1 : f x with
  | none => rw [h1] at h; cases h
  | some y =>
    rw [h1] at h
    cases h2 : pyAll f xs with
    | none => rw [h2] at h; cases h
    | some ys => rw [h2] at h; cases h; exact ⟨y, ys, rfl, rfl, rfl⟩
theorem bind_some' {A B : Type} {o : Option A} {f : A → Option B} {b : B} (h : o.bind f = some b) : ∃ a, o = some a ∧ f a = some b := by
  cases o with
  | none => cases h
  | some a => exact ⟨a, rfl, h⟩
section
variable {X : Cx} {C : Nat → Addr} {io : Io} {S : Store} {H : Hp} {pins : List (Addr × Obj)} {sg : L2.St} {s : Shared}
theorem pyAll_reads {K : PySem.W.Frag} {C : Nat → Addr} {f : D → Option PyData} (hf : ∀ d v p, f d = some p → Rep K C io (Fz io H) d v → Dp K H v p ∧ p.plain = true) : ∀ {xs : List D} {vs : List V} {ps : List PyData}, pyAll f xs = some ps → Reps K C io (Fz io H) xs vs → DpAll K H vs ps ∧ PyData.plainAll ps = true
  | _, _, _, h, .nil => by cases h; exact ⟨.nil, rfl⟩
  | _, _, _, h, .cons r rs => by
    obtain ⟨y, ys, h1, h2, rfl⟩ := pyAll_cons h
    obtain ⟨a, b⟩ := hf _ _ _ h1 r
    obtain ⟨c, d⟩ := pyAll_reads hf h2 rs
    exact ⟨.cons a c, by simp only [PyData.plainAll, b, d, Bool.and_self]⟩
theorem pyD_reads {K : PySem.W.Frag} {C : Nat → Addr} (dn : Den K C io S H) : ∀ (n : Nat) (d : D) (v : V) (p : PyData), pyD S n d = some p → Rep K C io (Fz io H) d v → Dp K H v p ∧ p.plain = true := by
  intro n
  induction n with
  | zero =>
    intro d v p h r
    cases r <;> simp only [pyD] at h <;> cases h
    · exact ⟨.non, rfl⟩
    · exact ⟨.bl _, rfl⟩
    · exact ⟨.int _, rfl⟩
    · exact ⟨.str _, rfl⟩
  | succ n ih =>
    intro d v p h r
    cases r with
    | non => cases h; exact ⟨.non, rfl⟩
    | bl => cases h; exact ⟨.bl _, rfl⟩
    | int => cases h; exact ⟨.int _, rfl⟩
    | str => cases h; exact ⟨.str _, rfl⟩
    | tup q rs =>
      obtain ⟨ys, h1, h2⟩ := bind_some' h
      cases h2
      obtain ⟨a, b⟩ := pyAll_reads ih h1 rs
      exact ⟨.tup (sqT_same (Fz_same _ _) q) a, by simp only [PyData.plain]; exact b⟩
    | lst q rs =>
      obtain ⟨ys, h1, h2⟩ := bind_some' h
      cases h2
      obtain ⟨a, b⟩ := pyAll_reads ih h1 rs
      exact ⟨.lst ((Fz_same _ _).seq q) a, by simp only [PyData.plain]; exact b⟩
    | @loc k a q =>
      simp only [pyD] at h
      split at h
      · rename_i xs e
        obtain ⟨ys, h1, h2⟩ := bind_some' h
        cases h2
        obtain ⟨vs, e1, rs⟩ := dn.obj k _ a e q
        obtain ⟨a, b⟩ := pyAll_reads ih h1 rs
        exact ⟨.lst (.of e1) a, by simp only [PyData.plain]; exact b⟩
      · cases h
    | dct => cases h
    | dcf => cases h
    | dcT => cases h
    | exn0 => cases h
    | exnF => cases h
theorem pyAll_depth {f : D → Option PyData} {n : Nat} (hf : ∀ d p, f d = some p → p.depth ≤ n) : ∀ {xs : List D} {ps : List PyData}, pyAll f xs = some ps → PyData.depthAll ps ≤ n
  | [], _, h => by cases h; simp [PyData.depthAll]
  | x :: xs, _, h => by
    obtain ⟨y, ys, h1, h2, rfl⟩ := pyAll_cons h
    have a := hf _ _ h1
    have b := pyAll_depth hf h2
    simp only [PyData.depthAll]
    omega
theorem pyD_depth : ∀ (n : Nat) (d : D) (p : PyData), pyD S n d = some p → p.depth ≤ n := by
  intro n
  induction n with
  | zero => intro d p h; cases d <;> simp only [pyD] at h <;> cases h <;> simp [PyData.depth]
  | succ n ih =>
    intro d p h
    cases d with
    | non => cases h; simp [PyData.depth]
    | bl => cases h; simp [PyData.depth]
    | int => cases h; simp [PyData.depth]
    | str => cases h; simp [PyData.depth]
    | tup xs =>
      obtain ⟨ys, h1, h2⟩ := bind_some' h
      cases h2
      simp only [PyData.depth]
      exact Nat.succ_le_succ (pyAll_depth ih h1)
    | lst xs =>
      obtain ⟨ys, h1, h2⟩ := bind_some' h
      cases h2
      simp only [PyData.depth]
      exact Nat.succ_le_succ (pyAll_depth ih h1)
    | loc k =>
      simp only [pyD] at h
      split at h
      · obtain ⟨ys, h1, h2⟩ := bind_some' h
        cases h2
        simp only [PyData.depth]
        exact Nat.succ_le_succ (pyAll_depth ih h1)
      · cases h
    | dct => cases h
    | dcf => cases h
    | dcT => cases h
    | exn => cases h
theorem reads_of (I : L2.Inv X pins sg H s) (dn : Den X.K C io S H) {n : Nat} {d : D} {v : V} {p : PyData} {u : Value} (h : pyD S n d = some p) (r : Rep X.K C io (Fz io H) d v) (ru : RelV v u) :
    (∃ as, Reads s.heap u p as) ∧ p.plain = true ∧ p.depth ≤ n := by
  obtain ⟨a, b⟩ := pyD_reads dn n d v p h r
  exact ⟨Dp.reads I p v u a ru, b, pyD_depth n d p h⟩
end
def deepN : Nat := 60
def eqB (S : Store) (a b : D) : Option Bool := (pyD S deepN a).bind fun x => (pyD S deepN b).bind fun y => some (PyData.eqv x y)
def eqD (S : Store) (a b : D) : Option D := (eqB S a b).bind fun k => some (.bl k)
def neD (S : Store) (a b : D) : Option D := (eqB S a b).bind fun k => some (.bl (!k))
section
variable {X : Cx} {C : Nat → Addr}
theorem eqD_ok (hu : X.A.units + 64 < cLine) : OpD X C (compareOp .Eq) eqD := by
  intro pins s sg H x y v u Q I rx ry ⟨io, S, a, b, d, dn, ra, rb, e, q⟩
  obtain ⟨k, e1, e2⟩ := bind_some' e
  obtain ⟨p, h1, e1⟩ := bind_some' e1
  obtain ⟨p', h2, e1⟩ := bind_some' e1
  cases e1; cases e2
  obtain ⟨⟨as, r1⟩, b1, l1⟩ := reads_of I dn h1 ra rx
  obtain ⟨⟨bs, r2⟩, b2, l2⟩ := reads_of I dn h2 rb ry
  have hl : min p.depth p'.depth ≤ 60 := Nat.le_trans (Nat.min_le_left _ _) l1
  exact SeqAt.eq_plain r1 r2 b1 b2 (by omega) ⟨.bl _, H, I, rfl, q _ H io (Ext.refl _ _) dn (.bl _)⟩
theorem neD_ok (hu : X.A.units + 64 < cLine) : OpD X C (compareOp .NotEq) neD := by
  intro pins s sg H x y v u Q I rx ry ⟨io, S, a, b, d, dn, ra, rb, e, q⟩
  obtain ⟨k, e1, e2⟩ := bind_some' e
  obtain ⟨p, h1, e1⟩ := bind_some' e1
  obtain ⟨p', h2, e1⟩ := bind_some' e1
  cases e1; cases e2
  obtain ⟨⟨as, r1⟩, b1, l1⟩ := reads_of I dn h1 ra rx
  obtain ⟨⟨bs, r2⟩, b2, l2⟩ := reads_of I dn h2 rb ry
  have hl : min p.depth p'.depth ≤ 60 := Nat.le_trans (Nat.min_le_left _ _) l1
  exact SeqAt.ne_plain r1 r2 b1 b2 (by omega) ⟨.bl _, H, I, rfl, q _ H io (Ext.refl _ _) dn (.bl _)⟩
end
end Ev
namespace Ev
open PySem PySem.Spec L2
abbrev RC := D → RE
def rLast (f : Store → D → D → Option D) (b : RE) : RC := fun x e S => (b e S).bind fun y S1 => ofO (f S1 x y) S1
def rLink (f : Store → D → D → Option D) (b : RE) (k : RC) : RC := fun x e S => (b e S).bind fun y S1 => (ofO ((f S1 x y).bind asB) S1).bind fun t S2 => if t = true then k y e S2 else .ok (.bl false) S2
def rChain (a : RE) (k : RC) : RE := fun e S => (a e S).bind fun x S1 => k x e S1
section
variable {X : Cx} {C : Nat → Addr} {W : WX} {e : Expr} {es : List Expr} {rs : RA} {x : Str} {p pos : Pos} {bid T : String} {f : Store → List D → Option D}
theorem ee_callB (hc : CallD X C (.builtin bid) f) (hg : Gl X x) (hm : X.mg x = none) (hv : bootBuiltins x = some (.builtin bid)) (ha : PA X (e :: es) (tA X.K C W rs)) (hn : x ≠ "__name__" := by decide) (hdb : (x == ("__debug__" : Str)) = false := by decide)
    (he : starEach (e :: es) X.env = (false, eval e X.env) :: starEach es X.env := by rfl) (hpl : (backTo pos (starEach es X.env)).any (·.1) = false := by rfl) : PE X (.Call (.Name x p) (e :: es) [] pos) (tE X.K C W (rCal f rs)) :=
  (pe_callB hc hg hm hv ha hn hdb he hpl).imp fun sg H Q h => (tR.seq1 (R := RepsR X.K C) (fun _ xs S => ofO (f S xs) S) h fun _ _ => rfl).mono fun vs H1 ⟨e, S, io, x1, d, s, r1, p⟩ => by
    obtain ⟨z, ez, p⟩ := p.ofO
    exact ⟨io, S, x1, z, d, r1, ez, p⟩
theorem ee_callTy (hc : CallD X C (.type T) f) (hg : Gl X x) (hm : X.mg x = none) (hv : bootBuiltins x = some (.type T)) (ha : PA X (e :: es) (tA X.K C W rs)) (hn : x ≠ "__name__" := by decide) (hdb : (x == ("__debug__" : Str)) = false := by decide)
    (he : starEach (e :: es) X.env = (false, eval e X.env) :: starEach es X.env := by rfl) (hpl : (backTo pos (starEach es X.env)).any (·.1) = false := by rfl) : PE X (.Call (.Name x p) (e :: es) [] pos) (tE X.K C W (rCal f rs)) :=
  (pe_callTy hc hg hm hv ha hn hdb he hpl).imp fun sg H Q h => (tR.seq1 (R := RepsR X.K C) (fun _ xs S => ofO (f S xs) S) h fun _ _ => rfl).mono fun vs H1 ⟨e, S, io, x1, d, s, r1, p⟩ => by
    obtain ⟨z, ez, p⟩ := p.ofO
    exact ⟨io, S, x1, z, d, r1, ez, p⟩
theorem callD_flat {g : Value} {r : List V → Hp → VK → Prop} (h : CallR X g r)
    (hf : ∀ io S H as d xs, Den X.K C io S H → Reps X.K C io (Fz io H) as xs → f S as = some d → ∃ z, (∀ F, Rep X.K C io F d z) ∧ ∀ Q : VK, Q z H → r xs H Q) : CallD X C g f := by
  intro pins s sg H xs us Q I rx ⟨io, S, as, d, dn, ra, e, q⟩
  obtain ⟨z, rz, hq⟩ := hf io S H as d xs dn ra e
  exact h pins s sg H xs us Q I rx (hq Q (q z H io (Ext.refl _ _) dn (rz _)))
def absD : Store → List D → Option D
  | _, [.int i] => some (.int (if i < 0 then -i else i))
  | _, _ => none
theorem reps1 {K : PySem.W.Frag} {C : Nat → Addr} {io : Io} {F : Hp} {a : D} {xs : List V} (r : Reps K C io F [a] xs) : ∃ v, xs = [v] ∧ Rep K C io F a v := by
  cases r with
  | cons h t => cases t; exact ⟨_, rfl, h⟩
theorem reps2 {K : PySem.W.Frag} {C : Nat → Addr} {io : Io} {F : Hp} {a b : D} {xs : List V} (r : Reps K C io F [a, b] xs) : ∃ v u, xs = [v, u] ∧ Rep K C io F a v ∧ Rep K C io F b u := by
  cases r with
  | cons h t => obtain ⟨u, rfl, h2⟩ := reps1 t; exact ⟨_, u, rfl, h, h2⟩
theorem absD_ok : CallD X C (.builtin "abs") absD := callD_flat call_abs fun io S H as d xs dn ra e => by
  unfold absD at e
  split at e <;> cases e
  obtain ⟨v, rfl, h⟩ := reps1 ra
  cases h
  exact ⟨.int _, fun _ => .int _, fun Q q => ⟨_, rfl, q⟩⟩
def maxD2 : Store → List D → Option D
  | _, [.int i, .int j] => some (.int (if j > i then j else i))
  | _, _ => none
def minD2 : Store → List D → Option D
  | _, [.int i, .int j] => some (.int (if j < i then j else i))
  | _, _ => none
theorem maxD2_ok (hc : X.calm = true) : CallD X C (.builtin "max") maxD2 := callD_flat (call_max2 hc) fun io S H as d xs dn ra e => by
  unfold maxD2 at e
  split at e <;> cases e
  obtain ⟨v, u, rfl, h, h2⟩ := reps2 ra
  cases h; cases h2
  exact ⟨.int _, fun _ => .int _, fun Q q => ⟨_, _, rfl, q⟩⟩
theorem minD2_ok (hc : X.calm = true) : CallD X C (.builtin "min") minD2 := callD_flat (call_min2 hc) fun io S H as d xs dn ra e => by
  unfold minD2 at e
  split at e <;> cases e
  obtain ⟨v, u, rfl, h, h2⟩ := reps2 ra
  cases h; cases h2
  exact ⟨.int _, fun _ => .int _, fun Q q => ⟨_, _, rfl, q⟩⟩
def intD : Store → List D → Option D
  | _, [.int i] => some (.int i)
  | _, [.bl b] => some (.int (if b then 1 else 0))
  | _, _ => none
theorem intD_ok : CallD X C (.type "int") intD := callD_flat call_int1 fun io S H as d xs dn ra e => by
  unfold intD at e
  split at e <;> cases e
  · obtain ⟨v, rfl, h⟩ := reps1 ra
    cases h
    exact ⟨.int _, fun _ => .int _, fun Q q => .inl ⟨_, rfl, q⟩⟩
  · obtain ⟨v, rfl, h⟩ := reps1 ra
    cases h
    exact ⟨.int _, fun _ => .int _, fun Q q => .inr ⟨_, rfl, q⟩⟩
def lenD : Store → List D → Option D
  | _, [.str x] => if x.length ≤ sizeLine then some (.int x.length) else none
  | _, [.tup xs] => some (.int xs.length)
  | S, [a] => (asL S a).bind fun xs => some (.int xs.length)
  | _, _ => none
theorem lenD_ok : CallD X C (.builtin "len") lenD := callD_flat call_len fun io S H as d xs dn ra e => by
  unfold lenD at e
  split at e
  · split at e <;> cases e
    obtain ⟨v, rfl, h⟩ := reps1 ra
    cases h
    exact ⟨.int _, fun _ => .int _, fun Q q => ⟨_, _, rfl, ⟨by assumption, rfl⟩, q⟩⟩
  · cases e
    obtain ⟨v, rfl, h⟩ := reps1 ra
    cases h with
    | tup q rs => exact ⟨.int _, fun _ => .int _, fun Q q' => ⟨_, _, rfl, .inr ⟨_, sqT_same (Fz_same _ _) q, rs.length⟩, q'⟩⟩
  · obtain ⟨ys, e1, e2⟩ := bind_some' e
    cases e2
    obtain ⟨v, rfl, h⟩ := reps1 ra
    obtain ⟨a, vs, rfl, hq, rs⟩ := asL_rep e1 dn h
    exact ⟨.int _, fun _ => .int _, fun Q q' => ⟨_, _, rfl, .inl ⟨_, hq, rs.length⟩, q'⟩⟩
  · cases e
def asI : D → Option Int
  | .int i => some i
  | _ => none
def allI : List D → Option (List Int)
  | [] => some []
  | .int i :: r => (allI r).bind fun l => some (i :: l)
  | _ => none
theorem allI_rep {K : PySem.W.Frag} {C : Nat → Addr} {io : Io} {F : Hp} : ∀ {xs : List D} {vs : List V} {ns : List Int}, allI xs = some ns → Reps K C io F xs vs → vs = ns.map V.int ∧ xs = ns.map D.int
  | _, _, _, h, .nil => by cases h; exact ⟨rfl, rfl⟩
  | _, _, _, h, .cons r rs => by
    cases r <;> simp only [allI] at h <;> first | cases h | skip
    obtain ⟨l, h1, h2⟩ := bind_some' h
    cases h2
    obtain ⟨a, b⟩ := allI_rep h1 rs
    exact ⟨by rw [a]; rfl, by rw [b]; rfl⟩
theorem allI_map (ns : List Int) : allI (ns.map D.int) = some ns := by
  induction ns with
  | nil => rfl
  | cons i r ih => simp [allI, ih]
def sumD : Store → List D → Option D
  | S, [a] => (asL S a).bind fun xs => (allI xs).bind fun ns => some (.int ns.sum)
  | _, _ => none
theorem sumD_ok (hc : X.calm = true) : CallD X C (.builtin "sum") sumD := callD_flat (cr_sum hc) fun io S H as d xs dn ra e => by
  unfold sumD at e
  split at e
  · obtain ⟨ys, e1, e2⟩ := bind_some' e
    obtain ⟨ns, e4, e3⟩ := bind_some' e2
    cases e3
    obtain ⟨v, rfl, h⟩ := reps1 ra
    obtain ⟨a, vs, rfl, hq, rs⟩ := asL_rep e1 dn h
    obtain ⟨rfl, _⟩ := allI_rep e4 rs
    exact ⟨.int _, fun _ => .int _, fun Q q' => ⟨_, _, rfl, hq, q'⟩⟩
  · cases e
end
def ixD (S : Store) (a b : D) : Option D := match a, b with
  | .tup xs, .int i => atI xs i
  | .str z, .int i => if z.length ≤ sizeLine then (atI z.cps.toList i).bind fun c => some (.str ⟨#[c]⟩) else none
  | a, .int i => (asL S a).bind fun xs => atI xs i
  | _, _ => none
theorem atI_reps {K : PySem.W.Frag} {C : Nat → Addr} {io : Io} {F : Hp} {xs : List D} {vs : List V} {i : Int} {d : D} (h : atI xs i = some d) (r : Reps K C io F xs vs) : ∃ v, atI vs i = some v ∧ Rep K C io F d v := by
  unfold atI at h ⊢
  obtain ⟨j, h1, h2⟩ := bind_some' h
  obtain ⟨v, h3, h4⟩ := r.get h2
  exact ⟨v, by rw [← r.length, h1]; exact h3, h4⟩
def cutD (xs : List D) (lo hi : Option Int) : List D := (xs.drop (HT.sIx xs.length 0 lo)).take (HT.sIx xs.length xs.length hi - HT.sIx xs.length 0 lo)
theorem cut_reps {K : PySem.W.Frag} {C : Nat → Addr} {io : Io} {F : Hp} {xs : List D} {vs : List V} (r : Reps K C io F xs vs) (lo hi : Option Int) : Reps K C io F (cutD xs lo hi) (cutV vs lo hi) := by
  unfold cutD cutV
  rw [r.length]
  exact (r.drop _).take _
abbrev RO := Env → Store → Res (Option Int)
def rNoP : RO := fun _ S => .ok none S
def rPart (a : RE) : RO := fun e S => (a e S).bind fun x S1 => (ofO (asI x) S1).bind fun i S2 => .ok (some i) S2
abbrev tO (K : PySem.W.Frag) (C : Nat → Addr) (W : WX) (r : RO) : TO := tR K C EqR W r
def slD (S : Store) (a : D) (lo hi : Option Int) : Option D := match a with
  | .tup xs => some (.tup (cutD xs lo hi))
  | .str z => if z.length ≤ sizeLine then some (.str (cutS z lo hi)) else none
  | a => (asL S a).bind fun xs => some (.lst (cutD xs lo hi))
def rSl (a : RE) (lo hi : RO) : RE := fun e S => (a e S).bind fun x S1 => (lo e S1).bind fun l S2 => (hi e S2).bind fun h S3 => ofO (slD S3 x l h) S3
section
variable {X : Cx} {C : Nat → Addr} {W : WX} {a b : Expr} {ra rb : RE} {lo hi : Option Expr} {rl rh : RO} {pos p2 : Pos}
theorem ixD_ok : IxR X (fun x y H Q => ∃ io S a b d, Den X.K C io S H ∧ Rep X.K C io (Fz io H) a x ∧ Rep X.K C io (Fz io H) b y ∧ ixD S a b = some d ∧ ∀ v H' io', Ext io H io' H' → Den X.K C io' S H' → Rep X.K C io' (Fz io' H') d v → Q v H') := by
  intro value slice pins s sg H x y v u Q I rx ry ⟨io, S, a, b, d, dn, ra, rb, e, q⟩ hs
  refine ix_seq value slice pins s sg H x y v u Q I rx ry ?_ hs
  unfold ixD at e
  split at e
  · cases rb
    cases ra with
    | tup q1 rs =>
      obtain ⟨w, h1, h2⟩ := atI_reps e rs
      exact .inr (.inl ⟨_, _, _, w, rfl, rfl, sqT_same (Fz_same _ _) q1, h1, q _ H io (Ext.refl _ _) dn h2⟩)
  · split at e
    · obtain ⟨c, h1, h2⟩ := bind_some' e
      cases h2
      cases ra; cases rb
      exact .inr (.inr ⟨_, _, c, rfl, rfl, by assumption, h1, q _ H io (Ext.refl _ _) dn (.str _)⟩)
    · cases e
  · obtain ⟨xs, h1, h2⟩ := bind_some' e
    cases rb
    obtain ⟨p, vs, rfl, hq, rs⟩ := asL_rep h1 dn ra
    obtain ⟨w, h3, h4⟩ := atI_reps h2 rs
    exact .inl ⟨_, _, _, w, rfl, rfl, hq, h3, q _ H io (Ext.refl _ _) dn h4⟩
  · cases e
theorem ee_ix (ha : PE X a (tE X.K C W ra)) (hb : PE X b (tE X.K C W rb)) (hs : PlainIx b := by exact fun _ _ => rfl) : PE X (.Subscript a b pos) (tE X.K C W (rBin ixD ra rb)) :=
  (pe_ix ixD_ok ha hb hs).imp fun sg H Q h => (tR.seq2 repM (fun _ x y S => ofO (ixD S x y) S) h fun _ _ => rfl).mono fun x H1 h1 => h1.mono fun y H2 ⟨e, S, io, x1, y1, d, s, r1, r2, p⟩ => by
    obtain ⟨z, ez, p⟩ := p.ofO
    exact ⟨io, S, x1, y1, z, d, r1, r2, ez, p⟩
theorem eo_none : PO X none (tO X.K C W rNoP) := ⟨fun pins s sg H Q I h => po_none.run pins s sg H Q I (by
  obtain ⟨e, S, io, d, sl, p⟩ := h
  exact p none H io (Ext.refl _ _) d rfl)⟩
theorem eo_some (ha : PE X a (tE X.K C W ra)) : PO X (some a) (tO X.K C W (rPart ra)) := ⟨fun pins s sg H Q I h => (po_some ha).run pins s sg H Q I (by
  refine (tR.seq1 (R := RepR X.K C) (fun _ x S => (ofO (asI x) S).bind fun i S2 => .ok (some i) S2) h fun _ _ => rfl).mono fun x H1 ⟨e, S, io, x1, d, sl, r1, p⟩ => ?_
  cases x1 <;> simp only [asI, ofO, Res.bind] at p <;> first | exact p.elim | skip
  cases r1
  exact ⟨_, rfl, p _ H1 io (Ext.refl _ _) d rfl⟩)⟩
theorem slD_ok : SlR X (fun x l h H Q => ∃ io S a d, Den X.K C io S H ∧ Rep X.K C io (Fz io H) a x ∧ slD S a l h = some d ∧ ∀ v H' io', Ext io H io' H' → Den X.K C io' S H' → Rep X.K C io' (Fz io' H') d v → Q v H') := by
  have hr := (SlR.or (SlR.or (sl_list (X := X)) sl_tupA) sl_str)
  intro pins s sg H x v vl vu l h sl Q I rx h1 h2 h3 ⟨io, S, a, d, dn, ra, e, q⟩
  refine hr pins s sg H x v vl vu l h sl Q I rx h1 h2 h3 ?_
  unfold slD at e
  split at e
  · cases e
    cases ra with
    | tup q1 rs =>
      refine .inl (.inr ⟨_, _, rfl, sqT_same (Fz_same _ _) q1, fun hw => ?_, fun hw p hp => ?_⟩)
      · refine q _ H io (Ext.refl _ _) dn ?_
        rename_i xs va vs
        have e2 : cutD xs l h = xs := by
          unfold cutD
          rw [rs.length, hw.1, hw.2, List.drop_zero, Nat.sub_zero, ← rs.length, List.take_length]
        rw [e2]
        exact .tup q1 rs
      · obtain ⟨x1, d1, r1⟩ := new_tup dn (cut_reps rs l h) hp
        exact q _ _ io x1 d1 r1
  · split at e
    · cases e
      cases ra
      exact .inr ⟨_, rfl, by assumption, q _ H io (Ext.refl _ _) dn (.str _)⟩
    · cases e
  · obtain ⟨xs, e1, e2⟩ := bind_some' e
    cases e2
    obtain ⟨p, vs, rfl, hq, rs⟩ := asL_rep e1 dn ra
    refine .inl (.inl ⟨_, _, rfl, hq, fun p hp => ?_⟩)
    obtain ⟨x1, d1, r1⟩ := new_lst dn (cut_reps rs l h) hp
    exact q _ _ io x1 d1 r1
theorem ee_sl (ha : PE X a (tE X.K C W ra)) (hl : PO X lo (tO X.K C W rl)) (hh : PO X hi (tO X.K C W rh)) : PE X (.Subscript a (.Slice lo hi none p2) pos) (tE X.K C W (rSl ra rl rh)) :=
  (pe_slice slD_ok ha hl hh).imp fun sg H Q h => (tR.seq2 (R2 := EqR) repM (fun e x l S2 => (rh e S2).bind fun h S3 => ofO (slD S3 x l h) S3) h fun _ _ => rfl).mono fun x H1 h1 => h1.mono fun l H2 ⟨e, S, io, x1, l1, d, sl, r1, r2, p⟩ => by
    cases r2
    exact ⟨e, S, io, d, sl, p.bind.mono fun h H3 ⟨io3, S3, h3, x3, d3, r3, p3⟩ => by
      cases r3
      obtain ⟨z, ez, p3⟩ := p3.ofO
      exact ⟨io3, S3, x1, z, d3, r1.ext x3, ez, p3⟩⟩
end
end Ev
namespace Ev
open PySem PySem.Spec L2
theorem _root_.L2.Fun.okN {CX : CXT} {P : Program} {w : World} {K : PySem.W.Frag} {mg : Str → Option Value} {base : Heap} {x qual : Str} {st : Stmt} {f : Addr} {fd : FuncData} {N ps : List Str} {k : Nat} {sp : Sp} (F : Fun K x qual st f fd) (S : FnScope N ps (defScope st)) (len : ∀ vs H Q E, sp vs H Q E → vs.length = ps.length)
    (hbody : ∀ (cdv : Value) (A : Around) (outer : List PySem.Env) (s : Shared) (H : Hp) (vs : List V) (Q : VK) (E : XK), Room k (A.deeper (PyProof.Rows.envOfC qual (defScope st) s.heap.objs.size f cdv)) → sp vs H Q E →
      ∃ t, PSs (cxOf CX P w K mg base N qual (defScope st) f cdv A outer s H E) (defBody st) t ∧ t { nx := fun _ H' => Q .non H', rt := Q } (L2.start N vs) H) : FnOk P w K mg base CX (k + 1) f fd ps sp := by
  obtain ⟨oc, od, kV, doc, pm, an, cdv, ct, osl, rfl, lk, hcd⟩ := F.ex
  exact fn_of lk hcd S len fun A outer s H vs Q E hr hsp => hbody cdv A outer s H vs Q E hr hsp
inductive Fl where
  | nx (e : Env) (S : Store)
  | rt (d : D) (S : Store)
  | er (x : Exn) (e : Env) (S : Store)
  | bad
abbrev RS := Env → Store → Fl
def Res.fl {A : Type} (e : Env) : Res A → (A → Store → Fl) → Fl
  | .ok a S, k => k a S
  | .err x S, _ => .er x e S
  | .bad, _ => .bad
def Fl.andThen : Fl → RS → Fl
  | .nx e S, k => k e S
  | .rt d S, _ => .rt d S
  | .er x e S, _ => .er x e S
  | .bad, _ => .bad
def PostS (K : PySem.W.Frag) (C : Nat → Addr) (W : WX) (io : Io) (H : Hp) (f : Fl) (Dn : Ends) : Prop :=
  match f with
  | .nx e S => ∀ sg H' io', Ext io H io' H' → Den K C io' S H' → Slots K C io' (Fz io' H') e sg → Dn.nx sg H'
  | .rt d S => ∀ v H' io', Ext io H io' H' → Den K C io' S H' → Rep K C io' (Fz io' H') d v → Dn.rt v H'
  | .er x e S => ∀ cls dd sg H' io', Ext io H io' H' → Den K C io' S H' → Slots K C io' (Fz io' H') e sg → XR K C io' H' x cls dd → W cls dd sg H'
  | .bad => False
def tS (K : PySem.W.Frag) (C : Nat → Addr) (W : WX) (r : RS) : TS := fun Dn sg H =>
  ∃ (e : Env) (S : Store) (io : Io), Den K C io S H ∧ Slots K C io (Fz io H) e sg ∧ PostS K C W io H (r e S) Dn
section
variable {K : PySem.W.Frag} {C : Nat → Addr} {A B : Type} {R : Io → Hp → A → B → Prop} {W : WX} {sg : L2.St} {io io' : Io} {H H' : Hp} {Dn : Ends}
theorem PostS.ext {f : Fl} (e : Ext io H io' H') (h : PostS K C W io H f Dn) : PostS K C W io' H' f Dn := by
  cases f with
  | nx a S => exact fun sg H2 io2 x d q => h sg H2 io2 (e.trans x) d q
  | rt a S => exact fun sg H2 io2 x d q => h sg H2 io2 (e.trans x) d q
  | er x a S => exact fun c dd sg H2 io2 x' d q => h c dd sg H2 io2 (e.trans x') d q
  | bad => exact h
theorem PostS.of_res {r : Res A} {e : Env} {k : A → Store → Fl} (h : PostS K C W io H (r.fl e k) Dn) (s : Slots K C io (Fz io H) e sg) :
    Post K C R W sg io H r (fun b H1 => ∃ io1 S1 a, Ext io H io1 H1 ∧ Den K C io1 S1 H1 ∧ R io1 (Fz io1 H1) a b ∧ PostS K C W io1 H1 (k a S1) Dn) := by
  cases r with
  | ok a S => exact fun b H2 io2 x d q => ⟨io2, S, a, x, d, q, PostS.ext x h⟩
  | err x S => exact fun cls dd H2 io2 x' d q => h cls dd sg H2 io2 x' d (s.ext x') q
  | bad => exact h
theorem tS.seq {r : Env → Store → Res A} {m : RS} (k : Env → A → Store → Fl) (h : tS K C W m Dn sg H) (e' : ∀ e S, m e S = (r e S).fl e (k e)) :
    tR K C R W r sg H fun b H1 => ∃ e S io a, Den K C io S H1 ∧ Slots K C io (Fz io H1) e sg ∧ R io (Fz io H1) a b ∧ PostS K C W io H1 (k e a S) Dn := by
  obtain ⟨e, S, io, d, s, p⟩ := h
  rw [e'] at p
  exact ⟨e, S, io, d, s, (p.of_res s).mono fun b H1 ⟨io1, S1, a, x, d1, q, p1⟩ => ⟨e, S1, io1, a, d1, s.ext x, q, p1⟩⟩
end
def sNil : RS := fun e S => .nx e S
def sSeq (a b : RS) : RS := fun e S => (a e S).andThen b
def sIf (t : RT) (a b : RS) : RS := fun e S => (t e S).fl e fun k S1 => if k = true then a e S1 else b e S1
def sRet (a : RE) : RS := fun e S => (a e S).fl e fun d S1 => .rt d S1
def sExp (a : RE) : RS := fun e S => (a e S).fl e fun _ S1 => .nx e S1
def sSet (i : Nat) (a : RE) : RS := fun e S => (a e S).fl e fun d S1 => .nx (e.set i (some d)) S1
section
variable {X : Cx} {C : Nat → Addr} {W : WX} {st : Stmt} {rest sa sb : List Stmt} {ma mb : RS} {a c : Expr} {ra : RE} {tc : RT} {pos : Pos}
theorem es_nil : PSs X [] (tS X.K C W sNil) := pss_nil.imp fun Dn sg H ⟨e, S, io, d, s, p⟩ => p sg H io (Ext.refl _ _) d s
theorem es_cons (h1 : PS X st (tS X.K C W ma)) (h2 : PSs X rest (tS X.K C W mb)) : PSs X (st :: rest) (tS X.K C W (sSeq ma mb)) :=
  (pss_cons h1 h2).imp fun Dn sg H ⟨e, S, io, d, s, p⟩ => ⟨e, S, io, d, s, by
    unfold sSeq at p
    cases q : ma e S with
    | nx e1 S1 =>
      rw [q] at p
      exact fun sg' H' io' x d' s' => ⟨e1, S1, io', d', s', PostS.ext x p⟩
    | rt d1 S1 => rw [q] at p; exact p
    | er x e1 S1 => rw [q] at p; exact p
    | bad => rw [q] at p; exact p⟩
theorem es_one (h1 : PS X st (tS X.K C W ma)) : PSs X [st] (tS X.K C W ma) := pss_one h1
theorem s_if (hc : PT X c (tT X.K C W tc)) (ha : PSs X sa (tS X.K C W ma)) (hb : PSs X sb (tS X.K C W mb)) : PS X (.If c sa sb pos) (tS X.K C W (sIf tc ma mb)) :=
  (ps_if hc ha hb).imp fun Dn sg H h => (tS.seq (R := EqR) (fun e k S1 => if k = true then ma e S1 else mb e S1) h fun _ _ => rfl).mono fun k H1 ⟨e, S, io, k1, d, s, q, p⟩ => by
    cases q
    cases k with
    | true => exact ⟨e, S, io, d, s, p⟩
    | false => exact ⟨e, S, io, d, s, p⟩
theorem s_ret (ha : PE X a (tE X.K C W ra)) : PS X (.Return (some a) pos) (tS X.K C W (sRet ra)) :=
  (ps_ret ha).imp fun Dn sg H h => (tS.seq (R := RepR X.K C) (fun e d S1 => .rt d S1) h fun _ _ => rfl).mono fun v H1 ⟨e, S, io, k1, d, s, q, p⟩ => p v H1 io (Ext.refl _ _) d q
theorem s_set (i : Nat) {x : Str} {pos' : Pos} (hN : X.N.Nodup) (ha : PE X a (tE X.K C W ra)) (hi : X.N[i]? = some x := by rfl) (hx : Loc X.env.scope x := by first | exact Or.inl rfl | exact Or.inr rfl) (hs : swapsWith a (some (.Name x pos')) pos.line X.env = pure false := by rfl)
    (hf : X.fn x = true ∨ X.env.scope.names.lookup x = some .local := by first | exact .inl rfl | exact .inr rfl | assumption) : PS X (.Assign [.Name x pos'] a pos) (tS X.K C W (sSet i ra)) :=
  (ps_set hN hi hx ha hs hf).imp fun Dn sg H h => (tS.seq (R := RepR X.K C) (fun e d S1 => .nx (e.set i (some d)) S1) h fun _ _ => rfl).mono fun v H1 ⟨e, S, io, k1, d, s, q, p⟩ => p _ H1 io (Ext.refl _ _) d (s.set i q)
end
def setAll {A : Type} : List Nat → List A → List (Option A) → List (Option A)
  | i :: is, d :: ds, e => setAll is ds (e.set i (some d))
  | _, _, e => e
def parts (S : Store) : D → Option (List D)
  | .tup xs => some xs
  | d => asL S d
inductive Tg where
  | nm (i : Nat)
  | tp (is : List Nat)
  | tn (qs : List (Nat ⊕ List Nat))
def bindN (S : Store) : List (Nat ⊕ List Nat) → List D → Env → Option Env
  | [], [], e => some e
  | .inl i :: qs, d :: ds, e => bindN S qs ds (e.set i (some d))
  | .inr is :: qs, d :: ds, e => (parts S d).bind fun xs => if xs.length = is.length then bindN S qs ds (setAll is xs e) else none
  | _, _, _ => none
def tnIx : List (Nat ⊕ List Nat) → List Nat
  | [] => []
  | .inl i :: qs => i :: tnIx qs
  | .inr is :: qs => is ++ tnIx qs
def bindT (S : Store) (d : D) (e : Env) : Tg → Option Env
  | .nm i => some (e.set i (some d))
  | .tp is => (parts S d).bind fun ds => if ds.length = is.length then some (setAll is ds e) else none
  | .tn qs => (parts S d).bind fun ds => bindN S qs ds e
theorem setAll_slots {K : PySem.W.Frag} {C : Nat → Addr} {io : Io} {F : Hp} : ∀ (is : List Nat) {ds : List D} {vs : List V} {e : Env} {sg : L2.St}, Slots K C io F e sg → Reps K C io F ds vs → Slots K C io F (setAll is ds e) (setAll is vs sg)
  | [], _, _, _, _, s, _ => s
  | _ :: _, _, _, _, _, s, .nil => s
  | i :: is, _, _, _, _, s, .cons h r => setAll_slots is (s.set i h) r
def Tg.ixs : Tg → List Nat
  | .nm i => [i]
  | .tp is => is
  | .tn qs => tnIx qs
def Agree (t : Tg) (sg sg' : L2.St) : Prop := ∀ vs : List Nat, (∀ i ∈ t.ixs, i ∈ vs) → wipe sg' vs = wipe sg vs
theorem wipe_get (sg : L2.St) (j : Nat) : ∀ vs : List Nat, (wipe sg vs)[j]? = if j ∈ vs then (if j < sg.length then some none else none) else sg[j]?
  | [] => by simp [wipe]
  | v :: vs => by
    have ih := wipe_get sg j vs
    have hl := wipe_length sg vs
    unfold wipe
    by_cases hv : j = v
    · subst hv
      by_cases hj : j < sg.length
      · rw [List.getElem?_set_self (by rw [hl]; exact hj)]
        simp [hj]
      · rw [List.getElem?_eq_none (by rw [List.length_set, hl]; omega)]
        simp [hj]
    · rw [List.getElem?_set_ne (Ne.symm hv), ih]
      simp [hv]
theorem wipe_set (sg : L2.St) (i : Nat) (x : Option V) {vs : List Nat} (h : i ∈ vs) : wipe (sg.set i x) vs = wipe sg vs := by
  apply List.ext_getElem?
  intro j
  rw [wipe_get, wipe_get, List.length_set]
  by_cases hj : j ∈ vs
  · simp [hj]
  · have : i ≠ j := fun e => hj (e ▸ h)
    rw [if_neg hj, if_neg hj, List.getElem?_set_ne this]
theorem wipe_setAll : ∀ (is : List Nat) (us : List V) (sg : L2.St) {vs : List Nat}, (∀ i ∈ is, i ∈ vs) → wipe (setAll is us sg) vs = wipe sg vs
  | [], _, _, _, _ => by simp [setAll]
  | i :: is, [], sg, vs, h => by simp [setAll]
  | i :: is, u :: us, sg, vs, h => by
    show wipe (setAll is us (sg.set i (some u))) vs = wipe sg vs
    rw [wipe_setAll is us _ (fun j hj => h j (List.mem_cons_of_mem _ hj)), wipe_set _ _ _ (h i List.mem_cons_self)]
def GD (X : Cx) (C : Nat → Addr) (tg : Expr) (t : Tg) : Prop :=
  PG X tg (fun v sg H Q => ∃ e S io d e', Den X.K C io S H ∧ Slots X.K C io (Fz io H) e sg ∧ Rep X.K C io (Fz io H) d v ∧ bindT S d e t = some e' ∧ ∀ sg', Slots X.K C io (Fz io H) e' sg' → Agree t sg sg' → Q sg' H)
theorem _root_.L2.PG.imp {X : Cx} {e : Expr} {t t' : TG} (h : PG X e t) (hi : ∀ v sg H Q, t' v sg H Q → t v sg H Q) : PG X e t' := ⟨fun pins s sg H v u Q I r hw => h.run pins s sg H v u Q I r (hi _ _ _ _ hw)⟩
theorem _root_.L2.PG.or {X : Cx} {e : Expr} {t t' : TG} (h : PG X e t) (h' : PG X e t') : PG X e (fun v sg H Q => t v sg H Q ∨ t' v sg H Q) := ⟨fun pins s sg H v u Q I r hw => hw.elim (h.run pins s sg H v u Q I r) (h'.run pins s sg H v u Q I r)⟩
section
variable {X : Cx} {C : Nat → Addr} {W : WX} {pos : Pos}
theorem g_nm (i : Nat) {x : Str} (hN : X.N.Nodup) (hi : X.N[i]? = some x := by rfl) (hx : Loc X.env.scope x := by first | exact Or.inl rfl | exact Or.inr rfl) (hf : X.fn x = true ∨ X.env.scope.names.lookup x = some .local := by first | exact .inl rfl | exact .inr rfl | assumption) : GD X C (.Name x pos) (.nm i) :=
  (pg_name hN hi hx hf).imp fun v sg H Q ⟨e, S, io, d, e', dn, s, r, b, q⟩ => by cases b; exact q _ (s.set i r) fun vs h => wipe_set _ _ _ (h i (by simp [Tg.ixs]))
def gAll (is : List Nat) : TGs := fun vs sg H Q => vs.length = is.length ∧ Q (setAll is vs sg) H
theorem gs_nil : PGs X [] (gAll []) := ⟨fun pins s sg H vs us Q I r h => pgs_nil.run pins s sg H vs us Q I r ⟨List.eq_nil_of_length_eq_zero h.1, by
  have := List.eq_nil_of_length_eq_zero h.1
  subst this
  exact h.2⟩⟩
theorem gs_cons (i : Nat) {is : List Nat} {x : Str} {es : List Expr} (hN : X.N.Nodup) (h2 : PGs X es (gAll is)) (hi : X.N[i]? = some x := by rfl) (hx : Loc X.env.scope x := by first | exact Or.inl rfl | exact Or.inr rfl) (hf : X.fn x = true ∨ X.env.scope.names.lookup x = some .local := by first | exact .inl rfl | exact .inr rfl | assumption) :
    PGs X (.Name x pos :: es) (gAll (i :: is)) := ⟨fun pins s sg H vs us Q I r h => (pgs_cons (pg_name hN hi hx hf) h2).run pins s sg H vs us Q I r (by
  obtain ⟨hl, h⟩ := h
  cases vs with
  | nil => cases hl
  | cons v vr => exact ⟨v, vr, rfl, by simpa using hl, h⟩)⟩
theorem g_tp {is : List Nat} {es : List Expr} {k : Nat} (hc : X.calm = true) (h : PGs X es (gAll is)) (hn : (assignEach es X.env).length = is.length := by rfl) (hst : (assignEach es X.env).findIdx? (·.1) = none := by rfl) : GD X C (.Tuple es k pos) (.tp is) :=
  ((pg_tup hc h hn hst).or (pg_lst hc h hn hst)).imp fun v sg H Q ⟨e, S, io, d, e', dn, s, r, b, q⟩ => by
    obtain ⟨ds, h1, h2⟩ := bind_some' b
    split at h2
    · rename_i hl
      cases h2
      unfold parts at h1
      split at h1
      · cases h1
        cases r with
        | tup q1 rs => exact .inl ⟨_, _, rfl, sqT_same (Fz_same _ _) q1, by rw [← rs.length]; exact hl, by rw [← rs.length]; exact hl, q _ (setAll_slots is s rs) fun vs h => wipe_setAll is _ _ h⟩
      · obtain ⟨p, vs, rfl, hq, rs⟩ := asL_rep h1 dn r
        exact .inr ⟨_, _, rfl, hq, by rw [← rs.length]; exact hl, by rw [← rs.length]; exact hl, q _ (setAll_slots is s rs) fun vs h => wipe_setAll is _ _ h⟩
    · cases h2
def sAsg (t : Tg) (a : RE) : RS := fun e S => (a e S).fl e fun d S1 => match bindT S1 d e t with
  | some e' => .nx e' S1
  | none => .bad
def sPar (is : List Nat) (as : RA) : RS := fun e S => (as e S).fl e fun ds S1 => if ds.length = is.length then .nx (setAll is ds e) S1 else .bad
theorem s_par2 (i j : Nat) {x y : Str} {a b : Expr} {rs : RA} {px py pt : Pos} {kt k2 pt2} (hc : X.calm = true) (hN : X.N.Nodup) (ha : PA X [a, b] (tA X.K C W rs)) (hi : X.N[i]? = some x := by rfl) (hj : X.N[j]? = some y := by rfl) (hij : i ≠ j := by decide)
    (hx : X.env.scope.names.lookup x = some .local := by rfl) (hy : X.env.scope.names.lookup y = some .local := by rfl)
    (hw : swappedStores [.Tuple [.Name x px, .Name y py] kt pt] (.Tuple [a, b] k2 pt2) X.env = pure (some [x, y]) := by rfl)
    (hs : swapsWithSole [.Tuple [.Name x px, .Name y py] kt pt] (.Tuple [a, b] k2 pt2) pos.line X.env = pure false := by rfl) :
    PS X (.Assign [.Tuple [.Name x px, .Name y py] kt pt] (.Tuple [a, b] k2 pt2) pos) (tS X.K C W (sPar [i, j] rs)) :=
  (ps_par hc hN hi hj hij hx hy ha hw hs).imp fun Dn sg H h => (tS.seq (R := RepsR X.K C) (fun e ds S1 => if ds.length = [i, j].length then .nx (setAll [i, j] ds e) S1 else .bad) h fun _ _ => rfl).mono fun vs H1 ⟨e, S, io, k1, d, s, q, p⟩ => by
    split at p
    · rename_i hl
      match k1, vs, q, hl with
      | [d1, d2], [v1, v2], q, hl => exact ⟨v1, v2, rfl, p _ H1 io (Ext.refl _ _) d (setAll_slots [i, j] s q)⟩
      | [_, _], [_], q, hl => exact nomatch q.length
      | [_, _], [], q, hl => exact nomatch q.length
      | [_, _], _ :: _ :: _ :: _, q, hl => exact nomatch q.length
    · exact p.elim
end
def Fl.res : Fl → Res D
  | .nx _ S1 => .ok .non S1
  | .rt d S1 => .ok d S1
  | .er x _ S1 => .err x S1
  | .bad => .bad
def runDef (n : Nat) (m : RS) (ds : List D) (S : Store) : Res D := (m (ds.map some ++ List.replicate (n - ds.length) none) S).res
def spOf (K : PySem.W.Frag) (C : Nat → Addr) (n : Nat) (g : List D → Store → Res D) : Sp := fun vs H Q E =>
  vs.length = n ∧ ∃ ds S io, Den K C io S H ∧ Reps K C io (Fz io H) ds vs ∧ Post K C (RepR K C) (fun cls dd _ H' => E cls dd H') [] io H (g ds S) Q
theorem slots_start {K : PySem.W.Frag} {C : Nat → Addr} {io : Io} {F : Hp} {N : List Str} {ds : List D} {vs : List V} (r : Reps K C io F ds vs) : Slots K C io F (ds.map some ++ List.replicate (N.length - ds.length) none) (L2.start N vs) := by
  refine ⟨by simp [L2.start, r.length], fun i d h => ?_⟩
  by_cases hi : i < ds.length
  · rw [List.getElem?_append_left (by simpa using hi), List.getElem?_map] at h
    cases e : ds[i]? with
    | none => rw [e] at h; cases h
    | some x =>
      rw [e] at h
      cases h
      obtain ⟨v, h1, h2⟩ := r.get e
      refine ⟨v, ?_, h2⟩
      unfold L2.start
      rw [List.getElem?_append_left (by rw [List.length_map, ← r.length]; exact hi), List.getElem?_map, h1]
      rfl
  · rw [List.getElem?_append_right (by simpa using hi), List.getElem?_replicate] at h
    split at h <;> cases h
section
variable {P : Program} {w : World} {K : PySem.W.Frag} {mg : Str → Option Value} {base : Heap} {C : Nat → Addr}
theorem fn_ev {x qual : Str} {st : Stmt} {f : Addr} {fd : FuncData} {N ps : List Str} {k : Nat} {m : RS} (F : Fun K x qual st f fd) (S : FnScope N ps (defScope st))
    (hbody : ∀ (cdv : Value) (A : Around) (outer : List PySem.Env) (s : Shared) (H : Hp) (E : XK), Room k (A.deeper (PyProof.Rows.envOfC qual (defScope st) s.heap.objs.size f cdv)) →
      L2N.Takes (cxOf (L2N.CX P w) P w K mg base N qual (defScope st) f cdv A outer s H E) (fun cls d _ H => E cls d H) →
      PassesOwn (model P w) (cxOf (L2N.CX P w) P w K mg base N qual (defScope st) f cdv A outer s H E).A (cxOf (L2N.CX P w) P w K mg base N qual (defScope st) f cdv A outer s H E).env (cxOf (L2N.CX P w) P w K mg base N qual (defScope st) f cdv A outer s H E).xe →
      PSs (cxOf (L2N.CX P w) P w K mg base N qual (defScope st) f cdv A outer s H E) (defBody st) (tS K C (fun cls d _ H => E cls d H) m)) :
    FnOk P w K mg base (L2N.CX P w) (k + 1) f fd ps (spOf K C ps.length (runDef N.length m)) := by
  refine F.okN S (fun vs H Q E h => h.1) (fun cdv A outer s H vs Q E hr h => ?_)
  refine ⟨_, hbody cdv A outer s H E hr (L2N.takes_of rfl rfl rfl rfl) (passes_of rfl), ?_⟩
  obtain ⟨hl, ds, S, io, dn, rs, p⟩ := h
  refine ⟨_, S, io, dn, slots_start rs, ?_⟩
  unfold runDef Fl.res at p
  split at p
  · rename_i e S1 q
    rw [q]
    exact fun sg H' io' x d s => p _ H' io' x d .non
  · rename_i d S1 q
    rw [q]
    exact p
  · rename_i x e S1 q
    rw [q]
    exact fun cls dd sg H' io' x d s xr => p cls dd H' io' x d xr
  · exact p.elim
end
def rCall (g : List D → Store → Res D) (as : RA) : RE := fun e S => (as e S).bind fun ds S1 => g ds S1
end Ev
namespace Ev
open PySem PySem.Spec L2
def Wk (K : PySem.W.Frag) (C : Nat → Addr) : Io → Hp → List D → It → Prop := fun io F ds J =>
  ∀ (io' : Io) (H' : Hp) (S' : Store), (∀ (n : Nat) (a : Addr), io.l[n]? = some a → io'.l[n]? = some a) → Same F (Fz io' H') → Den K C io' S' H' →
    (∀ i, i < ds.length → J.go i H') ∧ J.stop ds.length H' ∧ ∀ i x H'', i < ds.length → J.yld i H' x H'' → ∃ d, ds[i]? = some d ∧ Ext io' H' io' H'' ∧ Den K C io' S' H'' ∧ Rep K C io' (Fz io' H'') d x
abbrev tI (K : PySem.W.Frag) (C : Nat → Addr) (W : WX) (r : RA) : TI := tR K C (Wk K C) W r
def rangeD (lo : Int) (n : Nat) : List D := (List.range n).map fun (i : Nat) => D.int (lo + (i : Int))
theorem wk_range {K : PySem.W.Frag} {C : Nat → Addr} {io : Io} {F : Hp} (lo : Int) (n : Nat) : Wk K C io F (rangeD lo n) (Itr lo n) := fun io' H' S' hp hs dn => by
  refine ⟨fun i hi => by show i < n; simpa [rangeD] using hi, by show n ≤ _; simp [rangeD], fun i x H'' hi y => ?_⟩
  obtain ⟨rfl, rfl⟩ := y
  have hi' : i < n := by simpa [rangeD] using hi
  exact ⟨.int (lo + i), by simp [rangeD, hi'], Ext.refl _ _, dn, .int _⟩
theorem _root_.L2.PI.imp {X : Cx} {tg e : Expr} {t t' : TI} (h : PI X tg e t) (hi : ∀ sg H Q, t' sg H Q → t sg H Q) : PI X tg e t' := ⟨fun pins s sg H Q I hw => h.run pins s sg H Q I (hi _ _ _ hw)⟩
theorem _root_.L2.PI.or {X : Cx} {tg e : Expr} {t t' : TI} (h : PI X tg e t) (h' : PI X tg e t') : PI X tg e (fun sg H Q => t sg H Q ∨ t' sg H Q) := ⟨fun pins s sg H Q I hw => hw.elim (h.run pins s sg H Q I) (h'.run pins s sg H Q I)⟩
def signsD (x : Str) : List D := x.cps.toList.map fun c => .str ⟨#[c]⟩
def itemsD : D → Option (List D)
  | .tup xs => some xs
  | .lst xs => some xs
  | .str x => some (signsD x)
  | _ => none
def rIt (a : RE) : RA := fun e S => (a e S).bind fun d S1 => ofO (itemsD d) S1
def ran1 : List D → Option (List D)
  | [.int j] => if -(2 ^ 62) ≤ j ∧ j < 2 ^ 62 then some (rangeD 0 j.toNat) else none
  | _ => none
def ran2 : List D → Option (List D)
  | [.int i, .int j] => if -(2 ^ 62) ≤ i ∧ i < 2 ^ 62 ∧ -(2 ^ 62) ≤ j ∧ j < 2 ^ 62 then some (rangeD i (j - i).toNat) else none
  | _ => none
def rRan (f : List D → Option (List D)) (as : RA) : RA := fun e S => (as e S).bind fun ds S1 => ofO (f ds) S1
section
variable {X : Cx} {C : Nat → Addr} {W : WX} {tg a b : Expr} {ra : RE} {rs : RA} {pos p : Pos}
theorem ei_range1 (hg : Gl X "range") (hm : X.mg "range" = none) (ha : PA X [a] (tA X.K C W rs)) (hs : starEach [a] X.env = [(false, eval a X.env)] := by rfl) : PI X tg (.Call (.Name "range" p) [a] [] pos) (tI X.K C W (rRan ran1 rs)) :=
  (pi_range1 hg hm ha hs).imp fun sg H R h => (tR.seq1 (R := RepsR X.K C) (fun _ ds S => ofO (ran1 ds) S) h fun _ _ => rfl).mono fun vs H1 ⟨e, S, io, ds, dn, s, r, p1⟩ => by
    obtain ⟨zs, ed, p1⟩ := p1.ofO
    unfold ran1 at ed
    split at ed
    · split at ed
      · rename_i hj
        cases ed
        obtain ⟨v, rfl, h⟩ := reps1 r
        cases h
        exact ⟨_, rfl, hj.1, hj.2, p1 _ H1 io (Ext.refl _ _) dn (wk_range 0 _)⟩
      · cases ed
    · cases ed
end
def forL (t : Tg) (body : RS) : List D → RS
  | [], e, S => .nx e S
  | d :: ds, e, S => match bindT S d e t with
    | none => .bad
    | some e1 => (body e1 S).andThen (forL t body ds)
def sFor (it : RA) (t : Tg) (body : RS) : RS := fun e S => (it e S).fl e fun ds S1 => forL t body ds e S1
section
variable {X : Cx} {C : Nat → Addr} {W : WX} {tg iter c : Expr} {ri : RA} {body : List Stmt} {mb : RS} {t : Tg} {tc : RT} {pos : Pos}
theorem s_for (hp : PassesOwn (model X.prog X.w) X.A X.env X.xe) (hc : X.calm = true) (hi : PI X tg iter (tI X.K C W ri)) (hg : GD X C tg t) (hb : PSs X body (tS X.K C W mb)) (hs : ∀ x, foldedSetIterable iter X.env x = pure x := by intro _; rfl) :
    PS X (.For tg iter body [] pos) (tS X.K C W (sFor ri t mb)) :=
  (ps_for hp hc hi hg hb hs).imp fun Dn sg H h => (tS.seq (R := Wk X.K C) (fun e ds S1 => forL t mb ds e S1) h fun _ _ => rfl).mono fun J H1 ⟨e, S, io, ds, dn, s, wk, p⟩ => by
    refine ⟨fun i m sg' H' => m + i = ds.length ∧ ∃ e' S' io', Ext io H1 io' H' ∧ Den X.K C io' S' H' ∧ Slots X.K C io' (Fz io' H') e' sg' ∧ PostS X.K C W io' H' (forL t mb (ds.drop i) e' S') Dn,
      ⟨ds.length, rfl, e, S, io, Ext.refl _ _, dn, s, p⟩, fun i m sg' H' ⟨hm, e', S', io', x', d', s', p'⟩ => ?_⟩
    obtain ⟨go, stop, yld⟩ := wk io' H' S' x'.pre x'.same d'
    by_cases hi : i < ds.length
    · rw [List.drop_eq_getElem_cons hi] at p'
      refine .inr ⟨go i hi, fun sg2 H2 => ∃ e2 S2 io2, Ext io H1 io2 H2 ∧ Den X.K C io2 S2 H2 ∧ Slots X.K C io2 (Fz io2 H2) e2 sg2 ∧ PostS X.K C W io2 H2 (forL t mb (ds.drop (i + 1)) e2 S2) Dn, fun sg2 H2 h2 => ⟨m - 1, by omega, by omega, h2⟩, fun x H2 y => ?_⟩
      obtain ⟨d, ed, x2, d2, r2⟩ := yld i x H2 hi y
      have ed' : ds[i] = d := by rw [List.getElem?_eq_getElem hi] at ed; exact Option.some.inj ed
      rw [ed'] at p'
      unfold forL at p'
      cases hb : bindT S' d e' t with
      | none => rw [hb] at p'; exact p'.elim
      | some e1 =>
        rw [hb] at p'
        refine ⟨e', S', io', d, e1, d2, s'.ext x2, r2, hb, fun sg3 s3 _ => ⟨e1, S', io', d2, s3, ?_⟩⟩
        have p2 := PostS.ext x2 p'
        cases q : mb e1 S' with
        | nx e4 S4 =>
          simp only [q, Fl.andThen] at p2
          exact fun sg4 H4 io4 x4 d4 s4 => ⟨e4, S4, io4, (x'.trans x2).trans x4, d4, s4, PostS.ext x4 p2⟩
        | rt d4 S4 => simp only [q, Fl.andThen] at p2; exact p2
        | er x4 e4 S4 => simp only [q, Fl.andThen] at p2; exact p2
        | bad => simp only [q, Fl.andThen] at p2; exact p2
    · have e1 : ds.length = i := by omega
      rw [List.drop_of_length_le (by omega)] at p'
      rw [e1] at stop
      exact .inl ⟨stop, p' sg' H' io' (Ext.refl _ _) d' s'⟩
end
def putIx (S : Store) (o i v : D) : Option Store := match o, i with
  | .loc n, .int k => match S[n]? with
    | some (.lst xs) => (ixN xs.length k).bind fun j => some (S.set n (.lst (xs.set j v)))
    | _ => none
  | _, _ => none
def sPutIx (a o i : RE) : RS := fun e S => (a e S).fl e fun v S1 => (o e S1).fl e fun x S2 => (i e S2).fl e fun y S3 => match putIx S3 x y v with
  | some S4 => .nx e S4
  | none => .bad
def sAug (i : Nat) (f : Store → D → D → Option D) (a : RE) : RS := fun e S => match e[i]? with
  | some (some x) => (a e S).fl e fun y S1 => match f S1 x y with
    | some z => .nx (e.set i (some z)) S1
    | none => .bad
  | _ => .bad
section
variable {X : Cx} {C : Nat → Addr} {W : WX} {a o i : Expr} {ra ro ri : RE} {pos tpos : Pos}
theorem Den.list {K : PySem.W.Frag} {io : Io} {S : Store} {H : Hp} {n : Nat} {p : Addr} {xs : List D} (dn : Den K C io S H) (e : S[n]? = some (.lst xs)) (h : io.l[n]? = some p) : ∃ vs, H p = some (.lst vs) ∧ Reps K C io (Fz io H) xs vs := dn.obj n _ p e h
theorem Den.setL {K : PySem.W.Frag} {io : Io} {S : Store} {H : Hp} {n : Nat} {p : Addr} {ys : List D} {us : List V} (dn : Den K C io S H) (h : io.l[n]? = some p) (r : Reps K C io (Fz io H) ys us) : Ext io H io (upd H p (.lst us)) ∧ Den K C io (S.set n (.lst ys)) (upd H p (.lst us)) :=
  have hm : p ∈ io.all := mem_all h
  ⟨Ext.put hm, dn.put h ⟨us, upd_same, by rw [Fz_upd_old hm]; exact r⟩⟩
theorem s_putIx (ha : PE X a (tE X.K C W ra)) (ho : PE X o (tE X.K C W ro)) (hi : PE X i (tE X.K C W ri))
    (hA : ∀ v, assign (.Subscript o i tpos) X.env v = (do
      let ov ← holding [v] (eval o X.env)
      let iv ← holding [v, ov] (eval i X.env)
      standAt tpos
      holding [v, ov, iv] (setItem ov iv v)
      release [v, ov, iv] []) := by intro _; rfl)
    (hs : swapsWithSole [.Subscript o i tpos] a pos.line X.env = pure false := by rfl) (hw : swappedStores [.Subscript o i tpos] a X.env = pure none := by rfl) (h1 : (assignEach [.Subscript o i tpos] X.env).map (·.2) = [assign (.Subscript o i tpos) X.env] := by rfl) :
    PS X (.Assign [.Subscript o i tpos] a pos) (tS X.K C W (sPutIx ra ro ri)) :=
  (ps_asg ha (pg_sub ho hi set_list hA) hs hw h1).imp fun Dn sg H h => (tS.seq (R := RepR X.K C) (fun e v S1 => (ro e S1).fl e fun x S2 => (ri e S2).fl e fun y S3 => match putIx S3 x y v with | some S4 => .nx e S4 | none => .bad) h fun _ _ => rfl).mono fun v H1 ⟨e, S, io, v1, dn, s, r, p⟩ =>
    ⟨e, S, io, dn, s, (p.of_res (R := RepR X.K C) s).mono fun x H2 ⟨io2, S2, x1, x2, d2, r2, p2⟩ => ⟨e, S2, io2, d2, s.ext x2, (p2.of_res (R := RepR X.K C) (s.ext x2)).mono fun y H3 ⟨io3, S3, y1, x3, d3, r3, p3⟩ => by
      cases hp : putIx S3 x1 y1 v1 with
      | none => rw [hp] at p3; exact p3.elim
      | some S4 =>
        rw [hp] at p3
        unfold putIx at hp
        split at hp
        · rename_i n k
          cases r3
          split at hp
          · rename_i xs es
            obtain ⟨j, hj, hp⟩ := bind_some' hp
            cases hp
            cases r2 with
            | loc q =>
              have q3 := x3.pre _ _ q
              obtain ⟨vs, e1, rs⟩ := d3.list es q3
              obtain ⟨xx, dd⟩ := d3.setL (ys := xs.set j v1) q3 (rs.set ((r.ext x2).ext x3) j)
              exact ⟨_, vs, _, j, rfl, rfl, e1, by rw [← rs.length]; exact hj, p3 sg _ io3 xx dd (((s.ext x2).ext x3).ext xx)⟩
          · cases hp
        · cases hp⟩⟩
end
def tyD (S : Store) : D → Option String
  | .non => some "NoneType"
  | .bl _ => some "bool"
  | .int _ => some "int"
  | .str _ => some "str"
  | .tup _ => some "tuple"
  | .lst _ => some "list"
  | .dct _ _ => some "dict"
  | .dcf _ _ => some "dict"
  | .loc n => match S[n]? with
    | some (.lst _) => some "list"
    | some (.dK _ _) => some "dict"
    | _ => none
  | .exn _ _ _ => none
  | .dcT _ _ => none
theorem tyD_rep {K : PySem.W.Frag} {C : Nat → Addr} {io : Io} {S : Store} {H : Hp} {d : D} {v : V} {t : String} (h : tyD S d = some t) (dn : Den K C io S H) (r : Rep K C io (Fz io H) d v) : TyX K H v (.type t) := by
  cases r with
  | non => cases h; exact .base .non
  | bl => cases h; exact .base (.bl _)
  | int => cases h; exact .base (.int _)
  | str => cases h; exact .base (.str _)
  | tup q rs =>
    cases h
    rcases q with (q | ⟨o, q⟩) | ⟨o, its, n, hk, hc, _⟩
    · exact .base (.tup (Fz_same _ _ _ _ q))
    · exact .fTuple (Fz_same _ _ _ _ q)
    · exact .kTuple hk hc
  | lst q rs =>
    cases h
    rcases q with (q | ⟨o, q⟩) | ⟨o, its, n, hk, hc, _⟩
    · exact .base (.lst (Fz_same _ _ _ _ q))
    · exact .base (.frz (Fz_same _ _ _ _ q))
    · exact .kList hk hc
  | dct q e1 e2 rs => cases h; exact .base (.dK (Fz_same _ _ _ _ q))
  | dcf q e1 e2 rs => cases h; exact .fDict (Fz_same _ _ _ _ q)
  | dcT q e1 e2 rs => cases h
  | @loc n a q =>
    simp only [tyD] at h
    split at h
    · rename_i ys e
      cases h
      obtain ⟨vs, h1, h2⟩ := dn.obj n _ a e q
      exact .base (.lst h1)
    · rename_i ks ys e
      cases h
      obtain ⟨kvs, h1, h2, h3⟩ := dn.obj n _ a e q
      exact .base (.dK h1)
    · cases h
  | exn0 => cases h
  | exnF => cases h
def isiD (T : String) (S : Store) (d : D) : Option D := (tyD S d).bind fun t => (kitB t T).bind fun b => some (.bl b)
end Ev
namespace Ev
open PySem PySem.Spec L2
theorem Den.notXd {K : PySem.W.Frag} {C : Nat → Addr} {io : Io} {S : Store} {H : Hp} (d : Den K C io S H) {p : Addr} {fs : List (Str × V)} (h : H p = some (.xd fs)) : p ∉ io.all := fun z => by
  obtain ⟨u, e, m⟩ := d.at z
  rw [h] at e; cases e; cases m
theorem exn_rep {K : PySem.W.Frag} {C : Nat → Addr} {io : Io} {S : Store} {H : Hp} {a : Addr} {x : Exn} {cls : Value} {dd : Option Addr} (dn : Den K C io S H) (na : H a = none) (xr : XR K C io H x cls dd) :
    Rep K C io (Fz io (upd H a (exH a cls dd))) (.exn x.c x.ns x.xs) (.ref a) := by
  obtain ⟨rfl, xr⟩ := xr
  have e1 : Fz io (upd H a (exH a (.ref (C x.c)) dd)) a = some (exH a (.ref (C x.c)) dd) := by rw [Fz_out (dn.fresh na)]; exact upd_same
  rcases xr with ⟨h1, h2, rfl⟩ | ⟨d, fs, rfl, h1, h2, r⟩
  · rw [h1, h2]
    exact .exn0 e1
  · refine .exnF (fs := fs) e1 ?_ h2 rfl (r.ext (Ext.new dn na))
    rw [Fz_out (dn.notXd h1), upd_ne (ne_of_none h1 na)]
    exact h1
def Fl.clr (i : Nat) : Fl → Fl
  | .nx e S => .nx (e.set i none) S
  | .rt d S => .rt d S
  | _ => .bad
def catchAs (sub : Nat → Option Bool) (i : Nat) (suite : RS) (x : Exn) (e : Env) (S : Store) : Fl := match sub x.c with
  | some true => (suite (e.set i (some (.exn x.c x.ns x.xs))) S).clr i
  | some false => .er x e S
  | none => .bad
def sTryAs (sub : Nat → Option Bool) (i : Nat) (body suite : RS) : RS := fun e S => match body e S with
  | .er x e1 S1 => catchAs sub i suite x e1 S1
  | f => f
end Ev
namespace Ev
open PySem PySem.Spec L2
abbrev TK := Sum String Nat
def tkV (C : Nat → Addr) : TK → Value
  | .inl t => .type t
  | .inr c => .ref (C c)
def tkD (S : Store) : D → Option TK
  | .exn c _ _ => some (.inr c)
  | d => (tyD S d).bind fun t => some (.inl t)
section
variable {X : Cx} {C : Nat → Addr} {W : WX} {pins : List (Addr × Obj)} {sg : L2.St} {H : Hp} {s : Shared} {io : Io} {S : Store} {d : D} {v : V} {u : Value} {k : TK}
theorem kitD (hX : ∀ c, k = .inr c → ExcC X.K (C c)) (h : tkD S d = some k) (I : L2.Inv X pins sg H s) (dn : Den X.K C io S H) (r : Rep X.K C io (Fz io H) d v) (ru : RelV v u) :
    ∃ P : Heap → Prop, PySem.W.KitX X.K u (tkV C k) P ∧ P s.heap ∧ u ≠ .builtin "__main__.__loader__#opaque" := by
  have base : ∀ t, tyD S d = some t → k = .inl t → ∃ P : Heap → Prop, PySem.W.KitX X.K u (tkV C k) P ∧ P s.heap ∧ u ≠ .builtin "__main__.__loader__#opaque" := fun t e1 e2 => by
    subst e2
    exact kit_of I ru (tyD_rep e1 dn r)
  have flat : (tyD S d).bind (fun t => some (Sum.inl t : TK)) = some k → ∃ P : Heap → Prop, PySem.W.KitX X.K u (tkV C k) P ∧ P s.heap ∧ u ≠ .builtin "__main__.__loader__#opaque" := fun h => by
    obtain ⟨t, e, e2⟩ := bind_some' h
    cases e2
    exact base t e rfl
  cases r with
  | @exn0 c a q =>
    cases h
    have E := hX c rfl
    obtain ⟨⟨oe, vs, h1, h2, h3, h4⟩, _, _⟩ := I.hok a _ (Fz_same _ _ _ _ q)
    cases ru
    refine ⟨fun h => PySem.W.InstAt h a oe (C c) none, PySem.W.handS_kitx_exc E.hg E.hk E.hs E.hd E.ha E.hn E.ht E.hm, ?_, fun z => nomatch z⟩
    obtain ⟨oc, od, oda, osl⟩ := oe
    dsimp only at h2 h3 h4
    subst h2 h3 h4
    exact ⟨h1, rfl, rfl, trivial⟩
  | @exnF c a dd fs ns vs ds q q2 e1 e2 rs =>
    cases h
    have E := hX c rfl
    obtain ⟨⟨oe, vs, h1, h2, h3, h4⟩, _, _⟩ := I.hok a _ (Fz_same _ _ _ _ q)
    obtain ⟨mA, ⟨od, _, _, ho, _⟩, _⟩ := I.hok dd _ (Fz_same _ _ _ _ q2)
    cases ru
    have hcl : (PySem.W.clsIn X.K (C c)).isSome = true := by
      obtain ⟨cd, hc, _⟩ := PySem.W.any_some E.hd
      rw [hc]; rfl
    refine ⟨fun h => PySem.W.InstAt h a oe (C c) (some od), PySem.W.kitx_exc hcl E.hg E.hk E.hs E.ha E.hn E.ht E.hm, ?_, fun z => nomatch z⟩
    obtain ⟨oc, odd, oda, osl⟩ := oe
    dsimp only at h2 h3 h4
    subst h2 h3 h4
    exact ⟨h1, rfl, rfl, ho⟩
  | non => exact flat h
  | bl b => exact flat h
  | int i => exact flat h
  | str x => exact flat h
  | tup q rs => exact flat h
  | lst q rs => exact flat h
  | dct q a b rs => exact flat h
  | dcf q a b rs => exact flat h
  | dcT q a b rs => exact flat h
  | loc q => exact flat h
end
def isiQ (kq : TK → Option Bool) (S : Store) (d : D) : Option D := (tkD S d).bind fun k => (kq k).bind fun b => some (.bl b)
def kqAny : List (TK → Option Bool) → TK → Option Bool
  | [], _ => some false
  | q :: qs, k => (q k).bind fun b => if b = true then some true else kqAny qs k
section
variable {X : Cx} {C : Nat → Addr} {W : WX} {a e2 : Expr} {es : List Expr} {ra : RE} {c : V} {cs : List V} {cv : Value} {cvs : List Value} {kq : TK → Option Bool} {pos p p' : Pos}
theorem ee_isiQ (ha : PE X a (tE X.K C W ra)) (hg : Gl X "isinstance") (hm : X.mg "isinstance" = none) (hc : PE X e2 (tC c)) (hk : ClsV c cv) (hq : ∀ k b, kq k = some b → PySem.W.kitOne X.K (tkV C k) cv = some b) (hX : ∀ n b, kq (.inr n) = some b → ExcC X.K (C n))
    (hv0 : bootBuiltins "isinstance" = some (.builtin "isinstance") := by decide +kernel)
    (he : starEach [a, e2] X.env = (false, eval a X.env) :: starEach [e2] X.env := by rfl) (he2 : starEach [e2] X.env = [(false, eval e2 X.env)] := by rfl) : PE X (.Call (.Name "isinstance" p) [a, e2] [] pos) (tE X.K C W (rUn (isiQ kq) ra)) := by
  have hC : CallR X (.builtin "isinstance") (fun xs H Q => ∃ x io S d k b, xs = [x, c] ∧ Den X.K C io S H ∧ Rep X.K C io (Fz io H) d x ∧ tkD S d = some k ∧ kq k = some b ∧ Q (.bl b) H) := by
    intro pins s sg H xs us Q I r ⟨x, io, S, d, k, b, hx, dn, rd, ek, eb, q⟩
    subst hx
    obtain ⟨u1, u2, rfl, r1, r2⟩ := vals2 r
    have e2 := hk.eq r2
    subst e2
    obtain ⟨P, Z, p, hx⟩ := kitD (fun n e => hX n b (by rw [← e]; exact eb)) ek I dn rd r1
    exact PySem.W.kia_one Z I.kIn p (hq k b eb) hx fun tk => ⟨.bl b, H, I.tok tk, rfl, q⟩
  exact (pe_callB hC hg hm hv0 (pa_cons ha (pa_cons hc pa_nil he2) he) (by decide) (by decide) he (by rw [he2]; rfl)).imp fun sg H Q h => (tR.seq1 (R := RepR X.K C) (fun _ d S => ofO (isiQ kq S d) S) h fun _ _ => rfl).mono fun v H1 ⟨e, S, io, d, dn, s, r, p⟩ => by
    obtain ⟨z, ez, p⟩ := p.ofO
    obtain ⟨t, et, ez⟩ := bind_some' ez
    obtain ⟨b, eb, ez⟩ := bind_some' ez
    cases ez
    exact ⟨v, io, S, d, t, b, rfl, dn, r, et, eb, p _ H1 io (Ext.refl _ _) dn (.bl _)⟩
inductive KqAll (K : PySem.W.Frag) (C : Nat → Addr) : List (TK → Option Bool) → List Value → Prop
  | nil : KqAll K C [] []
  | cons {q : TK → Option Bool} {qs : List (TK → Option Bool)} {v : Value} {vs : List Value} (h : ∀ k b, q k = some b → PySem.W.kitOne K (tkV C k) v = some b) (hX : ∀ n b, q (.inr n) = some b → ExcC K (C n)) (r : KqAll K C qs vs) : KqAll K C (q :: qs) (v :: vs)
theorem KqAll.any {K : PySem.W.Frag} : ∀ {qs : List (TK → Option Bool)} {vs : List Value}, KqAll K C qs vs → ∀ k b, kqAny qs k = some b → PySem.W.kitAny K (tkV C k) vs = some b
  | _, _, .nil, k, b, h => by cases h; exact kitAny_nil
  | _, _, .cons hq _ r, k, b, h => by
    obtain ⟨b1, e1, e2⟩ := bind_some' h
    cases b1 with
    | true =>
      rw [if_pos rfl] at e2
      cases e2
      exact kitAny_cons (hq k _ e1) (fun z => nomatch z) fun _ => rfl
    | false =>
      rw [if_neg Bool.false_ne_true] at e2
      exact kitAny_cons (hq k _ e1) (fun _ => KqAll.any r k b e2) fun z => nomatch z
end
theorem law_end {K : PySem.W.Frag} {C : Nat → Addr} {g : List D → Store → Res D} {H : Hp} {a : Addr} {ns : List Int} (hS : SqL K H a (ns.map V.int)) (h : ∃ S', g [.lst (ns.map D.int)] [] = .ok (.bl true) S') :
    spOf K C 1 g [.ref a] H (fun v _ => v = .bl true) (fun _ _ _ => False) := by
  obtain ⟨S', e⟩ := h
  have e0 : Fz ⟨[], [], []⟩ H = H := by funext b; unfold Fz Io.all; simp
  have intsR : ∀ ms : List Int, Reps K C ⟨[], [], []⟩ H (ms.map D.int) (ms.map V.int) := fun ms => by
    induction ms with
    | nil => exact .nil
    | cons m r ih => exact .cons (.int m) ih
  refine ⟨rfl, [.lst (ns.map D.int)], [], ⟨[], [], []⟩, ⟨rfl, List.nodup_nil, fun n o a h => (by cases h), fun p h => (by cases h)⟩, .cons (.lst (by rw [e0]; exact hS) (by rw [e0]; exact intsR ns)) .nil, ?_⟩
  rw [e]
  exact fun v H' io' x d r => by cases r; rfl
theorem cx_end {P : Program} {w : World} {H : Hp} {s : Shared} {e : Value} {s' : Shared} (h : L2N.CX P w [] H s (fun _ _ _ => False) e s') : False := by
  obtain ⟨_, _, _, _, _, _, _, _, _, _, _, _, h⟩ := h
  exact h
end Ev
namespace Ev
open PySem PySem.Spec L2
section
variable {X : Cx} {C : Nat → Addr} {W : WX} {pos : Pos} {x : Str}
def rDct0 : RE := fun _ S => .ok (.dct [] []) S
theorem ee_dct0 : PE X (.Dict [] [] pos) (tE X.K C W rDct0) := pe_dnewK.imp fun sg H Q ⟨e, S, io, d, s, p⟩ => fun q hq => by
  refine p _ _ io (Ext.new d hq) (d.new hq) (.dct (kvs := []) ?_ rfl rfl .nil)
  rw [Fz_out (d.fresh hq)]
  exact upd_same
end
end Ev
namespace Ev
open PySem PySem.Spec L2
def wipeE (e : Env) : List Nat → Env
  | [] => e
  | v :: vs => (wipeE e vs).set v none
def Res.calm {A : Type} : Res A → Res A
  | .ok a S => .ok a S
  | _ => .bad
def lcL (t : Tg) (c : RT) (elt : RE) (e0 : Env) : List D → Store → Res (List D)
  | [], S => .ok [] S
  | d :: ds, S => match bindT S d e0 t with
    | none => .bad
    | some e1 => (c e1 S).bind fun k S1 => if k = true then (elt e1 S1).bind fun y S2 => (lcL t c elt e0 ds S2).bind fun ys S3 => .ok (y :: ys) S3 else lcL t c elt e0 ds S1
def frzL : List D → Store → Res D := fun ys S => .ok (.lst ys) S
def rLc (fin : List D → Store → Res D) (it : RA) (t : Tg) (vs : List Nat) (c : RT) (elt : RE) : RE := fun e S => (it e S).bind fun ds S1 => if ds.length ≤ sizeLine then (lcL t c elt (wipeE e vs) ds S1).calm.bind fin else .bad
theorem Slots.wipe {K : PySem.W.Frag} {C : Nat → Addr} {io : Io} {F : Hp} {e : Env} {sg : L2.St} (s : Slots K C io F e sg) : ∀ vs : List Nat, Slots K C io F (wipeE e vs) (wipe sg vs)
  | [] => s
  | v :: vs => (Slots.wipe s vs).none v
def FinOk (fin : List D → Store → Res D) : Prop := ∀ (K : PySem.W.Frag) (C : Nat → Addr) (W : WX) (sg : L2.St) (io0 io : Io) (H0 H : Hp) (S : Store) (p : Addr) (ys : List D) (vs : List V) (Q : VK),
  (∀ (n : Nat) (a : Addr), io0.l[n]? = some a → io.l[n]? = some a) → (io.h = io0.h ∧ io.k = io0.k) → Same (Fz io0 H0) (Fz (io.hide p (.lst vs)) H) → Den K C (io.hide p (.lst vs)) S H → Reps K C io (Fz (io.hide p (.lst vs)) H) ys vs → Post K C (RepR K C) W sg io0 H0 (fin ys S) Q → Q (.ref p) H
theorem frzL_ok : FinOk frzL := fun K C W sg io0 io H0 H S p ys vs Q hp hh hs dn rs post => by
  obtain ⟨d1, np, e⟩ := dn.unhide
  obtain ⟨s1, e1⟩ := Fz_unhide np e
  exact post _ H io ⟨hp, hh.1, hs.trans s1, hh.2⟩ d1 (.lst (.inl (.inl e1)) (rs.mono (fun _ _ h => h) s1))
def gTg (K : PySem.W.Frag) (C : Nat → Addr) (t : Tg) : TG := fun v sg H Q => ∃ e S io d e', Den K C io S H ∧ Slots K C io (Fz io H) e sg ∧ Rep K C io (Fz io H) d v ∧ bindT S d e t = some e' ∧ ∀ sg', Slots K C io (Fz io H) e' sg' → Agree t sg sg' → Q sg' H
section
variable {X : Cx} {C : Nat → Addr} {W : WX} {elt tg iter : Expr} {ifs : List Expr} {scope : Scope} {own : List (Str × Nat)} {pos : Pos} {ri : RA} {t : Tg} {rc : RT} {re : RE} {fin : List D → Store → Res D}
theorem lc_read (hfin : FinOk fin) (sg : L2.St) (H : Hp) (Q : VK) (vs : List Nat) (hv : ∀ i ∈ t.ixs, i ∈ vs) (h : tE X.K C W (rLc fin ri t vs rc re) sg H Q) :
    tLc (tI X.K C W ri) (gTg X.K C t)
      (tT X.K C (fun _ _ _ _ => False) rc) (tE X.K C (fun _ _ _ _ => False) re) vs sg H Q := by
  refine (tR.seq1 (R := Wk X.K C) (fun e ds S1 => if ds.length ≤ sizeLine then (lcL t rc re (wipeE e vs) ds S1).calm.bind fin else .bad) h fun _ _ => rfl).mono fun J H1 ⟨e, S, io, ds, dn, sl, wk, post⟩ => ?_
  split at post
  · rename_i hz
    intro p hp
    let Done : List D → Store → Prop := fun ys S2 => Post X.K C (RepR X.K C) W sg io H1 (fin ys S2) Q
    refine ⟨fun i m H' => m + i = ds.length ∧ ∃ S' io' acc ys, (∀ (n : Nat) (a : Addr), io.l[n]? = some a → io'.l[n]? = some a) ∧ (io'.h = io.h ∧ io'.k = io.k) ∧ Same (Fz io H1) (Fz (io'.hide p (.lst acc)) H') ∧
        Den X.K C (io'.hide p (.lst acc)) S' H' ∧ Reps X.K C io' (Fz (io'.hide p (.lst acc)) H') ys acc ∧ acc.length ≤ i ∧ ∃ zs S2, lcL t rc re (wipeE e vs) (ds.drop i) S' = .ok zs S2 ∧ Done (ys ++ zs) S2,
      ⟨ds.length, rfl, S, io, [], [], fun _ _ h => h, ⟨rfl, rfl⟩, by rw [Fz_hide hp]; exact fun _ _ h => h, dn.hide hp rfl, .nil, Nat.le_refl _, ?_⟩, fun i m H' ⟨hm, S', io', acc, ys, h1, h2, h3, d', rs, hl, zs, S2, hlc, hd⟩ => ?_⟩
    · cases q : lcL t rc re (wipeE e vs) ds S with
      | ok zs S2 => rw [q] at post; exact ⟨zs, S2, q, post⟩
      | err x S2 => rw [q] at post; exact post.elim
      | bad => rw [q] at post; exact post.elim
    obtain ⟨go, stop, yld⟩ := wk (io'.hide p (.lst acc)) H' S' h1 h3 d'
    by_cases hi : i < ds.length
    · rw [List.drop_eq_getElem_cons hi] at hlc
      refine .inr ⟨go i hi, fun H2 => ∃ S' io' acc ys, (∀ (n : Nat) (a : Addr), io.l[n]? = some a → io'.l[n]? = some a) ∧ (io'.h = io.h ∧ io'.k = io.k) ∧ Same (Fz io H1) (Fz (io'.hide p (.lst acc)) H2) ∧
        Den X.K C (io'.hide p (.lst acc)) S' H2 ∧ Reps X.K C io' (Fz (io'.hide p (.lst acc)) H2) ys acc ∧ acc.length ≤ i + 1 ∧ ∃ zs S2, lcL t rc re (wipeE e vs) (ds.drop (i + 1)) S' = .ok zs S2 ∧ Done (ys ++ zs) S2, fun H2 h2 => ⟨m - 1, by omega, by omega, h2⟩, fun x H2 y => ?_⟩
      obtain ⟨d, ed, x2, d2, r2⟩ := yld i x H2 hi y
      have ed' : ds[i] = d := by rw [List.getElem?_eq_getElem hi] at ed; exact Option.some.inj ed
      rw [ed'] at hlc
      unfold lcL at hlc
      cases hb : bindT S' d (wipeE e vs) t with
      | none => rw [hb] at hlc; cases hlc
      | some e1 =>
        rw [hb] at hlc
        dsimp only at hlc
        have hs2 : Slots X.K C (io'.hide p (.lst acc)) (Fz (io'.hide p (.lst acc)) H2) (wipeE e vs) (wipe sg vs) := by
          have s0 := sl.wipe vs
          refine ⟨s0.len, fun j q hq => ?_⟩
          obtain ⟨v, v1, v2⟩ := s0.get j q hq
          exact ⟨v, v1, (v2.mono (io' := io'.hide p (.lst acc)) h1 h3).mono (fun _ _ z => z) x2.same⟩
        refine ⟨wipeE e vs, S', io'.hide p (.lst acc), d, e1, d2, hs2, r2, hb, fun sg3 s3 ag => ⟨?_, e1, S', io'.hide p (.lst acc), d2, s3, ?_⟩⟩
        · rw [ag vs hv]
          have : ∀ s : L2.St, wipe (wipe s vs) vs = wipe s vs := fun s => by
            apply List.ext_getElem?
            intro j
            rw [wipe_get, wipe_get, wipe_length]
            by_cases hj : j ∈ vs <;> simp [hj]
          exact this sg
        cases hc : rc e1 S' with
        | err y Sy => rw [hc] at hlc; cases hlc
        | bad => rw [hc] at hlc; cases hlc
        | ok k S3 =>
          rw [hc] at hlc
          intro b H3 io3 x3 d3 eb
          cases eb
          -- the list that is filled is still there
          have hh3 : io3.h = (p, HO.lst acc) :: io'.h := x3.hid
          have e3 : io3 = (⟨io3.l, io'.h, io'.k⟩ : Io).hide p (.lst acc) := by
            have hk3 : _ = io'.k := x3.kep
            show io3 = ⟨io3.l, _ :: io'.h, io'.k⟩
            rw [← hh3, ← hk3]
          cases k with
          | false =>
            replace hlc : lcL t rc re (wipeE e vs) (ds.drop (i + 1)) S3 = .ok zs S2 := hlc
            rw [if_neg Bool.false_ne_true]
            have px := x2.trans x3
            refine ⟨S3, ⟨io3.l, io'.h, io'.k⟩, acc, ys, fun n a hn => px.pre n a (h1 n a hn), h2, ?_, ?_, ?_, by omega, zs, S2, hlc, hd⟩
            · rw [← e3]; exact h3.trans px.same
            · rw [← e3]; exact d3
            · rw [← e3]; exact rs.mono (io := io') (io' := ⟨io3.l, io'.h, io'.k⟩) px.pre px.same
          | true =>
            replace hlc : ((re e1 S3).bind fun y S2 => (lcL t rc re (wipeE e vs) (ds.drop (i + 1)) S2).bind fun ys S3 => Res.ok (y :: ys) S3) = .ok zs S2 := hlc
            rw [if_pos rfl]
            refine ⟨e1, S3, io3, d3, s3.ext x3, ?_⟩
            cases he : re e1 S3 with
            | err y Sy => rw [he] at hlc; cases hlc
            | bad => rw [he] at hlc; cases hlc
            | ok y1 S4 =>
              rw [he] at hlc
              replace hlc : ((lcL t rc re (wipeE e vs) (ds.drop (i + 1)) S4).bind fun ys S3 => Res.ok (y1 :: ys) S3) = .ok zs S2 := hlc
              intro v H4 io4 x4 d4 r4
              have hh4 : io4.h = (p, HO.lst acc) :: io'.h := x4.hid.trans hh3
              have e4 : io4 = (⟨io4.l, io'.h, io'.k⟩ : Io).hide p (.lst acc) := by
                have hk4 : _ = io'.k := x4.kep.trans x3.kep
                show io4 = ⟨io4.l, _ :: io'.h, io'.k⟩
                rw [← hh4, ← hk4]
              have px := (x2.trans x3).trans x4
              have hD : H4 p = some (.lst acc) := (d4.hid (p, .lst acc) (by rw [hh4]; exact List.mem_cons_self)).1
              refine ⟨acc, hD, by omega, ?_⟩
              cases hr : lcL t rc re (wipeE e vs) (ds.drop (i + 1)) S4 with
              | err q Sq => rw [hr] at hlc; cases hlc
              | bad => rw [hr] at hlc; cases hlc
              | ok zs' S5 =>
                rw [hr] at hlc
                cases hlc
                have fz : Fz ((⟨io4.l, io'.h, io'.k⟩ : Io).hide p (.lst (acc ++ [v]))) (upd H4 p (.lst (acc ++ [v]))) = Fz io4 H4 := by
                  rw [Fz_hide_put (o := .lst acc), ← e4]
                refine ⟨S4, ⟨io4.l, io'.h, io'.k⟩, acc ++ [v], ys ++ [y1], fun n a hn => px.pre n a (h1 n a hn), h2, ?_, ?_, ?_, by simp; omega, zs', S2, hr, by rw [List.append_assoc]; exact hd⟩
                · rw [fz]; exact h3.trans px.same
                · rw [e4] at d4
                  exact d4.rehide rfl
                · rw [fz]
                  exact (rs.mono (io := io') (io' := ⟨io4.l, io'.h, io'.k⟩) px.pre px.same).append (.cons (r4.mono (io := io4) (io' := ⟨io4.l, io'.h, io'.k⟩) (fun _ _ z => z) fun _ _ z => z) .nil)
    · have e1 : ds.length = i := by omega
      rw [List.drop_of_length_le (by omega)] at hlc
      cases hlc
      rw [e1] at stop
      rw [List.append_nil] at hd
      exact .inl ⟨stop, hfin X.K C W sg io io' H1 H' S' p ys acc Q h1 h2 h3 d' rs hd⟩
  · exact post.elim
theorem s_setLc (i : Nat) {vs : List Nat} {y : Str} {py spos : Pos} (hfin : FinOk fin) (hc : X.calm = true) (hN : X.N.Nodup) (hsw : swapsWith (.ListComp elt [⟨tg, iter, ifs, 0⟩] scope pos) (some (.Name y py)) spos.line X.env = pure true)
    (hi : PI X tg iter (tI X.K C W ri)) (ok : BlkOk X.N X.env.scope scope own) (hw : own.map (·.2) = vs) (hv : ∀ i ∈ t.ixs, i ∈ vs)
    (hg : ∀ (s : Shared) (H : Hp) (A : Addr) (cl : List (Str × Addr)) (fp : List Addr), GD (X.blk s H scope (compEnvC scope cl A X.env) fp) C tg t)
    (ht : ∀ (s : Shared) (H : Hp) (A : Addr) (cl : List (Str × Addr)) (fp : List Addr), PTs (X.blk s H scope (compEnvC scope cl A X.env) fp) ifs (tT X.K C (fun _ _ _ _ => False) rc))
    (he : ∀ (s : Shared) (H : Hp) (A : Addr) (cl : List (Str × Addr)) (fp : List Addr), PE (X.blk s H scope (compEnvC scope cl A X.env) fp) elt (tE X.K C (fun _ _ _ _ => False) re)) (hs : ∀ x, foldedSetIterable iter X.env x = pure x := by intro _; rfl)
    (hy : X.N[i]? = some y := by rfl) (hyl : X.env.scope.names.lookup y = some .local := by rfl) :
    PS X (.Assign [.Name y py] (.ListComp elt [⟨tg, iter, ifs, 0⟩] scope pos) spos) (tS X.K C W (sSet i (rLc fin ri t vs rc re))) := by
  subst hw
  exact (ps_setLc (g := gTg X.K C t) hc hN hy hyl hsw hi ok hg ht he hs).imp fun Dn sg H h => lc_read hfin sg H _ _ hv ((tS.seq (R := RepR X.K C) (fun e d S1 => .nx (e.set i (some d)) S1) h fun _ _ => rfl).mono fun v H1 ⟨e, S, io, k1, d, s, q, p⟩ => p _ H1 io (Ext.refl _ _) d (s.set i q))
theorem et_if1 {c : Expr} (h : PT X c (tT X.K C W rc)) : PTs X [c] (tT X.K C W rc) := pts_one h
end
end Ev
namespace Ev
open PySem PySem.Spec L2 PyProof.Rows
def ItEs (x : Str) : It := ⟨fun i _ => i < x.cps.size, fun i H v H' => ∃ T c, x.cps[i]? = some c ∧ v = .ref T ∧ H T = none ∧ H' = upd H T (.tup [.int (i : Nat), .str ⟨#[c]⟩]), fun i _ => x.cps.size ≤ i⟩
theorem draws_str {P : Program} {w : World} {A : Around} (hh : A.handled = none) (it : Addr) (x : Str) (t : Tok) :
    Draws P w A it [it] x.cps.size (fun i v => ∃ c u, x.cps[i]? = some c ∧ v = .str ⟨#[c]⟩ u) (fun i h => h.IsStrIter it (strIterType x) x t i) := by
  unfold strIterType
  split
  · exact Draws.strAscii hh it x t
  · exact Draws.strWide hh it x t
theorem turn_enumS {P : Program} {w : World} {K : PySem.W.Frag} {elts : List Expr} {kk : Nat} {tpos : Pos} (x : Str) (t : Tok) (e it : Addr) :
    Turn P w K (.Tuple elts kk tpos) (ItEs x) [e, it] e (fun i h => (∃ old, IsEnum h e it ((i : Nat) : Int) old) ∧ h.IsStrIter it (strIterType x) x t i ∧ e ≠ it ∧ i ≤ x.cps.size) where
  mem := by simp
  obj := fun i h st b hb => by
    obtain ⟨⟨old, he⟩, ⟨o, ho, hc, hd⟩, _⟩ := st
    have e' : b = e ∨ b = it := by simpa using hb
    rcases e' with z | z
    · rw [z]; exact ⟨_, he, fun v q => nomatch q⟩
    · rw [z]; exact ⟨o, ho, fun v q => by rw [hd] at q; cases q⟩
  keep := fun i h h' st k => let ⟨⟨old, he⟩, ⟨o, ho, r⟩, hne, hle⟩ := st; ⟨⟨old, k e (by simp) _ he⟩, ⟨o, k it (by simp) o ho, r⟩, hne, hle⟩
  item := by
    intro X hP hw hK hc i pins s σ H E I hf st hg
    subst hP hw hK
    obtain ⟨⟨old, he⟩, hit, hne, hle⟩ := st
    have hel : e < s.heap.objs.size := Heap.lt_size he
    have hil : it < s.heap.objs.size := by obtain ⟨_, q, _⟩ := hit; exact Heap.lt_size q
    refine wpAny_pyNext_enum_itemD (draws_str (A := X.A.in1) (show X.A.in1.handled = none from I.ok.hd hc) it x t) he hit hg hne (by simp only [List.mem_singleton]; exact hne) fun v h' tk hv ho hit' hT hsz hk => ?_
    obtain ⟨c, u, hcx, rfl⟩ := hv
    refine ⟨_, rfl, wpAny_letOwnedTupleGo_enum (s := { s with heap := h', toks := tk + 1 }) ho fun h'' he' sb => ?_⟩
    have hT2 : h''.get? s.heap.objs.size = some { cls := .type "tuple", data := .seq #[.int i tk, .str ⟨#[c]⟩ u] } := (sb.2 _ (Nat.ne_of_gt hel)).trans hT
    have new : ObjOk X.prog X.w (upd H s.heap.objs.size (.tup [.int (i : Nat), .str ⟨#[c]⟩])) h'' s.heap.objs.size (.tup [.int (i : Nat), .str ⟨#[c]⟩]) :=
      ⟨by show 2 ≤ sizeLine; decide, [.int i tk, .str ⟨#[c]⟩ u], .cons ⟨_, rfl⟩ (.cons ⟨_, rfl⟩ .nil), ⟨_, hT2, rfl, _, rfl⟩⟩
    have I1 : Inv X pins σ (upd H s.heap.objs.size (.tup [.int (i : Nat), .str ⟨#[c]⟩])) { s with heap := h'', toks := tk + 1 } :=
      I.turnedNew (ch := [e, it]) (fun b ob hb q => (sb.2 b (fun z => hb (by simp [z]))).trans (hk b ob (fun z => hb (by simp [z])) (fun z => hb (by simp [z])) q)) hf (Nat.le_refl _) new
    refine ⟨.ref s.heap.objs.size, _, I1, rfl, ⟨_, c, hcx, rfl, I.hok.fresh (Nat.le_refl _), rfl⟩, ⟨⟨.str ⟨#[c]⟩ u, ?_⟩, ?_, hne, hg⟩, fun b hb => ?_⟩
    · have e1 : ((i + 1 : Nat) : Int) = (i : Int) + 1 := by omega
      rw [e1]; exact he'
    · obtain ⟨o, ho2, r⟩ := hit'
      exact ⟨o, (sb.2 it (Ne.symm hne)).trans ho2, r⟩
    · have hb' : b < s.heap.objs.size := by
        have e' : b = e ∨ b = it := by simpa using hb
        rcases e' with z | z
        · rw [z]; exact hel
        · rw [z]; exact hil
      rw [upd_ne (Nat.ne_of_lt hb')]
      exact (hf b hb).1
  done := by
    intro X hP hw hK hc i pins s σ H E I hf st hg
    subst hP hw hK
    obtain ⟨⟨old, he⟩, hit, hne, hle⟩ := st
    obtain ⟨f0, f1, f2, f3, f4, f5⟩ := hf it (by simp)
    have hi : i = x.cps.size := Nat.le_antisymm hle hg
    subst hi
    exact wpAny_pyNext_enum_endD (draws_str (A := X.A.in1) (show X.A.in1.handled = none from I.ok.hd hc) it x t) he hit fun h' eb => ⟨rfl, I.turned (t' := s.toks) (fun b o hb q => eb b o hb q) f0 f1 f3 f4 f5⟩
  self := fun A i s Q E st h => let ⟨⟨_, he⟩, _⟩ := st; wpAny_pyIter_enum he h
section
variable {prog : Program} {w : World} {A : Around} {E : Value → Shared → Prop} {s : Shared}
theorem wpAny_pyNext_enum_endT {e it t : Addr} {i : Nat} {items : Array Value} {old : Value} {Q : Option Value → Shared → Prop} (hh : A.in1.handled = none)
    (he : IsEnum s.heap e it i old) (hit : s.heap.IsTupleIter it t i) (ht : s.heap.IsTuple t items) (hx : items[i]? = none)
    (hQ : ∀ h', Heap.ExtBut it s.heap h' → Q none { s with heap := h' }) : wpAny (model prog w) A (pyNext (.ref e)) Q E s := by
  have hT : s.TypeIs (.ref e) "enumerate" := ⟨_, he, rfl⟩
  unfold pyNext
  refine wpAny_bind (wpAny_attempt (wpAny_callSpecial?_slot (name := Str.ofString "__next__") hT F.slot_enumerate_next
    (wpAny_call_entry F.slot_enumerate_next hT F.entry_enumerate_next ?_ (F.args_enumerate_next_1 _))))
  show wpAny _ _ (field (.ref e) 2 >>= _) _ _ _
  refine wpAny_bind (wpAny_field he rfl (x := .ref it) rfl ?_)
  refine wpAny_bind (wpAny_nextOf_tuple_end hh hit ht hx fun h' x he' hx' => ?_)
  obtain ⟨o, ho, hc⟩ := hx'
  refine wpAny_bind (wpAny_isInstance (T := "StopIteration") (b := true) ⟨o, ho, hc⟩ isSubtype_stop ?_)
  exact wpAny_pure (hQ _ he')
theorem meets_enumerate_newT (l : Addr) (items : Array Value) :
    Meets (Builtin.«enumerate.__new__» ⟨[.type "enumerate", .ref l], []⟩) (fun _ R s => s.heap.IsTuple l items ∧
      R (.ok (.ret (.ref (s.heap.push { cls := .type "tuple_iterator", data := .fields #[.ref l, .int 0 0] }).objs.size)))
        { s with heap := (s.heap.push { cls := .type "tuple_iterator", data := .fields #[.ref l, .int 0 0] }).push { cls := .type "enumerate", data := .fields #[.none, .bool false, .ref s.heap.objs.size, rawInt 0, .none, .none] } }) :=
  .of_wp fun prog w A R s h => by
    obtain ⟨hp, g, d, tk, os⟩ := s; obtain ⟨hL, h⟩ := h
    have hsub := sub_enumerate
    obtain ⟨⟨c, dct, dt, sl⟩, hl, hc, n, hd⟩ := id hL
    replace hc : c = .type "tuple" := hc
    replace hd : dt = .seq items n := hd
    subst hc hd
    wp_walk using AutoSeq1.wpAny_loadPart' hl
    refine wpAny_stack_any fun st => wpAny_pure ?_
    split
    · rename_i c _ _ _ _ _
      cases (c == Value.type "enumerate")
      · wp_walk using AutoSeq1.wpAny_loadPart' hl, wpAny_pyIter_tuple hL
        exact ⟨_, rfl, h⟩
      · wp_walk using AutoSeq1.wpAny_loadPart' hl, wpAny_pyIter_tuple hL
        exact ⟨_, rfl, h⟩
    · wp_walk using AutoSeq1.wpAny_loadPart' hl, wpAny_pyIter_tuple hL
      exact ⟨_, rfl, h⟩
theorem call_enumerate_tuple {l : Addr} {items : Array Value} {Q : Value → Shared → Prop} (hL : s.heap.IsTuple l items)
    (h : ∀ h', IsEnum h' (s.heap.objs.size + 1) s.heap.objs.size 0 .none → h'.IsTupleIter s.heap.objs.size l 0 → h'.objs.size = s.heap.objs.size + 2 →
      (∀ b o, s.heap.get? b = some o → h'.get? b = some o) → Q (.ref (s.heap.objs.size + 1)) { s with heap := h' }) :
    wpAny (model prog w) A (call (.type "enumerate") [.ref l]) Q E s := by
  refine callType_new F.called_enumerate (by decide) (F.typeCall_enumerate_1 _) (F.newCall_enumerate_1 _) (fun obj => F.args_object_init_2 obj _) F.entry_enumerate_new
    (meets_enumerate_newT l items) ⟨hL, ?_⟩
  have hz : (s.heap.push { cls := .type "tuple_iterator", data := .fields #[.ref l, .int 0 0] }).objs.size = s.heap.objs.size + 1 := Heap.size_push ..
  show _ ∧ _
  rw [hz]
  have he : IsEnum ((s.heap.push { cls := .type "tuple_iterator", data := .fields #[.ref l, .int 0 0] }).push
      { cls := .type "enumerate", data := .fields #[.none, .bool false, .ref s.heap.objs.size, rawInt 0, .none, .none] }) (s.heap.objs.size + 1) s.heap.objs.size 0 .none := by
    have := Heap.get?_push_size (s.heap.push { cls := .type "tuple_iterator", data := .fields #[.ref l, .int 0 0] })
      (o := { cls := .type "enumerate", data := .fields #[.none, .bool false, .ref s.heap.objs.size, rawInt 0, .none, .none] }) rfl
    rw [hz] at this; exact this
  refine ⟨⟨_, he, rfl⟩, h _ he ⟨_, Heap.get?_push_of_some _ (Heap.get?_push_size _ rfl), rfl, rfl⟩ (by rw [Heap.size_push, hz]) fun b o x => Heap.get?_push_of_some _ (Heap.get?_push_of_some _ x)⟩
end
def ItEt (K : PySem.W.Frag) (a : Addr) : It :=
  ⟨fun i H => ∃ (xs : List V) (x : V), SqT K H a xs ∧ xs[i]? = some x, fun i H v H' => ∃ T x, v = .ref T ∧ H T = none ∧ H' = upd H T (.tup [.int (i : Nat), x]) ∧ ∀ xs, SqT K H a xs → xs[i]? = some x, fun i H => ∃ xs : List V, SqT K H a xs ∧ xs.length ≤ i⟩
theorem tupIter_ne {h : Heap} {it a : Addr} {i : Nat} {its : Array Value} (st : h.IsTupleIter it a i) (p : h.IsTuple a its) : a ≠ it := fun z => by
  obtain ⟨o, e, c, _⟩ := st
  obtain ⟨o', e', c', _⟩ := p
  rw [z, e] at e'; cases e'
  rw [c] at c'; exact absurd c' (by decide)
theorem tupIter_ne2 {h : Heap} {e it a : Addr} {i : Int} {old : Value} {its : Array Value} (st : IsEnum h e it i old) (p : h.IsTuple a its) : e ≠ a := fun z => by
  obtain ⟨o', e', c', _⟩ := p
  have st' : h.get? e = some _ := st
  rw [z, e'] at st'; cases st'
  exact absurd c' (by simp)
theorem turn_enumT {P : Program} {w : World} {K : PySem.W.Frag} {elts : List Expr} {kk : Nat} {tpos : Pos} (a e it : Addr) :
    Turn P w K (.Tuple elts kk tpos) (ItEt K a) [e, it] e (fun i h => (∃ old, IsEnum h e it ((i : Nat) : Int) old) ∧ h.IsTupleIter it a i ∧ e ≠ it) where
  mem := by simp
  obj := fun i h st b hb => by
    obtain ⟨⟨old, he⟩, ⟨o, ho, hc, hd⟩, _⟩ := st
    have e' : b = e ∨ b = it := by simpa using hb
    rcases e' with z | z
    · rw [z]; exact ⟨_, he, fun v q => nomatch q⟩
    · rw [z]; exact ⟨o, ho, fun v q => by rw [hd] at q; cases q⟩
  keep := fun i h h' st k => let ⟨⟨old, he⟩, hi, hne⟩ := st; ⟨⟨old, k e (by simp) _ he⟩, hi.at fun o q => k it (by simp) o q, hne⟩
  item := by
    intro X hP hw hK hc i pins s σ H E I hf st hg
    subst hP hw hK
    obtain ⟨⟨old, he⟩, hit, hne⟩ := st
    obtain ⟨xs, x, hq, hx⟩ := hg
    obtain ⟨its, rv, p, hz⟩ := I.tuple hq
    have p' : s.heap.IsTuple a its.toArray := p
    have hai : a ≠ it := tupIter_ne hit p'
    have hea : e ≠ a := tupIter_ne2 he p'
    obtain ⟨u, hu, ru⟩ := rv.get hx
    have hel : e < s.heap.objs.size := Heap.lt_size he
    have hil : it < s.heap.objs.size := by obtain ⟨_, q, _⟩ := hit; exact Heap.lt_size q
    have hlt : i < its.toArray.size := by
      have := (List.getElem?_eq_some_iff.mp hu).1
      simpa using this
    refine wpAny_pyNext_enum_itemD (Draws.tuple (A := X.A.in1) (show X.A.in1.handled = none from I.ok.hd hc) it a hai its.toArray) he ⟨hit, p'⟩ hlt hne (by simp only [List.mem_cons, List.not_mem_nil, or_false, not_or]; exact ⟨hne, hea⟩) fun v h' tk hv ho hit' hT hsz hk => ?_
    have hvu : v = u := by
      have q : its[i]? = some v := by simpa using hv
      rw [hu] at q; cases q; rfl
    subst hvu
    refine ⟨_, rfl, wpAny_letOwnedTupleGo_enum (s := { s with heap := h', toks := tk + 1 }) ho fun h'' he' sb => ?_⟩
    have hT2 : h''.get? s.heap.objs.size = some { cls := .type "tuple", data := .seq #[.int i tk, v] } := (sb.2 _ (Nat.ne_of_gt hel)).trans hT
    have new : ObjOk X.prog X.w (upd H s.heap.objs.size (.tup [.int (i : Nat), x])) h'' s.heap.objs.size (.tup [.int (i : Nat), x]) :=
      ⟨by show 2 ≤ sizeLine; decide, [.int i tk, v], .cons ⟨_, rfl⟩ (.cons ru .nil), ⟨_, hT2, rfl, _, rfl⟩⟩
    have I1 : Inv X pins σ (upd H s.heap.objs.size (.tup [.int (i : Nat), x])) { s with heap := h'', toks := tk + 1 } :=
      I.turnedNew (ch := [e, it]) (fun b ob hb q => (sb.2 b (fun z => hb (by simp [z]))).trans (hk b ob (fun z => hb (by simp [z])) (fun z => hb (by simp [z])) q)) hf (Nat.le_refl _) new
    refine ⟨.ref s.heap.objs.size, _, I1, rfl, ⟨_, x, rfl, I.hok.fresh (Nat.le_refl _), rfl, fun ys hy => by rw [I.tuple_inj hy hq]; exact hx⟩, ⟨⟨v, ?_⟩, hit'.1.at fun o q => (sb.2 it (Ne.symm hne)).trans q, hne⟩, fun b hb => ?_⟩
    · have e1 : ((i + 1 : Nat) : Int) = (i : Int) + 1 := by omega
      rw [e1]; exact he'
    · have hb' : b < s.heap.objs.size := by
        have e' : b = e ∨ b = it := by simpa using hb
        rcases e' with z | z
        · rw [z]; exact hel
        · rw [z]; exact hil
      rw [upd_ne (Nat.ne_of_lt hb')]
      exact (hf b hb).1
  done := by
    intro X hP hw hK hc i pins s σ H E I hf st hg
    subst hP hw hK
    obtain ⟨⟨old, he⟩, hit, hne⟩ := st
    obtain ⟨xs, hq, hx⟩ := hg
    obtain ⟨its, rv, p, hz⟩ := I.tuple hq
    have p' : s.heap.IsTuple a its.toArray := p
    obtain ⟨f0, f1, f2, f3, f4, f5⟩ := hf it (by simp)
    have hl := rv.length
    have hle : its.toArray.size ≤ i := by simp; omega
    -- past the end: draw none
    refine wpAny_pyNext_enum_endT (I.ok.hd hc) he hit p' (by simp; omega) fun h' eb => ⟨rfl, I.turned (t' := s.toks) (fun b o hb q => eb b o hb q) f0 f1 f3 f4 f5⟩
  self := fun A i s Q E st h => let ⟨⟨_, he⟩, _⟩ := st; wpAny_pyIter_enum he h
theorem wk_enumS {K : PySem.W.Frag} {C : Nat → Addr} {io : Io} {F : Hp} (x : Str) : Wk K C io F ((signsD x).mapIdx fun i d => .tup [.int (i : Nat), d]) (ItEs x) := fun io' H' S' hp hs dn => by
  have hl : ((signsD x).mapIdx fun i d => D.tup [.int (i : Nat), d]).length = x.cps.size := by simp [signsD]
  refine ⟨fun i hi => by rw [hl] at hi; exact hi, by show x.cps.size ≤ _; rw [hl]; exact Nat.le_refl _, fun i v H'' hi y => ?_⟩
  obtain ⟨T, c, hc, rfl, hT, rfl⟩ := y
  obtain ⟨x1, d1, r1⟩ := new_tup (xs := [.int (i : Nat), .str ⟨#[c]⟩]) dn (.cons (.int _) (.cons (.str _) .nil)) hT
  exact ⟨.tup [.int (i : Nat), .str ⟨#[c]⟩], by simp [signsD, hc], x1, d1, r1⟩
theorem wk_enumL {K : PySem.W.Frag} {C : Nat → Addr} {io : Io} {F : Hp} {a : Addr} {vs : List V} {ds : List D} (h : SqL K F a vs) (r : Reps K C io F ds vs) : Wk K C io F (ds.mapIdx fun i d => .tup [.int (i : Nat), d]) (Ite K a) := fun io' H' S' hp hs dn => by
  have h' : SqL K H' a vs := (Fz_same _ _).seq (hs.seq h)
  have hl : (ds.mapIdx fun i d => D.tup [.int (i : Nat), d]).length = ds.length := by simp
  refine ⟨fun i hi => ?_, ⟨vs, h', by rw [hl, r.length]; exact Nat.le_refl _⟩, fun i x H'' hi y => ?_⟩
  · have hv : i < vs.length := by rw [← r.length, ← hl]; exact hi
    exact ⟨vs, vs[i], h', by simp [hv]⟩
  · obtain ⟨T, x, rfl, hT, rfl, hx⟩ := y
    obtain ⟨d, e1, e2⟩ := r.getV (hx vs h')
    obtain ⟨x1, d1, r1⟩ := new_tup (xs := [.int (i : Nat), d]) dn (.cons (.int _) (.cons (e2.mono hp hs) .nil)) hT
    exact ⟨.tup [.int (i : Nat), d], by simp [e1], x1, d1, r1⟩
theorem wk_enumT {K : PySem.W.Frag} {C : Nat → Addr} {io : Io} {F : Hp} {a : Addr} {vs : List V} {ds : List D} (h : SqT K F a vs) (r : Reps K C io F ds vs) : Wk K C io F (ds.mapIdx fun i d => .tup [.int (i : Nat), d]) (ItEt K a) := fun io' H' S' hp hs dn => by
  have h' : SqT K H' a vs := sqT_same (Fz_same _ _) (sqT_same hs h)
  have hl : (ds.mapIdx fun i d => D.tup [.int (i : Nat), d]).length = ds.length := by simp
  refine ⟨fun i hi => ?_, ⟨vs, h', by rw [hl, r.length]; exact Nat.le_refl _⟩, fun i x H'' hi y => ?_⟩
  · have hv : i < vs.length := by rw [← r.length, ← hl]; exact hi
    exact ⟨vs, vs[i], h', by simp [hv]⟩
  · obtain ⟨T, x, rfl, hT, rfl, hx⟩ := y
    obtain ⟨d, e1, e2⟩ := r.getV (hx vs h')
    obtain ⟨x1, d1, r1⟩ := new_tup (xs := [.int (i : Nat), d]) dn (.cons (.int _) (.cons (e2.mono hp hs) .nil)) hT
    exact ⟨.tup [.int (i : Nat), d], by simp [e1], x1, d1, r1⟩
def enumD : List D → Option (List D)
  | [.str x] => some ((signsD x).mapIdx fun i d => .tup [.int (i : Nat), d])
  | [.lst xs] => some (xs.mapIdx fun i d => .tup [.int (i : Nat), d])
  | [.tup xs] => some (xs.mapIdx fun i d => .tup [.int (i : Nat), d])
  | _ => none
section
variable {X : Cx} {C : Nat → Addr} {W : WX} {e : Expr} {rs : RA} {pos p tpos : Pos} {elts : List Expr} {kk : Nat}
theorem ei_enum (hg : Gl X "enumerate") (hm : X.mg "enumerate" = none) (ha : PA X [e] (tA X.K C W rs)) (hs : starEach [e] X.env = [(false, eval e X.env)] := by rfl) : PI X (.Tuple elts kk tpos) (.Call (.Name "enumerate" p) [e] [] pos) (tI X.K C W (rRan enumD rs)) := by
  have hi : PI X (.Tuple elts kk tpos) (.Call (.Name "enumerate" p) [e] [] pos) (fun sg H R => tA X.K C W rs sg H fun vs H1 => (∃ a xs, vs = [.ref a] ∧ SqL X.K H1 a xs ∧ R (Ite X.K a) H1) ∨ (∃ x, vs = [.str x] ∧ R (ItEs x) H1) ∨ (∃ a xs, vs = [.ref a] ∧ SqT X.K H1 a xs ∧ R (ItEt X.K a) H1)) := by
    refine ⟨fun pins s σ H R I h => ?_⟩
    refine Call_ (ld_blt I hg hm boot_enumerate (PyProof.Rows.callWith_type1 (thn (ha.run pos pins s σ H _ I h) fun us s1 ⟨vs, H1, I1, r1, q1⟩ => ?_) hs rfl))
    have fp : ∀ b ∈ [s1.heap.objs.size + 1, s1.heap.objs.size], s1.heap.objs.size ≤ b := fun b hb => by
      have e' : b = s1.heap.objs.size + 1 ∨ b = s1.heap.objs.size := by simpa using hb
      omega
    rcases q1 with ⟨a, xs, rfl, hq, q⟩ | ⟨x, rfl, q⟩ | ⟨a, xs, rfl, hq, q⟩
    · obtain ⟨u, rfl, r⟩ := r1.one
      cases r
      obtain ⟨its, rv, p', hz⟩ := I1.list hq
      refine call_enumerate_list p'.isList fun h' he hit hsz hk => wpAny_pyIter_enum he ?_
      have I2 : L2.Inv X pins σ H1 { s1 with heap := h' } := I1.kept (t' := s1.toks) hk
      exact ⟨s1.heap.objs.size + 1, [s1.heap.objs.size + 1, s1.heap.objs.size], _, _, H1, rfl, I2, turn_enum a (s1.heap.objs.size + 1) s1.heap.objs.size, ⟨⟨.none, he⟩, hit, Nat.succ_ne_self _⟩, fun b hb => I1.fpOk (fp b hb) (I1.hok.fresh (fp b hb)), q⟩
    · obtain ⟨u, rfl, r⟩ := r1.one
      obtain ⟨t, rfl⟩ := r
      refine call_enumerate_str fun h' he hit hsz hk => wpAny_pyIter_enum he ?_
      have I2 : L2.Inv X pins σ H1 { s1 with heap := h' } := I1.kept (t' := s1.toks) hk
      exact ⟨s1.heap.objs.size + 1, [s1.heap.objs.size + 1, s1.heap.objs.size], _, _, H1, rfl, I2, turn_enumS x t (s1.heap.objs.size + 1) s1.heap.objs.size, ⟨⟨.none, he⟩, hit, Nat.succ_ne_self _, Nat.zero_le _⟩, fun b hb => I1.fpOk (fp b hb) (I1.hok.fresh (fp b hb)), q⟩
    · obtain ⟨u, rfl, r⟩ := r1.one
      cases r
      obtain ⟨its, rv, p', hz⟩ := I1.tuple hq
      refine call_enumerate_tuple p' fun h' he hit hsz hk => wpAny_pyIter_enum he ?_
      have I2 : L2.Inv X pins σ H1 { s1 with heap := h' } := I1.kept (t' := s1.toks) hk
      exact ⟨s1.heap.objs.size + 1, [s1.heap.objs.size + 1, s1.heap.objs.size], _, _, H1, rfl, I2, turn_enumT a (s1.heap.objs.size + 1) s1.heap.objs.size, ⟨⟨.none, he⟩, hit, Nat.succ_ne_self _⟩, fun b hb => I1.fpOk (fp b hb) (I1.hok.fresh (fp b hb)), q⟩
  refine hi.imp fun sg H R h => (tR.seq1 (R := RepsR X.K C) (fun _ ds S => ofO (enumD ds) S) h fun _ _ => rfl).mono fun vs H1 ⟨e, S, io, ds, dn, s, r, p1⟩ => ?_
  obtain ⟨zs, ed, p1⟩ := p1.ofO
  unfold enumD at ed
  split at ed
  · cases ed
    obtain ⟨v, rfl, h⟩ := reps1 r
    cases h
    exact .inr (.inl ⟨_, rfl, p1 _ H1 io (Ext.refl _ _) dn (wk_enumS _)⟩)
  · cases ed
    obtain ⟨v, rfl, h⟩ := reps1 r
    cases h with
    | lst q rs => exact .inl ⟨_, _, rfl, (Fz_same _ _).seq q, p1 _ H1 io (Ext.refl _ _) dn (wk_enumL q rs)⟩
  · cases ed
    obtain ⟨v, rfl, h⟩ := reps1 r
    cases h with
    | tup q rs => exact .inr (.inr ⟨_, _, rfl, sqT_same (Fz_same _ _) q, p1 _ H1 io (Ext.refl _ _) dn (wk_enumT q rs)⟩)
  · cases ed
end
end Ev
namespace Ev
open PySem PySem.Spec L2
section
variable {X : Cx} {C : Nat → Addr}
def seqD (S : Store) : D → Option (List D)
  | .tup xs => some xs
  | d => asL S d
def listD (S : Store) : List D → Option D
  | [d] => (seqD S d).bind fun xs => some (.lst xs)
  | _ => none
def tupleD (S : Store) : List D → Option D
  | [d] => (seqD S d).bind fun xs => some (.tup xs)
  | _ => none
abbrev MF := Store → D → List D → Option (D × Store)
variable {W : WX} {o e : Expr} {es : List Expr} {ro : RE} {rs : RA} {name : Str} {apos cpos : Pos} {T id : String} {f : MF}
end
end Ev
namespace Ev
open PySem PySem.Spec L2 PyProof.Rows
structure RoomG (k : Nat) (A : Around) : Prop where
  room : Room k A
  gd : A.guards = some []
structure FnG (P : Program) (w : World) (K : PySem.W.Frag) (mg : Str → Option Value) (base : Heap) (CX : CXT) (k : Nat) (f : Addr) (fd : FuncData) (ps : List Str) (sp : Sp) : Prop where
  len : ∀ vs H Q E, sp vs H Q E → vs.length = ps.length
  run : ∀ (A : Around) (outer : List PySem.Env) (s : Shared) (H : Hp) (args : Args) (us : List Value) (vs : List V) (Q : VK) (E : XK), RoomG k A → Env0 P w K mg base A outer s H → BindsTo s fd args (ps.zip us) → Vals vs us → sp vs H Q E →
    codeAny (model P w) A (.call (.ref f) args) (CR CX outer P w H s Q E) s
theorem RoomG.mono {j k : Nat} {A : Around} (r : RoomG k A) (h : j ≤ k) : RoomG j A := ⟨r.room.mono h, r.gd⟩
theorem FnG.of {P : Program} {w : World} {K : PySem.W.Frag} {mg : Str → Option Value} {base : Heap} {CX : CXT} {k : Nat} {f : Addr} {fd : FuncData} {ps : List Str} {sp : Sp} (F : FnOk P w K mg base CX k f fd ps sp) : FnG P w K mg base CX k f fd ps sp :=
  ⟨F.len, fun A outer s H args us vs Q E hr => F.run A outer s H args us vs Q E hr.room⟩
section
variable {P : Program} {w : World} {K : PySem.W.Frag} {mg : Str → Option Value} {base : Heap} {C : Nat → Addr}
theorem fnG_ev {x qual : Str} {st : Stmt} {f : Addr} {fd : FuncData} {N ps : List Str} {k : Nat} {m : RS} (F : Fun K x qual st f fd) (S : FnScope N ps (defScope st))
    (hbody : ∀ (cdv : Value) (A : Around) (outer : List PySem.Env) (s : Shared) (H : Hp) (E : XK), RoomG k (A.deeper (envOfC qual (defScope st) s.heap.objs.size f cdv)) →
      L2N.Takes (cxOf (L2N.CX P w) P w K mg base N qual (defScope st) f cdv A outer s H E) (fun cls d _ H => E cls d H) →
      PassesOwn (model P w) (cxOf (L2N.CX P w) P w K mg base N qual (defScope st) f cdv A outer s H E).A (cxOf (L2N.CX P w) P w K mg base N qual (defScope st) f cdv A outer s H E).env (cxOf (L2N.CX P w) P w K mg base N qual (defScope st) f cdv A outer s H E).xe →
      PSs (cxOf (L2N.CX P w) P w K mg base N qual (defScope st) f cdv A outer s H E) (defBody st) (tS K C (fun cls d _ H => E cls d H) m)) :
    FnG P w K mg base (L2N.CX P w) (k + 1) f fd ps (spOf K C ps.length (runDef N.length m)) := by
  obtain ⟨oc, od, kV, doc, pm, an, cdv, ct, osl, rfl, lk, hcd⟩ := F.ex
  refine ⟨fun vs H Q E h => h.1, fun A outer s H args us vs Q E hr e0 hb r hsp => ?_⟩
  have KX : K.In s.heap := e0.mod.kin.keeps fun b o e => (e0.bs b o e).1
  have rdp := hr.room.deeper (envOfC qual (defScope st) s.heap.objs.size f cdv)
  have ht := hbody cdv A outer s H E ⟨rdp, hr.gd⟩ (L2N.takes_of rfl rfl rfl rfl) (passes_of rfl)
  have hq : tS K C (fun cls d _ H => E cls d H) m { nx := fun _ H' => Q .non H', rt := Q } (L2.start N vs) H := by
    obtain ⟨hl, ds, S, io, dn, rs, p⟩ := hsp
    refine ⟨_, S, io, dn, slots_start rs, ?_⟩
    unfold runDef Fl.res at p
    split at p
    · rename_i e S1 q
      rw [q]
      exact fun sg H' io' x d s => p _ H' io' x d .non
    · rename_i d S1 q
      rw [q]
      exact p
    · rename_i x e S1 q
      rw [q]
      exact fun cls dd sg H' io' x d s xr => p cls dd H' io' x d xr
    · exact p.elim
  refine codeAny_call_function hr.room.depth (KX _ _ lk) rfl S.co S.gen rfl (PySem.W.codeRec_of KX hcd) (hb _ _ _ _ (wpAny_newFunctionEnv_cells S.kind (fun y hy => ?_) fun env he s1 x => ?_))
  · obtain ⟨n, v⟩ := y
    exact (S.par n (List.of_mem_zip hy).1).imp id fun q => ⟨q, PySem.W.cellsFrom_some _ _ _ (.inl q)⟩
  · subst he
    have lim : s.heap.NoLimit := e0.mod.nolimit.keeps fun b o e => (e0.bs b o e).1
    refine ⟨lim.keeps x.toInCall.keep, codeAny_func (wpAny_mono (ht.run [] s1 (L2.start N vs) H _ (inv_start S hr.room.hd e0 hsp.1 r x) hq) (fun fl s' hs => ?_) fun e s' hs => hs)⟩
    cases fl with
    | ret u => obtain ⟨v, _, H', J, rv, q⟩ := hs; exact ⟨v, H', J.os, J.bare, J.base, J.hok, rv, q⟩
    | next => obtain ⟨_, H', J, q⟩ := hs; exact ⟨.non, H', J.os, J.bare, J.base, J.hok, rfl, q⟩
    | brk => obtain ⟨_, _, _, q⟩ := hs; exact False.elim q
    | cont => obtain ⟨_, _, _, q⟩ := hs; exact False.elim q
end
structure Cal (X : Cx) (f : Addr) (fd : FuncData) (ps : List Str) (sp : Sp) : Prop where
  len : ∀ vs H Q E, sp vs H Q E → vs.length = ps.length
  run : ∀ (pins : List (Addr × Obj)) (sg : L2.St) (s : Shared) (H : Hp) (args : Args) (us : List Value) (vs : List V) (Q : VK) (E : XK), L2.Inv X pins sg H s → BindsTo s fd args (ps.zip us) → Vals vs us → sp vs H Q E →
    codeAny (model X.prog X.w) X.A (.call (.ref f) args) (CR (L2N.CX X.prog X.w) X.stack X.prog X.w H s Q E) s
theorem Cal.ok {X : Cx} {k : Nat} {f : Addr} {fd : FuncData} {ps : List Str} {sp : Sp} (F : FnOk X.prog X.w X.K X.mg X.base (L2N.CX X.prog X.w) k f fd ps sp) (hr : Room k X.A) : Cal X f fd ps sp :=
  ⟨F.len, fun pins sg s H args us vs Q E I => F.run X.A X.stack s H args us vs Q E hr I.env0⟩
theorem Cal.g {X : Cx} {k : Nat} {f : Addr} {fd : FuncData} {ps : List Str} {sp : Sp} (F : FnG X.prog X.w X.K X.mg X.base (L2N.CX X.prog X.w) k f fd ps sp) (hr : RoomG k X.A) : Cal X f fd ps sp :=
  ⟨F.len, fun pins sg s H args us vs Q E I => F.run X.A X.stack s H args us vs Q E hr I.env0⟩
inductive Src where
  | p (i : Nat)
  | k (j : Nat)
  | c (d : D)
def pick1 (us ws : List D) : Src → Option D
  | .p i => us[i]?
  | .k j => ws[j]?
  | .c d => some d
def pick (us ws : List D) : List Src → Option (List D)
  | [] => some []
  | q :: r => (pick1 us ws q).bind fun x => (pick us ws r).bind fun xs => some (x :: xs)
def CstV : D → Value → Prop
  | .non, v => v = .none
  | .bl b, v => v = .bool b
  | .int i, v => ∃ t, v = .int i t
  | .str x, v => ∃ t, v = .str x t
  | _, _ => False
def srcV (us ws : List Value) : Src → Value → Prop
  | .p i, v => us[i]? = some v
  | .k j, v => ws[j]? = some v
  | .c d, v => CstV d v
inductive SrcVs (us ws : List Value) : List Src → List Value → Prop
  | nil : SrcVs us ws [] []
  | cons {q : Src} {r : List Src} {v : Value} {vs : List Value} : srcV us ws q v → SrcVs us ws r vs → SrcVs us ws (q :: r) (v :: vs)
structure BindK (K : PySem.W.Frag) (fd : FuncData) (ps : List Str) (n : Nat) (ks : List Str) (src : List Src) : Prop where
  to : ∀ (s : Shared) (us ws : List Value), K.In s.heap → us.length = n → ws.length = ks.length → ∃ zs, BindsTo s fd ⟨us, ks.zip ws⟩ (ps.zip zs) ∧ SrcVs us ws src zs
theorem BindK.plain {K : PySem.W.Frag} {fd : FuncData} {ps : List Str} {n : Nat} {ks : List Str} {src : List Src} {x qual : Str} {params : Arguments} {body : List Stmt} {scope : Scope} {kws : List (Str × V)} {f : Addr} (F : FunD K x qual params body scope [] kws f fd)
    (h : ∀ (kV doc pm : Value) (an : Option Addr) (cdv ct : Value) (us ws : List Value), us.length = n → ws.length = ks.length → ∃ zs, bindArgs (PySem.W.fnOf x qual params body scope .none kV doc pm an cdv ct) ⟨us, ks.zip ws⟩ = pure (ps.zip zs) ∧ SrcVs us ws src zs) : BindK K fd ps n ks src := by
  obtain ⟨oc, od, dV, kV, doc, pm, an, cdv, ct, osl, rfl, lk, hcd, hD, hK⟩ := F.ex
  rcases hD with ⟨_, rfl⟩ | ⟨e, _⟩
  · refine ⟨fun s us ws KI h1 h2 => ?_⟩
    obtain ⟨zs, e1, e2⟩ := h kV doc pm an cdv ct us ws h1 h2
    exact ⟨zs, .of_eq e1, e2⟩
  · exact absurd rfl e
def rCallK (g : List D → Store → Res D) (src : List Src) (as ks : RA) : RE := fun e S => (as e S).bind fun ds S1 => (ks e S1).bind fun es S2 => match pick ds es src with
  | some zs => g zs S2
  | none => .bad
theorem SrcVs.length {us ws : List Value} : ∀ {src : List Src} {zs : List Value}, SrcVs us ws src zs → zs.length = src.length
  | _, _, .nil => rfl
  | _, _, .cons _ h => by simp [SrcVs.length h]
section
variable {X : Cx} {C : Nat → Addr} {W : WX} {n : Nat} {f : Addr} {fd : FuncData} {ps ks : List Str} {g : List D → Store → Res D} {x : Str} {p pos : Pos} {e : Expr} {es : List Expr} {rs rk : RA} {src : List Src} {kws : List Keyword} {m : Nat}
theorem run_cal {pins : List (Addr × Obj)} {sg : L2.St} {H : Hp} {s : Shared} {Q : VK} {us zs : List Value} {kw : List (Str × Value)} {vs : List V} {sp : Sp} (F : Cal X f fd ps sp) (tk : L2N.Takes X W) (hb : BindsTo s fd ⟨us, kw⟩ (ps.zip zs)) (I : L2.Inv X pins sg H s) (r : Vals vs zs) (h : sp vs H Q (WE W sg)) :
    wpAny (model X.prog X.w) X.A (call (.ref f) us kw) (EP X pins sg Q) X.xe s := by
  refine wpAny_call (codeAny_mono (F.run pins sg s H _ zs vs Q (WE W sg) I hb r h) fun r s' hq => ?_)
  cases r with
  | error e => exact L2N.passAt tk sg pins H s e s' I hq
  | ok fl =>
    cases fl with
    | ret u => exact I.after hq
    | next => exact False.elim hq
    | brk => exact False.elim hq
    | cont => exact False.elim hq
theorem spOf_of {K : PySem.W.Frag} {n : Nat} {ds : List D} {vs : List V} {S : Store} {io : Io} {H : Hp} {sg : L2.St} {Q : VK} (hl : vs.length = n) (dn : Den K C io S H) (r : Reps K C io (Fz io H) ds vs) (p : Post K C (RepR K C) W sg io H (g ds S) Q) : spOf K C n g vs H Q (WE W sg) :=
  ⟨hl, ds, S, io, dn, r, by
    cases q : g ds S with
    | ok a S1 => rw [q] at p; exact p
    | err y S1 => rw [q] at p; exact p
    | bad => rw [q] at p; exact p⟩
theorem ee_callC (F : Cal X f fd ps (spOf X.K C n g)) (hg : Gl X x) (hm : X.mg x = some (.ref f)) (hk : PySem.W.keepIn X.K (.ref f) = true) (hb : Binds X.K fd ps []) (tk : L2N.Takes X W)
    (ha : PA X (e :: es) (tA X.K C W rs)) (hn : AL n rs) (hdb : (x == ("__debug__" : Str)) = false := by decide) (he : starEach (e :: es) X.env = (false, eval e X.env) :: starEach es X.env := by rfl) (hpl : (backTo pos (starEach es X.env)).any (·.1) = false := by rfl) :
    PE X (.Call (.Name x p) (e :: es) [] pos) (tE X.K C W (rCall g rs)) := by
  refine ⟨fun pins s sg H Q I h => ?_⟩
  have h2 := tA.alen hn (tR.seq1 (fun _ ds S => g ds S) h fun _ _ => rfl)
  refine wpAny_Call_Name_kw (ld_glob I hg hm ?_ hdb)
  refine PySem.W.callWith_K (h₀ := X.base) I.ok.mod.kin hk (thn (ha.run pos pins s sg H _ I h2) fun us s1 ⟨vs, H1, I1, r, hl, e, S, io, ds, dn, sl, rr, q⟩ => ⟨I1.kIn, ?_⟩) he hpl
  have hl2 : us.length = ps.length := by
    rw [← r.length]
    exact F.len vs H1 Q _ (spOf_of hl dn rr q)
  have b := hb s1 us I1.kIn (by rw [List.append_nil]; exact hl2)
  rw [List.append_nil] at b
  exact run_cal F tk b I1 r (spOf_of hl dn rr q)
end
theorem law_callG {P : Program} {w : World} {K : PySem.W.Frag} {mg mb : Str → Option Value} {k : Nat} {fa a : Addr} {fd : FuncData} {x : Str} {sp : Sp} {s1 : Shared} {vs : List Value} {ns : List Int}
    (KX : K.In s1.heap) (hns : s1.heap.Ns mainGlobals mg) (hb : s1.heap.Ns builtinsNs mb) (hbb : ∀ x : Str, x ≠ "__name__" → mb x = bootBuiltins x) (hlim : s1.heap.NoLimit) (hg : s1.gens = #[])
    (ha : s1.heap.get? a = some { cls := .type "list", data := .seq vs.toArray }) (hi : IntsAre vs ns) (hl : ns.length ≤ sizeLine) (hr : Room k callerA)
    (F : ∀ base : Heap, K.In base → base.Ns mainGlobals mg → FnG P w K mg base (L2N.CX P w) k fa fd [x] sp) (hbind : ∀ (s : Shared) (u : Value), BindsTo s fd ⟨[u], []⟩ [(x, u)])
    (hsp : ∀ H : Hp, Only H → SqL K H a (ns.map V.int) → sp [.ref a] H (fun v _ => v = .bl true) fun _ _ _ => False) :
    codeAny (model P w) callerA (.call (.ref fa) ⟨[.ref a], []⟩) (fun r s' => r = .ok (.ret (.bool true)) ∧ OldK s1.heap s'.heap ∧ s'.os = s1.os ∧ AllBare s'.gens) s1 := by
  have rv := vals_ints hi
  -- the run from a heap H that knows the script at most
  have go : ∀ H : Hp, Only H → SqL K H a (ns.map V.int) → HOk P w H s1.heap → (∀ b u, H b = some u → b = a ∧ K.lookup a = none) →
      codeAny (model P w) callerA (.call (.ref fa) ⟨[.ref a], []⟩) (fun r s' => r = .ok (.ret (.bool true)) ∧ OldK s1.heap s'.heap ∧ s'.os = s1.os ∧ AllBare s'.gens) s1 := fun H hO hS hok hA => by
    have offD : ∀ {b : Addr} {o : Obj} {es : Array DictEntry} {ep : Nat}, s1.heap.get? b = some o → o.data = .dict es ep → H b = none := fun {b o es ep} e d => by
      cases q : H b with
      | none => rfl
      | some u =>
        obtain ⟨rfl, _⟩ := hA b u q
        rw [ha] at e
        cases e
        cases d
    have nsK : ∀ {b : Addr} {m : Str → Option Value}, s1.heap.Ns b m → (hidT s1.heap H).Ns b m := fun {b m} ⟨o, es, ep, e, d, r⟩ => ⟨o, es, ep, hidT_get e (offD e d), d, r⟩
    have hKb : K.In (hidT s1.heap H) := fun b o e => hidT_get (KX b o e) (by
      cases q : H b with
      | none => rfl
      | some u =>
        obtain ⟨rfl, hk⟩ := hA b u q
        rw [hk] at e
        cases e)
    have lim : (hidT s1.heap H).NoLimit := by
      obtain ⟨mc, h1, h2⟩ := hlim
      exact ⟨mc, nsK h1, h2⟩
    have e0 : Env0 P w K mg (hidT s1.heap H) callerA [] s1 H := ⟨rfl, ⟨hKb, nsK hns, ⟨mb, nsK hb, hbb⟩, lim⟩, fun b o e => of_hidT e, Nat.le_of_eq (hidT_size _ _), trivial, fun b hb => (by cases hb), hok, .of_eq hg⟩
    refine codeAny_mono ((F _ hKb (nsK hns)).run callerA [] s1 H ⟨[.ref a], []⟩ [.ref a] [.ref a] _ _ ⟨hr, rfl⟩ e0 (hbind s1 (.ref a)) (.cons rfl .nil) (hsp H hO hS)) fun r s' h => ?_
    cases r with
    | error e => exact (cx_end h).elim
    | ok fl =>
      cases fl with
      | ret u =>
        obtain ⟨v, H', os, bare, un, hok', r', q⟩ := h
        subst q
        obtain rfl : u = Value.bool true := r'
        refine ⟨rfl, OldK.of_keep fun b o e => ?_, os, bare⟩
        rcases hO b with z | ⟨ob, xs, z⟩
        · exact un.keep b o e z (fun y => by cases y) (by simp)
        · obtain ⟨e1, _⟩ := hok b _ z
          obtain ⟨e2, _⟩ := hok' b _ (un.frzs b ob _ z)
          rw [e] at e1
          cases e1
          exact e2
      | _ => exact False.elim h
  cases hk : K.lookup a with
  | some o =>
    have e := KX a o hk
    rw [ha] at e
    cases e
    exact go (fun _ => none) (fun _ => .inl rfl) (.inr ⟨_, vs.toArray, _, hk, rfl, rfl, rfl, by rw [List.size_toArray, hi.length]; exact hl, by simpa using rv⟩) (fun b u z => by cases z) fun b u z => by cases z
  | none =>
    have at_ : ∀ {b : Addr} {u : HO}, (if b = a then some (HO.frz { cls := .type "list", data := .seq vs.toArray } (.lst (ns.map V.int))) else none) = some u → b = a ∧ u = HO.frz { cls := .type "list", data := .seq vs.toArray } (.lst (ns.map V.int)) := fun {b u} z => by
      split at z
      · cases z; exact ⟨by assumption, rfl⟩
      · cases z
    refine go (fun b => if b = a then some (.frz { cls := .type "list", data := .seq vs.toArray } (.lst (ns.map V.int))) else none) (fun b => ?_) (.inl (.inr ⟨_, if_pos rfl⟩)) (fun b u z => ?_) fun b u z => ⟨(at_ z).1, hk⟩
    · by_cases hb : b = a
      · exact .inr ⟨_, _, if_pos hb⟩
      · exact .inl (if_neg hb)
    · obtain ⟨rfl, rfl⟩ := at_ z
      exact ⟨ha, by rw [List.length_map]; exact hl, vs, _, rv, ha⟩
theorem walk_evG {l : PySem.W.OpenLaw} {n k : Nat} {q : Program} {loose : List Str} {XP : (Str → Option Value) → Heap → Prop} {YP : World → Heap → Prop} {d : DefRec} {K : Params → PySem.W.Frag} {x : Str} {g : List D → Store → Res D}
    (hn : l.most = some n) (hn2 : n ≤ sizeLine) (hdf : d.params.defaults = []) (hr : Room k callerA)
    (hY : ∀ (w : World) (h : Heap), YP w h → (K w.params).In h)
    (F : ∀ (w : World) (mg : Str → Option Value) (fa : Addr) (h : Heap), (K w.params).In h → h.Ns mainGlobals mg → mg d.name = some (.ref fa) →
      ∃ (fd : FuncData) (C : Nat → Addr), (∀ (s : Shared) (u : Value), BindsTo s fd ⟨[u], []⟩ [(x, u)]) ∧
        ∀ base : Heap, (K w.params).In base → base.Ns mainGlobals mg → FnG l.prog w (K w.params) mg base (L2N.CX l.prog w) k fa fd [x] (spOf (K w.params) C 1 g))
    (hg : ∀ ns : List Int, ns.length ≤ n → ∃ S', g [.lst (ns.map D.int)] [] = .ok (.bl true) S') :
    PySem.W.WalkO q loose XP YP l.row.toRowW d [] (fun f vs => PySem.call f vs) := by
  refine Att.attach_call hn hdf fun w s0 s1 mg mb fa o pm cd doc a vs ns G Y ho hd hcd hmg hobj hints hlen hgn => ?_
  have KX := hY w _ Y
  obtain ⟨fd, C, hb, hF⟩ := F w mg fa _ KX G.T.g hmg
  exact law_callG KX G.T.g G.T.b G.T.builtins G.T.nolimit hgn hobj hints (Nat.le_trans hlen hn2) hr hF hb (fun H hO hS => law_end hS (hg ns hlen))
end Ev
namespace Ev
open PySem PySem.Spec L2
def itemAt (S : Store) (x : D) (i : Nat) : Option (Option D) := match x with
  | .loc n => match S[n]? with
    | some (.lst xs) => some xs[i]?
    | _ => none
  | .lst xs => some xs[i]?
  | .tup xs => some xs[i]?
  | _ => none
def okIt (S : Store) : D → Bool
  | .loc n => match S[n]? with
    | some (.lst _) => true
    | _ => false
  | .lst _ => true
  | .tup _ => true
  | _ => false
def forV (t : Tg) (body : RS) (x : D) : Nat → Nat → RS
  | 0, _, _, _ => .bad
  | k + 1, i, e, S => match itemAt S x i with
    | none => .bad
    | some none => .nx e S
    | some (some d) => match bindT S d e t with
      | none => .bad
      | some e1 => (body e1 S).andThen (forV t body x k (i + 1))
def rLive (a : RE) : RE := fun e S => (a e S).bind fun d S1 => if okIt S1 d = true then .ok d S1 else .bad
def sForV (a : RE) (t : Tg) (body : RS) (k : Nat) : RS := fun e S => (rLive a e S).fl e fun x S1 => forV t body x k 0 e S1
end Ev
namespace Ev
open PySem PySem.Spec L2
def Fl.noEr : Fl → Fl
  | .er _ _ _ => .bad
  | f => f
def catchOnly (sub : Nat → Option Bool) (suite : RS) (x : Exn) (e : Env) (S : Store) : Fl := match sub x.c with
  | some true => (suite e S).noEr
  | some false => .er x e S
  | none => .bad
def sTryOnly (sub : Nat → Option Bool) (body suite : RS) : RS := fun e S => match body e S with
  | .er x e1 S1 => catchOnly sub suite x e1 S1
  | f => f
end Ev
namespace Ev
open PySem PySem.Spec L2 PyProof.Rows
def listT (S : Store) : List D → Option D
  | [.str x] => if x.length ≤ sizeLine then some (.lst (signsD x)) else none
  | as => listD S as
end Ev
namespace Ev
open PySem PySem.Spec L2
def rAddM (a b : RE) : RE := fun e S => (a e S).bind fun x S1 => (b e S1).bind fun y S2 => match asL S2 x, asL S2 y with
  | some xs, some ys => if xs.length + ys.length ≤ sizeLine then .ok (.loc S2.length) (S2 ++ [.lst (xs ++ ys)]) else .bad
  | _, _ => .bad
end Ev
namespace Ev
open PySem PySem.Spec L2 PyProof.Rows
def tupleT (S : Store) : List D → Option D
  | [.str x] => if x.length ≤ sizeLine then some (.tup (signsD x)) else none
  | as => tupleD S as
def revS (x : Str) : Str := ⟨x.cps.toList.reverse.toArray⟩
def revD (S : Store) : D → Option D
  | .str x => if x.length ≤ sizeLine then some (.str (revS x)) else none
  | _ => none
end Ev
namespace Ev
open PySem PySem.Spec L2 PyProof.Rows
section
variable {P : Program} {w : World} {K : PySem.W.Frag} {mg : Str → Option Value} {base : Heap} {C fI B : Addr} {fd : FuncData} {st : Stmt} {qual : Str} {k : Nat}
theorem exd_upd {H : Hp} {a C dx : Addr} {fs gs : List (Str × V)} (h : H dx = none) (hn : dx ≠ a) : upd (upd (upd H dx (exd dx fs)) a (exo a C (some dx))) dx (exd dx gs) = upd (upd H dx (exd dx gs)) a (exo a C (some dx)) := by
  funext b
  by_cases hb : b = dx
  · subst hb; rw [upd_same, upd_ne hn, upd_same]
  · rw [upd_ne hb]
    by_cases ha : b = a
    · subst ha; rw [upd_same, upd_same]
    · rw [upd_ne ha, upd_ne ha, upd_ne hb, upd_ne hb]
end
def sRaiseF (c : Nat) (ns : List Str) (as : RA) : RS := fun e S => (as e S).fl e fun ds S1 => if ds.length = ns.length then .er ⟨c, ns.reverse, ds.reverse⟩ e S1 else .bad
theorem Reps.reverse {K : PySem.W.Frag} {C : Nat → Addr} {io : Io} {F : Hp} : ∀ {ds : List D} {vs : List V}, Reps K C io F ds vs → Reps K C io F ds.reverse vs.reverse
  | _, _, .nil => .nil
  | _, _, .cons h r => by
    rw [List.reverse_cons, List.reverse_cons]
    exact (Reps.reverse r).append (.cons h .nil)
theorem zip_map1 {A B : Type} : ∀ (xs : List A) (ys : List B), xs.length = ys.length → (xs.zip ys).map (·.1) = xs
  | [], [], _ => rfl
  | x :: xs, y :: ys, h => by simp [zip_map1 xs ys (by simpa using h)]
theorem zip_map2 {A B : Type} : ∀ (xs : List A) (ys : List B), xs.length = ys.length → (xs.zip ys).map (·.2) = ys
  | [], [], _ => rfl
  | x :: xs, y :: ys, h => by simp [zip_map2 xs ys (by simpa using h)]
def fldD (ok : Nat → Bool) (f : Str) (S : Store) : D → Option D
  | .exn c ns xs => if ok c = true then (ns.zip xs).lookup f else none
  | _ => none
theorem lookup_rep {K : PySem.W.Frag} {C : Nat → Addr} {io : Io} {F : Hp} {f : Str} {d : D} : ∀ {fs : List (Str × V)} {xs : List D}, Reps K C io F xs (fs.map (·.2)) → ((fs.map (·.1)).zip xs).lookup f = some d → ∃ v, fs.lookup f = some v ∧ Rep K C io F d v
  | [], _, r, h => by simp at h
  | (g, v) :: fs, _, .cons (d := x) (ds := xs) rx r, h => by
    simp only [List.map_cons, List.zip_cons_cons, List.lookup_cons] at h ⊢
    cases e : f == g with
    | true => rw [e] at h; cases h; exact ⟨v, rfl, rx⟩
    | false => rw [e] at h; exact lookup_rep r h
theorem ee_fld {X : Cx} {C : Nat → Addr} {W : WX} {e : Expr} {re : RE} {f : Str} {pos : Pos} {ok : Nat → Bool} (he : PE X e (tE X.K C W re)) (hk : ∀ c, ok c = true → XfC X.K (C c) ∧ PySem.W.findIn X.K (.ref (C c)) f = some none)
    (hb : attributeBase e f X.env (eval e X.env) = eval e X.env := by rfl) : PE X (.Attribute e f pos) (tE X.K C W (rUn (fldD ok f) re)) := by
  refine ⟨fun pins s sg H Q I h => ?_⟩
  refine attr_of hb (thn (he.run pins s sg H _ I (tR.seq1 (fun _ x S => ofO (fldD ok f S x) S) h fun _ _ => rfl)) fun u s1 hh => ?_)
  obtain ⟨x, H1, I1, rx, e1, S, io, d, dn, sl, rd, p⟩ := hh
  obtain ⟨z, ez, p1⟩ := p.ofO
  clear p
  unfold fldD at ez
  split at ez
  · rename_i c ns xs
    split at ez
    · rename_i hc
      obtain ⟨T, hno⟩ := hk c hc
      cases rd with
      | exn0 _ => simp at ez
      | @exnF _ a dx fs _ vs _ ha hd h1 h2 rs =>
        subst h1
        subst h2
        obtain rfl : u = Value.ref a := rx
        obtain ⟨v, hl, rv⟩ := lookup_rep rs ez
        have ha' : H1 a = some (exH a (.ref (C c)) (some dx)) := Fz_same _ _ _ _ ha
        have hd' : H1 dx = some (.xd fs) := Fz_same _ _ _ _ hd
        have oka : ObjOk X.prog X.w H1 s1.heap a (.ext fun h => ∃ oe vs, h.get? a = some oe ∧ oe.cls = .ref (C c) ∧ oe.dict = some dx ∧ oe.data = .fields vs) := I1.hok a _ ha'
        obtain ⟨⟨oe, vs0, hoe, hcl, hdi, hda⟩, _⟩ := oka
        have hx : ObjOk X.prog X.w H1 s1.heap dx (.xd fs) := I1.hok dx _ hd'
        obtain ⟨mA, hns, hr⟩ := hx
        obtain ⟨od, ho, hlk⟩ := lookIn_ns hns
        obtain ⟨u2, hu, ru⟩ := RelO.some_of (v := v) (o := mA f) (by rw [← hl]; exact hr f)
        have J : PySem.W.InstAt s1.heap a oe (C c) (some od) := ⟨hoe, hcl, by unfold PySem.W.notCls; rw [hda] <;> rfl, by rw [hdi]; exact ho⟩
        exact HandSPX.exc_get I1.kIn J T.ga T.gg T.exC (PySem.W.findObj_own T.hdC hno rfl (by rw [hlk, hu])) (handed_of ru) ⟨v, H1, I1.tok _, ru, p1 v H1 io (Ext.refl _ _) dn rv⟩
    · cases ez
  · cases ez
end Ev
namespace Ev
open PySem PySem.Spec L2 PyProof.Rows
theorem pvx (i : Nat) {X : Cx} {x : Str} {pos : Pos} (hN : X.N[i]? = some x := by rfl) (hv : Vis X.env.scope x := by first | exact Or.inl rfl | exact Or.inr (Or.inl rfl) | exact Or.inr (Or.inr rfl)) (hd : (x == ("__debug__" : Str)) = false := by decide)
    (hcd : (x == ("__classdict__" : Str)) = false := by decide) : PE X (.Name x pos) (tVar i) := pe_var hN hv hd hcd
end Ev
namespace Ev
open PySem PySem.Spec L2 PyProof.Rows
section
variable {X : Cx} {C : Nat → Addr}
def intT (S : Store) : List D → Option D
  | [.str a] => if a.length ≤ 640 then (intText? a).bind fun n => some (.int n) else none
  | as => intD S as
def fmtD (S : Store) : D → Option D
  | .str y => if y.length ≤ sizeLine then some (.str y) else none
  | .int i => if i.natAbs.log2 < 1920 then some (.str (toString i)) else none
  | _ => none
variable {W : WX}
def rJs : List RE → Str → RE
  | [], acc, _, S => .ok (.str acc) S
  | r :: rs, acc, e, S => (r e S).bind fun x S1 => match x with
    | .str y => if (acc ++ y).length ≤ sizeLine then rJs rs (acc ++ y) e S1 else .bad
    | _ => .bad
end
end Ev
namespace Ev
open PySem PySem.Spec L2 PyProof.Rows
def repS (x : Str) (n : Nat) : Str := ⟨(List.replicate n x.cps).foldl (· ++ ·) #[]⟩
def mulT (S : Store) (a b : D) : Option D := match a, b with
  | .str x, .int n => if 1 < n ∧ n < 1000 ∧ x.length ≠ 0 ∧ x.length * n.toNat ≤ sizeLine then some (.str (repS x n.toNat)) else none
  | a, b => mulD S a b
end Ev
namespace Ev
open PySem PySem.Spec L2 PyProof.Rows
def replD (y z : Str) (S : Store) : D → Option D
  | .str x => if x.length + (x.length + 1) * z.length ≤ 16777216 then some (.str (Txt.replace x y z)) else none
  | _ => none
end Ev
namespace Ev
open PySem PySem.Spec L2 PyProof.Rows
def keyOf : D → Option Key
  | .int i => some (.inl i)
  | .str x => some (.inr x)
  | _ => none
theorem DGet.of {H : Hp} {a : Addr} {kvs : List (Key × V)} {k : Key} (e : H a = some (.dK kvs)) : DGet H a (kV k) (valV kvs k) := DGet.k e
def hasK (ks : List Key) (k : Key) : Bool := ks.any fun k' => decide (k' = k)
def repK : List Key → List D → Key → D → List D
  | k' :: ks, x :: xs, k, v => (if k' = k then v else x) :: repK ks xs k v
  | _, xs, _, _ => xs
def putKs (ks : List Key) (xs : List D) (k : Key) (v : D) : List Key × List D := if hasK ks k = true then (ks, repK ks xs k v) else (ks ++ [k], xs ++ [v])
def putD (S : Store) (x y v : D) : Option Store := match x with
  | .loc n => match S[n]? with
    | some (.dK ks xs) => (keyOf y).bind fun k => if ks.length < sizeLine then some (S.set n (.dK (putKs ks xs k v).1 (putKs ks xs k v).2)) else none
    | _ => none
  | _ => none
def sPutD (a o i : RE) : RS := fun e S => (a e S).fl e fun v S1 => (o e S1).fl e fun x S2 => (i e S2).fl e fun y S3 => match putD S3 x y v with
  | some S4 => .nx e S4
  | none => .bad
end Ev
namespace Ev
open PySem PySem.Spec L2 PyProof.Rows
inductive ZSrc (K : PySem.W.Frag) (C : Nat → Addr) (io : Io) (F : Hp) : D → List D → V → List V → Prop
  | str (x : Str) : ZSrc K C io F (.str x) (signsD x) (.str x) (x.cps.toList.map fun c => V.str ⟨#[c]⟩)
  | lst {a : Addr} {vs : List V} {ds : List D} : SqL K F a vs → Reps K C io F ds vs → ZSrc K C io F (.lst ds) ds (.ref a) vs
  | tup {a : Addr} {vs : List V} {ds : List D} : SqT K F a vs → Reps K C io F ds vs → ZSrc K C io F (.tup ds) ds (.ref a) vs
theorem ZSrc.of {K : PySem.W.Frag} {C : Nat → Addr} {io : Io} {F : Hp} {d : D} {ds : List D} {v : V} (h : itemsD d = some ds) (r : Rep K C io F d v) : ∃ vs, ZSrc K C io F d ds v vs := by
  cases r <;> cases h
  · exact ⟨_, .str _⟩
  · rename_i q r; exact ⟨_, .tup q r⟩
  · rename_i q r; exact ⟨_, .lst q r⟩
end Ev
namespace Ev
open PySem PySem.Spec L2 PyProof.Rows
mutual
def D.low (n : Nat) : D → Bool
  | .loc m => decide (m < n)
  | .tup xs => lows n xs
  | .lst xs => lows n xs
  | .dct _ xs => lows n xs
  | .dcf _ xs => lows n xs
  | .dcT _ xs => lows n xs
  | .exn _ _ xs => lows n xs
  | .non => true
  | .bl _ => true
  | .int _ => true
  | .str _ => true
def lows (n : Nat) : List D → Bool
  | [] => true
  | d :: ds => D.low n d && lows n ds
end
def MO.low (n : Nat) : MO → Bool
  | .lst xs => lows n xs
  | .dK _ xs => lows n xs
  | .dT _ xs => lows n xs
  | .dL _ xs => lows n xs
  | .ins _ _ xs => lows n xs
def lowS (n : Nat) : List MO → Bool
  | [] => true
  | o :: S => MO.low n o && lowS n S
def frzD (n : Nat) (S : Store) : D → Option D
  | .loc m => if m < n then some (.loc m) else match S[m]? with
    | some (.lst xs) => if lows n xs = true then some (.lst xs) else none
    | some (.dK ks xs) => if lows n xs = true then some (.dct ks xs) else none
    | _ => none
  | d => if D.low n d = true then some d else none
def frz (n : Nat) : Res D → Res D
  | .ok d S => match frzD n S d with
    | some d' => if lowS n (S.take n) = true then .ok d' (S.take n) else .bad
    | none => .bad
  | .err x S => if (lows n x.xs && lowS n (S.take n)) = true then .err x (S.take n) else .bad
  | .bad => .bad
end Ev
namespace Ev
open PySem PySem.Spec L2 PyProof.Rows
section
variable {X : Cx} {C : Nat → Addr} {W : WX}
def repL : Nat → List D → List D
  | 0, _ => []
  | n + 1, xs => xs ++ repL n xs
end
end Ev
namespace Ev
open PySem PySem.Spec L2 PyProof.Rows
def rPrs : List (Str × RE) → Env → Store → Res (List D)
  | [], _, S => .ok [] S
  | p :: l, e, S => (p.2 e S).bind fun d S1 => (rPrs l e S1).bind fun ds S2 => .ok (d :: ds) S2
def dispF : List Str → List D → List Key × List D → List Key × List D
  | k :: ks, d :: ds, p => dispF ks ds (putKs p.1 p.2 (.inr k) d)
  | _, _, p => p
def rDispF (l : List (Str × RE)) : RE := fun e S => (rPrs l e S).calm.bind fun ds S1 => .ok (.dct (dispF (l.map (·.1)) ds ([], [])).1 (dispF (l.map (·.1)) ds ([], [])).2) S1
def rDispM (l : List (Str × RE)) : RE := fun e S => (rPrs l e S).calm.bind fun ds S1 => .ok (.loc S1.length) (S1 ++ [.dK (dispF (l.map (·.1)) ds ([], [])).1 (dispF (l.map (·.1)) ds ([], [])).2])
def sStar (i j : Nat) (a : RE) : RS := fun e S => (a e S).fl e fun d S1 => match d with
  | .tup (x :: xs) => if xs.length ≤ 16000 then .nx (setAll [i, j] [x, .lst xs] e) S1 else .bad
  | _ => .bad
end Ev
namespace Ev
open PySem PySem.Spec L2
section
variable {e : Env} {S : Store} {A B : Type}
@[simp] theorem bind_ok (a : A) (S : Store) (f : A → Store → Res B) : (Res.ok a S).bind f = f a S := (rfl)
@[simp] theorem bind_err (x : Exn) (S : Store) (f : A → Store → Res B) : (Res.err x S).bind f = .err x S := (rfl)
@[simp] theorem fl_ok (a : A) (S : Store) (f : A → Store → Fl) : (Res.ok a S).fl e f = f a S := (rfl)
@[simp] theorem fl_err (x : Exn) (S : Store) (f : A → Store → Fl) : (Res.err x S).fl e f = .er x e S := (rfl)
@[simp] theorem then_nx (k : RS) : (Fl.nx e S).andThen k = k e S := (rfl)
@[simp] theorem then_rt (d : D) (k : RS) : (Fl.rt d S).andThen k = .rt d S := (rfl)
@[simp] theorem then_er (x : Exn) (k : RS) : (Fl.er x e S).andThen k = .er x e S := (rfl)
@[simp] theorem bind_bad (f : A → Store → Res B) : (Res.bad : Res A).bind f = .bad := (rfl)
@[simp] theorem fl_bad (f : A → Store → Fl) : (Res.bad : Res A).fl e f = .bad := (rfl)
@[simp] theorem then_bad (k : RS) : (Fl.bad).andThen k = .bad := (rfl)
@[simp] theorem ofO_none : (ofO none S : Res A) = .bad := (rfl)
@[simp] theorem res_nx : (Fl.nx e S).res = .ok .non S := (rfl)
@[simp] theorem res_rt (d : D) : (Fl.rt d S).res = .ok d S := (rfl)
@[simp] theorem res_er (x : Exn) : (Fl.er x e S).res = .err x S := (rfl)
@[simp] theorem res_ite {c : Prop} [Decidable c] (a b : Fl) : (if c then a else b).res = if c then a.res else b.res := by split <;> rfl
@[simp] theorem then_ite {c : Prop} [Decidable c] (a b : Fl) (k : RS) : (if c then a else b).andThen k = if c then a.andThen k else b.andThen k := by split <;> rfl
@[simp] theorem bind_ite {c : Prop} [Decidable c] (a b : Res A) (k : A → Store → Res B) : (if c then a else b).bind k = if c then a.bind k else b.bind k := by split <;> rfl
@[simp] theorem fl_ite {c : Prop} [Decidable c] (a b : Res A) (k : A → Store → Fl) : (if c then a else b).fl e k = if c then a.fl e k else b.fl e k := by split <;> rfl
@[simp] theorem ofO_some (a : A) : ofO (some a) S = .ok a S := (rfl)
@[simp] theorem rCon_eq (d : D) : rCon d e S = .ok d S := (rfl)
@[simp] theorem rVar_eq (i : Nat) : rVar i e S = match e[i]? with | some (some d) => .ok d S | _ => .bad := (rfl)
@[simp] theorem rBin_eq (f : Store → D → D → Option D) (a b : RE) : rBin f a b e S = (a e S).bind fun x S1 => (b e S1).bind fun y S2 => ofO (f S2 x y) S2 := (rfl)
@[simp] theorem rUn_eq (f : Store → D → Option D) (a : RE) : rUn f a e S = (a e S).bind fun x S1 => ofO (f S1 x) S1 := (rfl)
@[simp] theorem rCal_eq (f : Store → List D → Option D) (a : RA) : rCal f a e S = (a e S).bind fun xs S1 => ofO (f S1 xs) S1 := (rfl)
@[simp] theorem rCall_eq (g : List D → Store → Res D) (a : RA) : rCall g a e S = (a e S).bind fun xs S1 => g xs S1 := (rfl)
@[simp] theorem rCallK_eq (g : List D → Store → Res D) (src : List Src) (as ks : RA) : rCallK g src as ks e S = (as e S).bind fun ds S1 => (ks e S1).bind fun es S2 => match pick ds es src with | some zs => g zs S2 | none => .bad := (rfl)
@[simp] theorem pick_nil (us ws : List D) : pick us ws [] = some [] := (rfl)
@[simp] theorem pick_cons (us ws : List D) (q : Src) (r : List Src) : pick us ws (q :: r) = (pick1 us ws q).bind fun x => (pick us ws r).bind fun xs => some (x :: xs) := (rfl)
@[simp] theorem pick1_p (us ws : List D) (i : Nat) : pick1 us ws (.p i) = us[i]? := (rfl)
@[simp] theorem pick1_k (us ws : List D) (i : Nat) : pick1 us ws (.k i) = ws[i]? := (rfl)
@[simp] theorem pick1_c (us ws : List D) (d : D) : pick1 us ws (.c d) = some d := (rfl)
@[simp] theorem rNil_eq : rNil e S = .ok [] S := (rfl)
@[simp] theorem rCons_eq (a : RE) (r : RA) : rCons a r e S = (a e S).bind fun x S1 => (r e S1).bind fun xs S2 => .ok (x :: xs) S2 := (rfl)
@[simp] theorem rTup_eq (r : RA) : rTup r e S = (r e S).bind fun xs S1 => .ok (.tup xs) S1 := (rfl)
@[simp] theorem rLst_eq (r : RA) : rLst r e S = (r e S).bind fun xs S1 => .ok (.lst xs) S1 := (rfl)
@[simp] theorem rLstM_eq (r : RA) : rLstM r e S = (r e S).bind fun xs S1 => .ok (.loc S1.length) (S1 ++ [.lst xs]) := (rfl)
@[simp] theorem rAddM_eq (a b : RE) : rAddM a b e S = (a e S).bind fun x S1 => (b e S1).bind fun y S2 => match asL S2 x, asL S2 y with
  | some xs, some ys => if xs.length + ys.length ≤ sizeLine then .ok (.loc S2.length) (S2 ++ [.lst (xs ++ ys)]) else .bad
  | _, _ => .bad := (rfl)
@[simp] theorem rDct0_eq : rDct0 e S = .ok (.dct [] []) S := (rfl)
@[simp] theorem rAnd_eq (a b : RE) : rAnd a b e S = (a e S).bind fun x S1 => (ofO (truthD S1 x) S1).bind fun k S2 => if k = true then b e S2 else .ok x S2 := (rfl)
@[simp] theorem rOr_eq (a b : RE) : rOr a b e S = (a e S).bind fun x S1 => (ofO (truthD S1 x) S1).bind fun k S2 => if k = true then .ok x S2 else b e S2 := (rfl)
@[simp] theorem rNot_eq (a : RE) : rNot a e S = (a e S).bind fun x S1 => (ofO (truthD S1 x) S1).bind fun k S2 => .ok (.bl (!k)) S2 := (rfl)
@[simp] theorem rIf_eq (t : RT) (a b : RE) : rIf t a b e S = (t e S).bind fun k S1 => if k = true then a e S1 else b e S1 := (rfl)
@[simp] theorem rTest_eq (a : RE) : rTest a e S = (a e S).bind fun x S1 => ofO (asB x) S1 := (rfl)
@[simp] theorem rTruth_eq (a : RE) : rTruth a e S = (a e S).bind fun x S1 => ofO (truthD S1 x) S1 := (rfl)
@[simp] theorem rAndT_eq (a b : RT) : rAndT a b e S = (a e S).bind fun k S1 => if k = true then b e S1 else .ok false S1 := (rfl)
@[simp] theorem rOrT_eq (a b : RT) : rOrT a b e S = (a e S).bind fun k S1 => if k = true then .ok true S1 else b e S1 := (rfl)
@[simp] theorem rNotT_eq (a : RT) : rNotT a e S = (a e S).bind fun k S1 => .ok (!k) S1 := (rfl)
@[simp] theorem rChain_eq (a : RE) (k : RC) : rChain a k e S = (a e S).bind fun x S1 => k x e S1 := (rfl)
@[simp] theorem rLast_eq (f : Store → D → D → Option D) (b : RE) (x : D) : rLast f b x e S = (b e S).bind fun y S1 => ofO (f S1 x y) S1 := (rfl)
@[simp] theorem rLink_eq (f : Store → D → D → Option D) (b : RE) (k : RC) (x : D) : rLink f b k x e S = (b e S).bind fun y S1 => (ofO ((f S1 x y).bind asB) S1).bind fun t S2 => if t = true then k y e S2 else .ok (.bl false) S2 := (rfl)
@[simp] theorem rSl_eq (a : RE) (lo hi : RO) : rSl a lo hi e S = (a e S).bind fun x S1 => (lo e S1).bind fun l S2 => (hi e S2).bind fun h S3 => ofO (slD S3 x l h) S3 := (rfl)
@[simp] theorem rNoP_eq : rNoP e S = .ok none S := (rfl)
@[simp] theorem rPart_eq (a : RE) : rPart a e S = (a e S).bind fun x S1 => (ofO (asI x) S1).bind fun i S2 => .ok (some i) S2 := (rfl)
@[simp] theorem sNil_eq : sNil e S = .nx e S := (rfl)
@[simp] theorem sSeq_eq (a b : RS) : sSeq a b e S = (a e S).andThen b := (rfl)
@[simp] theorem sIf_eq (t : RT) (a b : RS) : sIf t a b e S = (t e S).fl e fun k S1 => if k = true then a e S1 else b e S1 := (rfl)
@[simp] theorem sRet_eq (a : RE) : sRet a e S = (a e S).fl e fun d S1 => .rt d S1 := (rfl)
@[simp] theorem sExp_eq (a : RE) : sExp a e S = (a e S).fl e fun _ S1 => .nx e S1 := (rfl)
@[simp] theorem sSet_eq (i : Nat) (a : RE) : sSet i a e S = (a e S).fl e fun d S1 => .nx (e.set i (some d)) S1 := (rfl)
@[simp] theorem sAsg_eq (t : Tg) (a : RE) : sAsg t a e S = (a e S).fl e fun d S1 => match bindT S1 d e t with | some e' => .nx e' S1 | none => .bad := (rfl)
@[simp] theorem sPar_eq (is : List Nat) (as : RA) : sPar is as e S = (as e S).fl e fun ds S1 => if ds.length = is.length then .nx (setAll is ds e) S1 else .bad := (rfl)
@[simp] theorem sPutIx_eq (a o i : RE) : sPutIx a o i e S = (a e S).fl e fun v S1 => (o e S1).fl e fun x S2 => (i e S2).fl e fun y S3 => match putIx S3 x y v with | some S4 => .nx e S4 | none => .bad := (rfl)
@[simp] theorem sAug_eq (i : Nat) (f : Store → D → D → Option D) (a : RE) : sAug i f a e S = match e[i]? with
  | some (some x) => (a e S).fl e fun y S1 => match f S1 x y with
    | some z => .nx (e.set i (some z)) S1
    | none => .bad
  | _ => .bad := (rfl)
@[simp] theorem sFor_eq (it : RA) (t : Tg) (body : RS) : sFor it t body e S = (it e S).fl e fun ds S1 => forL t body ds e S1 := (rfl)
@[simp] theorem rLive_eq (a : RE) : rLive a e S = (a e S).bind fun d S1 => if okIt S1 d = true then .ok d S1 else .bad := (rfl)
@[simp] theorem sForV_eq (a : RE) (t : Tg) (body : RS) (k : Nat) : sForV a t body k e S = (rLive a e S).fl e fun x S1 => forV t body x k 0 e S1 := (rfl)
@[simp] theorem rIt_eq (a : RE) : rIt a e S = (a e S).bind fun d S1 => ofO (itemsD d) S1 := (rfl)
@[simp] theorem rRan_eq (f : List D → Option (List D)) (as : RA) : rRan f as e S = (as e S).bind fun ds S1 => ofO (f ds) S1 := (rfl)
@[simp] theorem sRaiseF_eq (c : Nat) (ns : List Str) (as : RA) : sRaiseF c ns as e S = (as e S).fl e fun ds S1 => if ds.length = ns.length then .er ⟨c, ns.reverse, ds.reverse⟩ e S1 else .bad := (rfl)
@[simp] theorem sTryAs_eq (sub : Nat → Option Bool) (i : Nat) (body suite : RS) : sTryAs sub i body suite e S = match body e S with
  | .er x e1 S1 => catchAs sub i suite x e1 S1
  | f => f := (rfl)
@[simp] theorem sTryOnly_eq (sub : Nat → Option Bool) (body suite : RS) : sTryOnly sub body suite e S = match body e S with
  | .er x e1 S1 => catchOnly sub suite x e1 S1
  | f => f := (rfl)
@[simp] theorem setAll_cons {A : Type} (i : Nat) (is : List Nat) (d : A) (ds : List A) (e : List (Option A)) : setAll (i :: is) (d :: ds) e = setAll is ds (e.set i (some d)) := (rfl)
@[simp] theorem setAll_nil {A : Type} (ds : List A) (e : List (Option A)) : setAll [] ds e = e := by cases ds <;> rfl
@[simp] theorem bindT_nm (d : D) (i : Nat) : bindT S d e (.nm i) = some (e.set i (some d)) := (rfl)
@[simp] theorem bindT_tp (d : D) (is : List Nat) : bindT S d e (.tp is) = (parts S d).bind fun ds => if ds.length = is.length then some (setAll is ds e) else none := (rfl)
@[simp] theorem bindT_tn (d : D) (qs : List (Nat ⊕ List Nat)) : bindT S d e (.tn qs) = (parts S d).bind fun ds => bindN S qs ds e := (rfl)
@[simp] theorem bindN_nil : bindN S [] [] e = some e := (rfl)
@[simp] theorem bindN_inl (i : Nat) (qs : List (Nat ⊕ List Nat)) (d : D) (ds : List D) : bindN S (.inl i :: qs) (d :: ds) e = bindN S qs ds (e.set i (some d)) := (rfl)
@[simp] theorem bindN_inr (is : List Nat) (qs : List (Nat ⊕ List Nat)) (d : D) (ds : List D) : bindN S (.inr is :: qs) (d :: ds) e = (parts S d).bind fun xs => if xs.length = is.length then bindN S qs ds (setAll is xs e) else none := (rfl)
@[simp] theorem parts_tup (xs : List D) : parts S (.tup xs) = some xs := (rfl)
@[simp] theorem parts_lst (xs : List D) : parts S (.lst xs) = some xs := (rfl)
@[simp] theorem itemsD_tup (xs : List D) : itemsD (.tup xs) = some xs := (rfl)
@[simp] theorem itemsD_lst (xs : List D) : itemsD (.lst xs) = some xs := (rfl)
@[simp] theorem asB_bl (b : Bool) : asB (.bl b) = some b := (rfl)
@[simp] theorem asI_int (i : Int) : asI (.int i) = some i := (rfl)
@[simp] theorem truthD_bl (b : Bool) : truthD S (.bl b) = some b := (rfl)
@[simp] theorem truthD_int (i : Int) : truthD S (.int i) = some (i != 0) := (rfl)
@[simp] theorem truthD_non : truthD S .non = some false := (rfl)
@[simp] theorem asL_lst (xs : List D) : asL S (.lst xs) = some xs := (rfl)
@[simp] theorem asL_loc (n : Nat) : asL S (.loc n) = match S[n]? with | some (.lst xs) => some xs | _ => none := (rfl)
@[simp] theorem addD_int (i j : Int) : addD S (.int i) (.int j) = some (.int (i + j)) := (rfl)
@[simp] theorem i2_int (c : Int → Int → Bool) (g : Int → Int → D) (i j : Int) : i2 c g S (.int i) (.int j) = if c i j = true then some (g i j) else none := (rfl)
@[simp] theorem mulD_int (i j : Int) : mulD S (.int i) (.int j) = if mulOk i j = true then some (.int (i * j)) else none := (rfl)
@[simp] theorem mulT_int (i j : Int) : mulT S (.int i) (.int j) = if mulOk i j = true then some (.int (i * j)) else none := (rfl)
@[simp] theorem mulT_str (x : Str) (n : Int) : mulT S (.str x) (.int n) = if 1 < n ∧ n < 1000 ∧ x.length ≠ 0 ∧ x.length * n.toNat ≤ sizeLine then some (.str (repS x n.toNat)) else none := (rfl)
@[simp] theorem divD_int (i j : Int) : divD S (.int i) (.int j) = if (decide (0 < j) && decide (j < 18446744073709551616)) = true then some (.int (i / j)) else none := (rfl)
@[simp] theorem modD_int (i j : Int) : modD S (.int i) (.int j) = if decide (0 < j) = true then some (.int (i % j)) else none := (rfl)
@[simp] theorem powD_int (i j : Int) : powD S (.int i) (.int j) = if powOk i j = true then some (.int (i ^ j.toNat)) else none := (rfl)
@[simp] theorem shlD_int (i j : Int) : shlD S (.int i) (.int j) = if powOk i j = true then some (.int (i * 2 ^ j.toNat)) else none := (rfl)
@[simp] theorem ltD_int (i j : Int) : ltD S (.int i) (.int j) = some (.bl (decide (i < j))) := (rfl)
@[simp] theorem leD_int (i j : Int) : leD S (.int i) (.int j) = some (.bl (decide (i ≤ j))) := (rfl)
@[simp] theorem gtD_int (i j : Int) : gtD S (.int i) (.int j) = some (.bl (decide (j < i))) := (rfl)
@[simp] theorem geD_int (i j : Int) : geD S (.int i) (.int j) = some (.bl (decide (j ≤ i))) := (rfl)
@[simp] theorem negD_int (i : Int) : negD S (.int i) = some (.int (-i)) := (rfl)
@[simp] theorem absD_int (i : Int) : absD S [.int i] = some (.int (if i < 0 then -i else i)) := (rfl)
@[simp] theorem intT_int (i : Int) : intT S [.int i] = some (.int i) := (rfl)
@[simp] theorem intT_bl (b : Bool) : intT S [.bl b] = some (.int (if b = true then 1 else 0)) := by cases b <;> rfl
@[simp] theorem intT_str (a : Str) : intT S [.str a] = if a.length ≤ 640 then (intText? a).bind fun n => some (.int n) else none := (rfl)
@[simp] theorem fmtD_int (i : Int) : fmtD S (.int i) = if i.natAbs.log2 < 1920 then some (.str (toString i)) else none := (rfl)
@[simp] theorem fmtD_str (y : Str) : fmtD S (.str y) = if y.length ≤ sizeLine then some (.str y) else none := (rfl)
@[simp] theorem fldD_exn (ok : Nat → Bool) (f : Str) (c : Nat) (ns : List Str) (xs : List D) : fldD ok f S (.exn c ns xs) = if ok c = true then (ns.zip xs).lookup f else none := (rfl)
@[simp] theorem replD_str (y z x : Str) : replD y z S (.str x) = if x.length + (x.length + 1) * z.length ≤ 16777216 then some (.str (Txt.replace x y z)) else none := (rfl)
@[simp] theorem parts_loc (n : Nat) : parts S (.loc n) = asL S (.loc n) := (rfl)
@[simp] theorem rJs_nil (acc : Str) : rJs [] acc e S = .ok (.str acc) S := (rfl)
@[simp] theorem rJs_cons (r : RE) (rs : List RE) (acc : Str) : rJs (r :: rs) acc e S = (r e S).bind fun x S1 => match x with
    | .str y => if (acc ++ y).length ≤ sizeLine then rJs rs (acc ++ y) e S1 else .bad
    | _ => .bad := (rfl)
@[simp] theorem intD_int (i : Int) : intD S [.int i] = some (.int i) := (rfl)
@[simp] theorem intD_bl (b : Bool) : intD S [.bl b] = some (.int (if b = true then 1 else 0)) := by cases b <;> rfl
@[simp] theorem maxD2_int (i j : Int) : maxD2 S [.int i, .int j] = some (.int (if j > i then j else i)) := (rfl)
@[simp] theorem minD2_int (i j : Int) : minD2 S [.int i, .int j] = some (.int (if j < i then j else i)) := (rfl)
@[simp] theorem listT_lst (xs : List D) : listT S [.lst xs] = some (.lst xs) := (rfl)
@[simp] theorem listT_tup (xs : List D) : listT S [.tup xs] = some (.lst xs) := (rfl)
@[simp] theorem listT_str (x : Str) : listT S [.str x] = if x.length ≤ sizeLine then some (.lst (signsD x)) else none := (rfl)
@[simp] theorem listT_loc (n : Nat) : listT S [.loc n] = (asL S (.loc n)).bind fun xs => some (.lst xs) := (rfl)
@[simp] theorem tupleT_str (x : Str) : tupleT S [.str x] = if x.length ≤ sizeLine then some (.tup (signsD x)) else none := (rfl)
@[simp] theorem tupleT_lst (xs : List D) : tupleT S [.lst xs] = some (.tup xs) := (rfl)
@[simp] theorem tupleT_tup (xs : List D) : tupleT S [.tup xs] = some (.tup xs) := (rfl)
@[simp] theorem tupleT_loc (n : Nat) : tupleT S [.loc n] = (asL S (.loc n)).bind fun xs => some (.tup xs) := (rfl)
@[simp] theorem revD_str (x : Str) : revD S (.str x) = if x.length ≤ sizeLine then some (.str (revS x)) else none := (rfl)
@[simp] theorem lenD_lst (xs : List D) : lenD S [.lst xs] = some (.int xs.length) := (rfl)
@[simp] theorem lenD_tup (xs : List D) : lenD S [.tup xs] = some (.int xs.length) := (rfl)
theorem isiD_of {T t : String} {d : D} {b : Bool} (h1 : tyD S d = some t) (h2 : kitB t T = some b) : isiD T S d = some (.bl b) := by
  unfold isiD; rw [h1, Option.bind_some, h2, Option.bind_some]
@[simp] theorem isi_int_non : isiD "int" S .non = some (.bl false) := isiD_of rfl (by decide +kernel)
@[simp] theorem isi_int_bl (b : Bool) : isiD "int" S (.bl b) = some (.bl true) := isiD_of rfl (by decide +kernel)
@[simp] theorem isi_int_int (i : Int) : isiD "int" S (.int i) = some (.bl true) := isiD_of rfl (by decide +kernel)
@[simp] theorem isi_int_str (x : Str) : isiD "int" S (.str x) = some (.bl false) := isiD_of rfl (by decide +kernel)
@[simp] theorem isi_int_tup (xs : List D) : isiD "int" S (.tup xs) = some (.bl false) := isiD_of rfl (by decide +kernel)
@[simp] theorem isi_int_lst (xs : List D) : isiD "int" S (.lst xs) = some (.bl false) := isiD_of rfl (by decide +kernel)
@[simp] theorem isi_int_dct (ks : List Key) (xs : List D) : isiD "int" S (.dct ks xs) = some (.bl false) := isiD_of rfl (by decide +kernel)
@[simp] theorem isi_bool_non : isiD "bool" S .non = some (.bl false) := isiD_of rfl (by decide +kernel)
@[simp] theorem isi_bool_bl (b : Bool) : isiD "bool" S (.bl b) = some (.bl true) := isiD_of rfl (by decide +kernel)
@[simp] theorem isi_bool_int (i : Int) : isiD "bool" S (.int i) = some (.bl false) := isiD_of rfl (by decide +kernel)
@[simp] theorem isi_bool_str (x : Str) : isiD "bool" S (.str x) = some (.bl false) := isiD_of rfl (by decide +kernel)
@[simp] theorem isi_bool_tup (xs : List D) : isiD "bool" S (.tup xs) = some (.bl false) := isiD_of rfl (by decide +kernel)
@[simp] theorem isi_bool_lst (xs : List D) : isiD "bool" S (.lst xs) = some (.bl false) := isiD_of rfl (by decide +kernel)
@[simp] theorem isi_bool_dct (ks : List Key) (xs : List D) : isiD "bool" S (.dct ks xs) = some (.bl false) := isiD_of rfl (by decide +kernel)
@[simp] theorem isi_str_non : isiD "str" S .non = some (.bl false) := isiD_of rfl (by decide +kernel)
@[simp] theorem isi_str_bl (b : Bool) : isiD "str" S (.bl b) = some (.bl false) := isiD_of rfl (by decide +kernel)
@[simp] theorem isi_str_int (i : Int) : isiD "str" S (.int i) = some (.bl false) := isiD_of rfl (by decide +kernel)
@[simp] theorem isi_str_str (x : Str) : isiD "str" S (.str x) = some (.bl true) := isiD_of rfl (by decide +kernel)
@[simp] theorem isi_str_tup (xs : List D) : isiD "str" S (.tup xs) = some (.bl false) := isiD_of rfl (by decide +kernel)
@[simp] theorem isi_str_lst (xs : List D) : isiD "str" S (.lst xs) = some (.bl false) := isiD_of rfl (by decide +kernel)
@[simp] theorem isi_str_dct (ks : List Key) (xs : List D) : isiD "str" S (.dct ks xs) = some (.bl false) := isiD_of rfl (by decide +kernel)
@[simp] theorem isi_tuple_non : isiD "tuple" S .non = some (.bl false) := isiD_of rfl (by decide +kernel)
@[simp] theorem isi_tuple_bl (b : Bool) : isiD "tuple" S (.bl b) = some (.bl false) := isiD_of rfl (by decide +kernel)
@[simp] theorem isi_tuple_int (i : Int) : isiD "tuple" S (.int i) = some (.bl false) := isiD_of rfl (by decide +kernel)
@[simp] theorem isi_tuple_str (x : Str) : isiD "tuple" S (.str x) = some (.bl false) := isiD_of rfl (by decide +kernel)
@[simp] theorem isi_tuple_tup (xs : List D) : isiD "tuple" S (.tup xs) = some (.bl true) := isiD_of rfl (by decide +kernel)
@[simp] theorem isi_tuple_lst (xs : List D) : isiD "tuple" S (.lst xs) = some (.bl false) := isiD_of rfl (by decide +kernel)
@[simp] theorem isi_tuple_dct (ks : List Key) (xs : List D) : isiD "tuple" S (.dct ks xs) = some (.bl false) := isiD_of rfl (by decide +kernel)
@[simp] theorem isi_list_non : isiD "list" S .non = some (.bl false) := isiD_of rfl (by decide +kernel)
@[simp] theorem isi_list_bl (b : Bool) : isiD "list" S (.bl b) = some (.bl false) := isiD_of rfl (by decide +kernel)
@[simp] theorem isi_list_int (i : Int) : isiD "list" S (.int i) = some (.bl false) := isiD_of rfl (by decide +kernel)
@[simp] theorem isi_list_str (x : Str) : isiD "list" S (.str x) = some (.bl false) := isiD_of rfl (by decide +kernel)
@[simp] theorem isi_list_tup (xs : List D) : isiD "list" S (.tup xs) = some (.bl false) := isiD_of rfl (by decide +kernel)
@[simp] theorem isi_list_lst (xs : List D) : isiD "list" S (.lst xs) = some (.bl true) := isiD_of rfl (by decide +kernel)
@[simp] theorem isi_list_dct (ks : List Key) (xs : List D) : isiD "list" S (.dct ks xs) = some (.bl false) := isiD_of rfl (by decide +kernel)
@[simp] theorem isi_dict_non : isiD "dict" S .non = some (.bl false) := isiD_of rfl (by decide +kernel)
@[simp] theorem isi_dict_bl (b : Bool) : isiD "dict" S (.bl b) = some (.bl false) := isiD_of rfl (by decide +kernel)
@[simp] theorem isi_dict_int (i : Int) : isiD "dict" S (.int i) = some (.bl false) := isiD_of rfl (by decide +kernel)
@[simp] theorem isi_dict_str (x : Str) : isiD "dict" S (.str x) = some (.bl false) := isiD_of rfl (by decide +kernel)
@[simp] theorem isi_dict_tup (xs : List D) : isiD "dict" S (.tup xs) = some (.bl false) := isiD_of rfl (by decide +kernel)
@[simp] theorem isi_dict_lst (xs : List D) : isiD "dict" S (.lst xs) = some (.bl false) := isiD_of rfl (by decide +kernel)
@[simp] theorem isi_dict_dct (ks : List Key) (xs : List D) : isiD "dict" S (.dct ks xs) = some (.bl true) := isiD_of rfl (by decide +kernel)
@[simp] theorem eqD_eq (a b : D) : eqD S a b = (eqB S a b).bind fun k => some (.bl k) := (rfl)
@[simp] theorem neD_eq (a b : D) : neD S a b = (eqB S a b).bind fun k => some (.bl (!k)) := (rfl)
@[simp] theorem eqB_ii (i j : Int) : eqB S (.int i) (.int j) = some (i == j) := by simp [eqB, deepN, pyD, PyData.eqv]
@[simp] theorem eqB_ss (i j : Str) : eqB S (.str i) (.str j) = some (i == j) := by simp [eqB, deepN, pyD, PyData.eqv]
@[simp] theorem eqB_tt (xs ys : List D) : eqB S (.tup xs) (.tup ys) = (pyAll (pyD S 59) xs).bind fun p => (pyAll (pyD S 59) ys).bind fun q => some (PyData.eqvAll p q) := by
  unfold eqB deepN
  simp only [pyD]
  cases pyAll (pyD S 59) xs <;> cases pyAll (pyD S 59) ys <;> simp [PyData.eqv]
@[simp] theorem eqB_ll (xs ys : List D) : eqB S (.lst xs) (.lst ys) = (pyAll (pyD S 59) xs).bind fun p => (pyAll (pyD S 59) ys).bind fun q => some (PyData.eqvAll p q) := by
  unfold eqB deepN
  simp only [pyD]
  cases pyAll (pyD S 59) xs <;> cases pyAll (pyD S 59) ys <;> simp [PyData.eqv]
@[simp] theorem pyAll_nil (f : D → Option PyData) : pyAll f [] = some [] := (rfl)
@[simp] theorem pyAll_cons' (f : D → Option PyData) (x : D) (xs : List D) : pyAll f (x :: xs) = (f x).bind fun y => (pyAll f xs).bind fun ys => some (y :: ys) := (rfl)
@[simp] theorem pyD_int (n : Nat) (i : Int) : pyD S n (.int i) = some (.int i) := by cases n <;> rfl
@[simp] theorem pyD_str (n : Nat) (i : Str) : pyD S n (.str i) = some (.str i) := by cases n <;> rfl
@[simp] theorem pyD_bl (n : Nat) (i : Bool) : pyD S n (.bl i) = some (.bool i) := by cases n <;> rfl
@[simp] theorem pyD_non (n : Nat) : pyD S n .non = some .none := by cases n <;> rfl
@[simp] theorem isN_non : isN S .non .non = some (.bl true) := (rfl)
@[simp] theorem isN_exn (c : Nat) (ns : List Str) (xs : List D) : isN S (.exn c ns xs) .non = some (.bl false) := (rfl)
end
theorem forL_inv {t : Tg} {body : RS} (P : Env → Store → Prop) : ∀ (ds : List D) {e : Env} {S : Store}, (∀ d ∈ ds, ∀ e S, P e S → ∃ e1, bindT S d e t = some e1 ∧ ∃ e2 S2, body e1 S = .nx e2 S2 ∧ P e2 S2) → P e S → ∃ e' S', forL t body ds e S = .nx e' S' ∧ P e' S'
  | [], e, S, _, h => ⟨e, S, rfl, h⟩
  | d :: ds, e, S, hs, h => by
    obtain ⟨e1, h1, e2, S2, h2, h3⟩ := hs d List.mem_cons_self e S h
    obtain ⟨e', S', h4, h5⟩ := forL_inv P ds (fun d hd => hs d (List.mem_cons_of_mem _ hd)) h3
    exact ⟨e', S', by simp [forL, h1, h2, h4], h5⟩
@[simp] theorem ran1_int (j : Int) : ran1 [.int j] = if -(2 ^ 62) ≤ j ∧ j < 2 ^ 62 then some (rangeD 0 j.toNat) else none := (rfl)
@[simp] theorem ran2_int (i j : Int) : ran2 [.int i, .int j] = if -(2 ^ 62) ≤ i ∧ i < 2 ^ 62 ∧ -(2 ^ 62) ≤ j ∧ j < 2 ^ 62 then some (rangeD i (j - i).toNat) else none := (rfl)
theorem ran_cells (l n : Nat) (h : n ≤ 63) (hn : 1 ≤ n) : ∃ m, m ≤ n ∧ ran1 [.int (if (if (n : Int) < (l : Int) then (n : Int) else (l : Int)) > 1 then (if (n : Int) < (l : Int) then (n : Int) else (l : Int)) else 1)] = some (rangeD 0 m) := by
  refine ⟨(if (if (n : Int) < (l : Int) then (n : Int) else (l : Int)) > 1 then (if (n : Int) < (l : Int) then (n : Int) else (l : Int)) else 1).toNat, ?_, ?_⟩
  · split <;> split <;> omega
  · rw [ran1_int, if_pos]
    split <;> split <;> omega
theorem mem_rangeD {lo : Int} {n : Nat} {d : D} (h : d ∈ rangeD lo n) : ∃ i : Nat, i < n ∧ d = .int (lo + i) := by
  unfold rangeD at h
  obtain ⟨i, h1, h2⟩ := List.mem_map.mp h
  exact ⟨i, List.mem_range.mp h1, h2.symm⟩
theorem atI_mem {A : Type} {xs : List A} {r : Int} (h : 0 ≤ r) (h2 : r < xs.length) : ∃ d, atI xs r = some d ∧ d ∈ xs := by
  have h3 : r.toNat < xs.length := by omega
  exact ⟨xs[r.toNat], by simp [atI, ixN, h, h2, h3], List.getElem_mem h3⟩
end Ev
namespace Ev
open PySem PySem.Spec L2
section
variable {e : Env} {S : Store}
@[simp] theorem rPrs_nil : rPrs [] e S = .ok [] S := (rfl)
@[simp] theorem rPrs_cons (p : Str × RE) (l : List (Str × RE)) : rPrs (p :: l) e S = (p.2 e S).bind fun d S1 => (rPrs l e S1).bind fun ds S2 => .ok (d :: ds) S2 := (rfl)
@[simp] theorem rDispF_eq (l : List (Str × RE)) : rDispF l e S = (rPrs l e S).calm.bind fun ds S1 => .ok (.dct (dispF (l.map (·.1)) ds ([], [])).1 (dispF (l.map (·.1)) ds ([], [])).2) S1 := (rfl)
@[simp] theorem rDispM_eq (l : List (Str × RE)) : rDispM l e S = (rPrs l e S).calm.bind fun ds S1 => .ok (.loc S1.length) (S1 ++ [.dK (dispF (l.map (·.1)) ds ([], [])).1 (dispF (l.map (·.1)) ds ([], [])).2]) := (rfl)
@[simp] theorem sStar_eq (i j : Nat) (a : RE) : sStar i j a e S = (a e S).fl e fun d S1 => match d with
  | .tup (x :: xs) => if xs.length ≤ 16000 then .nx (setAll [i, j] [x, .lst xs] e) S1 else .bad
  | _ => .bad := (rfl)
@[simp] theorem sPutD_eq (a o i : RE) : sPutD a o i e S = (a e S).fl e fun v S1 => (o e S1).fl e fun x S2 => (i e S2).fl e fun y S3 => match putD S3 x y v with
  | some S4 => .nx e S4
  | none => .bad := (rfl)
end
end Ev
namespace Ev
open PySem PySem.Spec L2 PyProof.Rows
def pyE (S : Store) : Nat → D → Option PyData
  | _, .non => some .none
  | _, .bl b => some (.bool b)
  | _, .int i => some (.int i)
  | _, .str x => some (.str x)
  | n + 1, .tup xs => (pyAll (pyE S n) xs).bind fun ys => some (.tuple ys)
  | n + 1, .lst xs => (pyAll (pyE S n) xs).bind fun ys => some (.list ys)
  | n + 1, .loc k => match S[k]? with
    | some (.lst xs) => (pyAll (pyE S n) xs).bind fun ys => some (.list ys)
    | _ => none
  | _ + 1, .dct ks xs => match ks, xs with
    | [], [] => some (.dict [])
    | _, _ => none
  | _, _ => none
section
variable {X : Cx} {C : Nat → Addr} {io : Io} {S : Store} {H : Hp} {pins : List (Addr × Obj)} {sg : L2.St} {s : Shared} {f : D → Option PyData}
theorem pairs_nil {K : Type} [DecidableEq K] {P : Program} {w : World} {knd : KeyKind P w K} {l : List DictEntry} (h : Pairs knd l []) : l = [] := by
  cases l with
  | nil => rfl
  | cons => cases h
def ShR (X : Cx) (s : Shared) (u : Value) (p : PyData) : Prop := ∃ as bs, Reads s.heap u p as ∧ ReadAtMost s.heap p.depth bs ∧ ReprK X.prog X.w bs s.heap p.depth u p.shown
def ShRs (X : Cx) (s : Shared) (us : List Value) (ps : List PyData) : Prop := ∃ as bs, ReadsAll s.heap us ps as ∧ ReadAtMost s.heap (PyData.depthAll ps) bs ∧ ReprAllK X.prog X.w bs s.heap (PyData.depthAll ps) us (PyData.shownAll ps)
theorem ShR.plain {u : Value} {p : PyData} {as : List Addr} (r : Reads s.heap u p as) (hs : p.showable = true) (hd : p.hasDict = true → sysModules ∉ as) (hz : p.shown.length ≤ sizeLine) : ShR X s u p :=
  let ⟨bs, h1, h2⟩ := ReprK.of_reads (prog := X.prog) (w := X.w) r hs hd hz
  ⟨as, bs, r, h1, h2⟩
theorem ShRs.nil : ShRs X s [] [] := ⟨[], [], .nil, fun _ h => absurd h List.not_mem_nil, by rw [PyData.shownAll]; exact .nil⟩
theorem ShRs.cons {u : Value} {us : List Value} {p : PyData} {ps : List PyData} (h : ShR X s u p) (hr : ShRs X s us ps) : ShRs X s (u :: us) (p :: ps) := by
  obtain ⟨a1, b1, r1, m1, k1⟩ := h
  obtain ⟨a2, b2, r2, m2, k2⟩ := hr
  have e : PyData.depthAll (p :: ps) = max p.depth (PyData.depthAll ps) := by rw [PyData.depthAll]
  have e2 : PyData.shownAll (p :: ps) = p.shown :: PyData.shownAll ps := by rw [PyData.shownAll]
  refine ⟨_, b1 ++ b2, .cons r1 r2, fun b hb => ?_, ?_⟩
  · rw [e]
    rcases List.mem_append.mp hb with q | q
    · obtain ⟨x, y, z1, z2⟩ := m1 b q; exact ⟨x, y, z1, by omega⟩
    · obtain ⟨x, y, z1, z2⟩ := m2 b q; exact ⟨x, y, z1, by omega⟩
  · rw [e, e2]
    exact .cons ((k1.more fun b q => List.mem_append_left b2 q).level_le (by omega)) (k2.more_le (fun b q => List.mem_append_right b1 q) (by omega))
theorem shRs_of (hf : ∀ d v p u, f d = some p → Rep X.K C io (Fz io H) d v → RelV v u → p.showable = true → p.shown.length ≤ sizeLine → ShR X s u p) : ∀ {xs : List D} {vs : List V} {us : List Value} {ps : List PyData}, pyAll f xs = some ps → Reps X.K C io (Fz io H) xs vs → Vals vs us → PyData.showableAll ps = true → (∀ t ∈ PyData.shownAll ps, t.length ≤ sizeLine) → ShRs X s us ps
  | _, _, _, _, h, .nil, r, _, _ => by
    cases h; cases r
    exact .nil
  | _, _, _, _, h, .cons q qs, r, hs, hz => by
    obtain ⟨y, ys, h1, h2, rfl⟩ := pyAll_cons h
    rw [PyData.showableAll, Bool.and_eq_true] at hs
    rw [PyData.shownAll] at hz
    cases r with
    | cons r1 r2 => exact .cons (hf _ _ _ _ h1 q r1 hs.1 (hz _ List.mem_cons_self)) (shRs_of hf h2 qs r2 hs.2 fun t ht => hz t (List.mem_cons_of_mem _ ht))
theorem nodeL {n : Nat} {a : Addr} {vs : List V} {xs : List D} {ps : List PyData} (hf : ∀ d v p u, pyE S n d = some p → Rep X.K C io (Fz io H) d v → RelV v u → p.showable = true → p.shown.length ≤ sizeLine → ShR X s u p) (I : L2.Inv X pins sg H s)
    (hs : SqL X.K H a vs) (rs : Reps X.K C io (Fz io H) xs vs) (h1 : pyAll (pyE S n) xs = some ps) (hw : PyData.showableAll ps = true) (hz : (listText (PyData.shownAll ps)).length ≤ sizeLine) :
    ∃ o its k, s.heap.get? a = some o ∧ o.cls = .type "list" ∧ o.data = .seq its k ∧ ShRs X s its.toList ps := by
  obtain ⟨its, rv, ⟨o, k, ho, hc, _, hd⟩, _⟩ := I.list hs
  exact ⟨o, _, k, ho, hc, hd, shRs_of hf h1 rs (by simpa using rv) hw fun t ht => Nat.le_trans (listText_mem_le ht) hz⟩
theorem nodeT {n : Nat} {a : Addr} {vs : List V} {xs : List D} {ps : List PyData} (hf : ∀ d v p u, pyE S n d = some p → Rep X.K C io (Fz io H) d v → RelV v u → p.showable = true → p.shown.length ≤ sizeLine → ShR X s u p) (I : L2.Inv X pins sg H s)
    (hs : SqT X.K H a vs) (rs : Reps X.K C io (Fz io H) xs vs) (h1 : pyAll (pyE S n) xs = some ps) (hw : PyData.showableAll ps = true) (hz : (tupleText (PyData.shownAll ps)).length ≤ sizeLine) :
    ∃ o its k, s.heap.get? a = some o ∧ o.cls = .type "tuple" ∧ o.data = .seq its k ∧ ShRs X s its.toList ps := by
  obtain ⟨its, rv, ⟨o, ho, hc, k, hd⟩, _⟩ := I.tuple hs
  exact ⟨o, _, k, ho, hc, hd, shRs_of hf h1 rs (by simpa using rv) hw fun t ht => Nat.le_trans (tupleText_mem_le ht) hz⟩
theorem shR_list {a : Addr} {o : Obj} {its : Array Value} {k : Nat} {ps : List PyData} (h1 : s.heap.get? a = some o) (h2 : o.cls = .type "list") (h3 : o.data = .seq its k) (h4 : ShRs X s its.toList ps) : ShR X s (.ref a) (.list ps) := by
  obtain ⟨as, bs, r, m, q⟩ := h4
  have rd := Reads.list h1 h2 h3 r
  have dp : (PyData.list ps).depth = PyData.depthAll ps + 1 := by rw [PyData.depth]
  have nm : a ∉ bs := not_mem_of_deeper rd (by rw [dp]; omega) m
  refine ⟨_, a :: bs, rd, ReadAtMost.cons rd (by rw [dp]; omega) m, ?_⟩
  rw [dp, PyData.shown]
  obtain ⟨l⟩ := its
  cases l with
  | nil =>
    cases (show ReadsAll s.heap [] ps as from r)
    rw [PyData.shownAll]
    exact ReprK.listEmpty h1 h2 h3
  | cons x l => exact ReprK.list h1 h2 h3 nm (by simpa using q.length_eq) fun i y e => q.item i y (by simpa using e)
theorem shR_tuple {a : Addr} {o : Obj} {its : Array Value} {k : Nat} {ps : List PyData} (h1 : s.heap.get? a = some o) (h2 : o.cls = .type "tuple") (h3 : o.data = .seq its k) (h4 : ShRs X s its.toList ps) : ShR X s (.ref a) (.tuple ps) := by
  obtain ⟨as, bs, r, m, q⟩ := h4
  have rd := Reads.tuple h1 h2 h3 r
  have dp : (PyData.tuple ps).depth = PyData.depthAll ps + 1 := by rw [PyData.depth]
  have nm : a ∉ bs := not_mem_of_deeper rd (by rw [dp]; omega) m
  refine ⟨_, a :: bs, rd, ReadAtMost.cons rd (by rw [dp]; omega) m, ?_⟩
  rw [dp, PyData.shown]
  exact ReprK.tuple h1 h2 h3 nm q
theorem pyE_shR (I : L2.Inv X pins sg H s) (dn : Den X.K C io S H) : ∀ (n : Nat) (d : D) (v : V) (p : PyData) (u : Value), pyE S n d = some p → Rep X.K C io (Fz io H) d v → RelV v u → p.showable = true → p.shown.length ≤ sizeLine → ShR X s u p := by
  intro n
  induction n with
  | zero =>
    intro d v p u h r ru hs hz
    cases r <;> simp only [pyE] at h <;> cases h
    · cases ru; exact .plain .none hs (fun _ => by simp) hz
    · cases ru; exact .plain (.bool _) hs (fun _ => by simp) hz
    · obtain ⟨t, rfl⟩ := ru; exact .plain (.int _ t) hs (fun _ => by simp) hz
    · obtain ⟨t, rfl⟩ := ru; exact .plain (.str _ t) hs (fun _ => by simp) hz
  | succ n ih =>
    intro d v p u h r ru hs hz
    cases r with
    | non => cases h; cases ru; exact .plain .none hs (fun _ => by simp) hz
    | bl => cases h; cases ru; exact .plain (.bool _) hs (fun _ => by simp) hz
    | int => cases h; obtain ⟨t, rfl⟩ := ru; exact .plain (.int _ t) hs (fun _ => by simp) hz
    | str => cases h; obtain ⟨t, rfl⟩ := ru; exact .plain (.str _ t) hs (fun _ => by simp) hz
    | tup q rs =>
      cases ru
      obtain ⟨ys, h1, h2⟩ := bind_some' h
      cases h2
      rw [PyData.showable] at hs
      rw [PyData.shown] at hz
      obtain ⟨o, its, k, h3, h4, h5, h6⟩ := nodeT ih I (sqT_same (Fz_same _ _) q) rs h1 hs hz
      exact shR_tuple h3 h4 h5 h6
    | lst q rs =>
      cases ru
      obtain ⟨ys, h1, h2⟩ := bind_some' h
      cases h2
      rw [PyData.showable] at hs
      rw [PyData.shown] at hz
      obtain ⟨o, its, k, h3, h4, h5, h6⟩ := nodeL ih I ((Fz_same _ _).seq q) rs h1 hs hz
      exact shR_list h3 h4 h5 h6
    | @loc k a q =>
      cases ru
      simp only [pyE] at h
      split at h
      · rename_i xs e
        obtain ⟨ys, h1, h2⟩ := bind_some' h
        cases h2
        obtain ⟨vs, e1, rs⟩ := dn.obj k _ a e q
        rw [PyData.showable] at hs
        rw [PyData.shown] at hz
        obtain ⟨o, its, k, h3, h4, h5, h6⟩ := nodeL ih I (.of e1) rs h1 hs hz
        exact shR_list h3 h4 h5 h6
      · cases h
    | @dct a kvs ks vs ds h0 e1 e2 rs =>
      cases ru
      simp only [pyE] at h
      split at h
      · cases h
        have : kvs = [] := by simpa using e1
        subst this
        obtain ⟨z, ns, ws, rel, o, es, ep, ho, hx, hdt, hes⟩ := dk_of I.hok (Fz_same _ _ _ _ h0)
        cases rel
        have he : es.toList = [] := pairs_nil hes.2.1
        refine .plain (.dict (kvs := []) ho hx.1 hdt (by rw [he]; exact .nil) (by rw [he]; exact .nil)) hs (fun _ => ?_) hz
        simp only [List.append_nil, List.mem_singleton]
        intro e
        rw [← e] at ns
        simp at ns
      · cases h
    | dcf => cases h
    | dcT => cases h
    | exn0 => cases h
    | exnF => cases h
theorem pyE_depth : ∀ (n : Nat) (d : D) (p : PyData), pyE S n d = some p → p.depth ≤ n := by
  intro n
  induction n with
  | zero => intro d p h; cases d <;> simp only [pyE] at h <;> cases h <;> simp [PyData.depth]
  | succ n ih =>
    intro d p h
    cases d with
    | non => cases h; simp [PyData.depth]
    | bl => cases h; simp [PyData.depth]
    | int => cases h; simp [PyData.depth]
    | str => cases h; simp [PyData.depth]
    | tup xs =>
      obtain ⟨ys, h1, h2⟩ := bind_some' h
      cases h2
      simp only [PyData.depth]
      exact Nat.succ_le_succ (pyAll_depth ih h1)
    | lst xs =>
      obtain ⟨ys, h1, h2⟩ := bind_some' h
      cases h2
      simp only [PyData.depth]
      exact Nat.succ_le_succ (pyAll_depth ih h1)
    | loc k =>
      simp only [pyE] at h
      split at h
      · obtain ⟨ys, h1, h2⟩ := bind_some' h
        cases h2
        simp only [PyData.depth]
        exact Nat.succ_le_succ (pyAll_depth ih h1)
      · cases h
    | dct ks xs =>
      simp only [pyE] at h
      split at h
      · cases h; simp [PyData.depth, PyData.depthKv]
      · cases h
    | dcf => cases h
    | dcT => cases h
    | exn => cases h
def showE (p : PyData) : Bool := p.showable && decide (p.shown.length ≤ sizeLine)
def reprE (S : Store) : List D → Option D
  | [d] => (pyE S deepN d).bind fun p => if showE p = true then some (.str p.shown) else none
  | _ => none
theorem shR_call {A : Around} {E : Value → Shared → Prop} {Q : Value → Shared → Prop} {u : Value} {p : PyData} (h : ShR X s u p) (hs : p.showable = true) (hz : p.shown.length ≤ sizeLine) (hg : A.guards = some []) (hu : A.units + 62 < cLine) (hd : p.depth ≤ 60)
    (h0 : ∀ k t, Q (.str p.shown t) { s with toks := k }) (hQ : ∀ h' t k, (∀ b o, s.heap.get? b = some o → h'.get? b = some o) → Q (.str p.shown t) { s with heap := h', toks := k }) (hL : ∀ ps, p = .list ps → ∃ a o its k, u = .ref a ∧ s.heap.get? a = some o ∧ o.cls = .type "list" ∧ o.data = .seq its k ∧ ShRs X s its.toList ps)
    (hT : ∀ ps, p = .tuple ps → ∃ a o its k, u = .ref a ∧ s.heap.get? a = some o ∧ o.cls = .type "tuple" ∧ o.data = .seq its k ∧ ShRs X s its.toList ps) (hDi : ∀ kvs, p = .dict kvs → ∃ a as, u = .ref a ∧ Reads s.heap u p as ∧ sysModules ∉ as) : wpAny (model X.prog X.w) A (call (.builtin "repr") [u]) Q E s := by
  obtain ⟨as, bs, r, m, q⟩ := h
  cases p with
  | none => cases r; exact P.repr_of_none (h0 _ _)
  | bool => cases r; exact P.repr_of_bool (h0 _ _)
  | int => cases r; exact P.repr_of_int (by simpa [PyData.showable] using hs) (h0 _ _)
  | str => cases r; exact P.repr_of_str (h0 _ _) hz
  | dict kvs =>
    obtain ⟨a, as, rfl, r', ns⟩ := hDi kvs rfl
    exact repr_of_reads' r' hs (fun _ => ns) hg (by omega) (fun _ _ e => e) hQ hz
  | list ps =>
    obtain ⟨a, o, its, k, rfl, h1, h2, h3, as, bs, r, m, q⟩ := hL ps rfl
    have rd := Reads.list h1 h2 h3 r
    have dp : (PyData.list ps).depth = PyData.depthAll ps + 1 := by rw [PyData.depth]
    have nm : a ∉ bs := not_mem_of_deeper rd (by rw [dp]; omega) m
    rw [PyData.shown] at hQ hz h0
    refine call_repr_slot (by omega) ⟨o, h1, h2⟩ F.slot_list_repr.toG ?_
    obtain ⟨l⟩ := its
    cases l with
    | nil =>
      cases (show ReadsAll s.heap [] ps as from r)
      rw [PyData.shownAll] at h0
      exact call_list_repr_empty ⟨o, h1, h2⟩ h1 h3 ⟨_, _, rfl, h0 _ _⟩
    | cons x l => exact call_list_reprK h1 h2 h3 nm (by simpa using q.length_eq) (fun i y e => q.item i y (by simpa using e)) hg (fun b _ => Clear.nil b) (by show A.units + 1 + _ < _; omega) (fun _ _ e => e) (fun h' t k kp => ⟨_, _, rfl, hQ h' t k kp⟩) hz
  | tuple ps =>
    obtain ⟨a, o, its, k, rfl, h1, h2, h3, as, bs, r, m, q⟩ := hT ps rfl
    have rd := Reads.tuple h1 h2 h3 r
    have dp : (PyData.tuple ps).depth = PyData.depthAll ps + 1 := by rw [PyData.depth]
    have nm : a ∉ bs := not_mem_of_deeper rd (by rw [dp]; omega) m
    rw [PyData.shown] at hQ hz h0
    refine call_repr_slot (by omega) ⟨o, h1, h2⟩ F.slot_tuple_repr ?_
    exact call_tuple_reprK h1 h2 h3 nm q hg (fun b _ => Clear.nil b) (by show A.units + 1 + _ < _; omega) (fun _ _ e => e) (fun h' t k kp => ⟨_, _, rfl, hQ h' t k kp⟩) hz
theorem reprE_ok (hu : X.A.units + 64 < cLine) (hg : X.A.guards = some []) : CallD X C (.builtin "repr") reprE := fun pins s sg H xs us Q I rx ⟨io, S, as, d, dn, ra, e, q⟩ => by
  unfold reprE at e
  split at e
  · rename_i d0
    obtain ⟨v, rfl, h⟩ := reps1 ra
    obtain ⟨p, h1, h2⟩ := bind_some' e
    split at h2
    · rename_i ok
      cases h2
      obtain ⟨u, rfl, ru⟩ := rx.one
      simp only [showE, Bool.and_eq_true, decide_eq_true_eq] at ok
      obtain ⟨o1, o3⟩ := ok
      have l1 : p.depth ≤ 60 := pyE_depth _ _ _ h1
      have ih := fun n => pyE_shR I dn n
      refine shR_call (ih _ _ _ _ _ h1 h ru o1 o3) o1 o3 hg (by omega) l1 (fun k t => ⟨.str _, H, I.tok k, ⟨t, rfl⟩, q _ H io (Ext.refl _ _) dn (.str _)⟩) (fun h' t k kp => ⟨.str _, H, I.kept (t' := k) kp, ⟨t, rfl⟩, q _ H io (Ext.refl _ _) dn (.str _)⟩) ?_ ?_ ?_
      · intro ps ep
        subst ep
        rw [PyData.showable] at o1
        rw [PyData.shown] at o3
        cases h with
        | lst q1 rs =>
          cases ru
          obtain ⟨ys, h3, h4⟩ := bind_some' h1
          cases h4
          obtain ⟨o, its, k, z⟩ := nodeL (ih 59) I ((Fz_same _ _).seq q1) rs h3 o1 o3
          exact ⟨_, o, its, k, rfl, z⟩
        | @loc k a q1 =>
          cases ru
          have h1' : (match S[k]? with | some (.lst xs) => (pyAll (pyE S 59) xs).bind fun ys => some (PyData.list ys) | _ => none) = some (.list ps) := h1
          split at h1'
          · rename_i xs e
            obtain ⟨ys, h3, h4⟩ := bind_some' h1'
            cases h4
            obtain ⟨vs, e1, rs⟩ := dn.obj k _ a e q1
            obtain ⟨o, its, k, z⟩ := nodeL (ih 59) I (.of e1) rs h3 o1 o3
            exact ⟨_, o, its, k, rfl, z⟩
          · cases h1'
        | tup q1 rs => obtain ⟨ys, h3, h4⟩ := bind_some' h1; cases h4
        | @dct a kvs ks vs ds h0 e1 e2 rs =>
          simp only [deepN, pyE] at h1
          split at h1 <;> cases h1
        | _ => cases h1
      · intro ps ep
        subst ep
        rw [PyData.showable] at o1
        rw [PyData.shown] at o3
        cases h with
        | tup q1 rs =>
          cases ru
          obtain ⟨ys, h3, h4⟩ := bind_some' h1
          cases h4
          obtain ⟨o, its, k, z⟩ := nodeT (ih 59) I (sqT_same (Fz_same _ _) q1) rs h3 o1 o3
          exact ⟨_, o, its, k, rfl, z⟩
        | lst q1 rs => obtain ⟨ys, h3, h4⟩ := bind_some' h1; cases h4
        | @loc k a q1 =>
          have h1' : (match S[k]? with | some (.lst xs) => (pyAll (pyE S 59) xs).bind fun ys => some (PyData.list ys) | _ => none) = some (.tuple ps) := h1
          split at h1'
          · obtain ⟨ys, h3, h4⟩ := bind_some' h1'
            cases h4
          · cases h1'
        | @dct a kvs ks vs ds h0 e1 e2 rs =>
          simp only [deepN, pyE] at h1
          split at h1 <;> cases h1
        | _ => cases h1
      · intro kvs ep
        subst ep
        cases h with
        | @dct a kvs0 ks vs ds h0 e1 e2 rs =>
          cases ru
          simp only [deepN, pyE] at h1
          split at h1
          · cases h1
            have : kvs0 = [] := by simpa using e1
            subst this
            obtain ⟨z, ns, ws, rel, o, es, ep, ho, hx, hdt, hes⟩ := dk_of I.hok (Fz_same _ _ _ _ h0)
            cases rel
            have he : es.toList = [] := pairs_nil hes.2.1
            refine ⟨a, _, rfl, .dict (kvs := []) ho hx.1 hdt (by rw [he]; exact .nil) (by rw [he]; exact .nil), ?_⟩
            simp only [List.append_nil, List.mem_singleton]
            intro e
            rw [← e] at ns
            simp at ns
          · cases h1
        | tup q1 rs => obtain ⟨ys, h3, h4⟩ := bind_some' h1; cases h4
        | lst q1 rs => obtain ⟨ys, h3, h4⟩ := bind_some' h1; cases h4
        | @loc k a q1 =>
          have h1' : (match S[k]? with | some (.lst xs) => (pyAll (pyE S 59) xs).bind fun ys => some (PyData.list ys) | _ => none) = some (.dict kvs) := h1
          split at h1'
          · obtain ⟨ys, h3, h4⟩ := bind_some' h1'
            cases h4
          · cases h1'
        | _ => cases h1
    · cases h2
  · cases e
end
end Ev
namespace Ev
open PySem PySem.Spec L2 PyProof.Rows
inductive Atm where
  | b (x : Bool)
  | i (x : Int)
def Atm.val : Atm → Tok → Value
  | .b x, _ => .bool x
  | .i x, t => .int x t
end Ev
namespace Ev
open PySem PySem.Spec L2 PyProof.Rows
end Ev
namespace Ev
open PySem PySem.Spec L2 PyProof.Rows
section
variable {X : Cx} {C : Nat → Addr} {W : WX}
def eqL (S : Store) (a b : D) : Option D := match a, b with
  | .lst (_ :: _), .lst [] => some (.bl false)
  | a, b => eqD S a b
def neL (S : Store) (a b : D) : Option D := match a, b with
  | .lst (_ :: _), .lst [] => some (.bl true)
  | a, b => neD S a b
@[simp] theorem eqL_nil (S : Store) (xs : List D) : eqL S (.lst xs) (.lst []) = some (.bl xs.isEmpty) := by
  cases xs with
  | nil => simp [eqL, PyData.eqvAll]
  | cons x xs => rfl
@[simp] theorem neL_nil (S : Store) (xs : List D) : neL S (.lst xs) (.lst []) = some (.bl (!xs.isEmpty)) := by
  cases xs with
  | nil => simp [neL, PyData.eqvAll]
  | cons x xs => rfl
def leDS (S : Store) (a b : D) : Option D := match a, b with
  | .str x, .str y => some (.bl (!decide (y.cps.toList < x.cps.toList)))
  | a, b => leD S a b
@[simp] theorem leDS_str (S : Store) (x y : Str) : leDS S (.str x) (.str y) = some (.bl (!decide (y.cps.toList < x.cps.toList))) := (rfl)
@[simp] theorem leDS_int (S : Store) (i j : Int) : leDS S (.int i) (.int j) = some (.bl (decide (i ≤ j))) := (rfl)
end
end Ev
namespace Ev
open PySem PySem.Spec L2 PyProof.Rows
section
variable {X : Cx} {C : Nat → Addr} {W : WX}
def rBad : RE := fun _ _ => .bad
def sBad : RS := fun _ _ => .bad
@[simp] theorem rBad_eq (e : Env) (S : Store) : rBad e S = .bad := (rfl)
@[simp] theorem sBad_eq (e : Env) (S : Store) : sBad e S = .bad := (rfl)
end
section
variable {X : Cx} {C : Nat → Addr} {W : WX}
def getL (S : Store) (x y : D) : Option D := match x, y with
  | .loc n, .int k => match S[n]? with
    | some (.lst xs) => atI xs k
    | _ => none
  | _, _ => none
def sAugIx (f : Store → D → D → Option D) (o i a : RE) : RS := fun e S => (o e S).fl e fun x S1 => (i e S1).fl e fun y S2 => match getL S2 x y with
  | none => .bad
  | some v => (a e S2).fl e fun z S3 => match f S3 v z with
    | none => .bad
    | some w => match putIx S3 x y w with
      | none => .bad
      | some S4 => .nx e S4
@[simp] theorem sAugIx_eq (f : Store → D → D → Option D) (o i a : RE) (e : Env) (S : Store) : sAugIx f o i a e S = (o e S).fl e fun x S1 => (i e S1).fl e fun y S2 => match getL S2 x y with
  | none => .bad
  | some v => (a e S2).fl e fun z S3 => match f S3 v z with
    | none => .bad
    | some w => match putIx S3 x y w with
      | none => .bad
      | some S4 => .nx e S4 := (rfl)
end
end Ev
namespace Ev
open PySem PySem.Spec L2 PyProof.Rows
def allO (f : D → Option D) : List D → Option (List D)
  | [] => some []
  | d :: ds => (f d).bind fun x => (allO f ds).bind fun xs => some (x :: xs)
def dz (n : Nat) (S : Store) : Nat → D → Option D
  | k + 1, .tup xs => (allO (dz n S k) xs).bind fun ys => some (.tup ys)
  | k + 1, .lst xs => (allO (dz n S k) xs).bind fun ys => some (.lst ys)
  | k + 1, .loc m => if m < n then some (.loc m) else match S[m]? with
    | some (.lst xs) => (allO (dz n S k) xs).bind fun ys => some (.lst ys)
    | _ => none
  | _, .non => some .non
  | _, .bl b => some (.bl b)
  | _, .int i => some (.int i)
  | _, .str x => some (.str x)
  | _, _ => none
def D.atom : D → Bool
  | .non => true
  | .bl _ => true
  | .int _ => true
  | .str _ => true
  | _ => false
def D.flT : Nat → D → Bool
  | _, .loc _ => true
  | k + 1, .tup xs => xs.all (D.flT k)
  | _, d => D.atom d
def D.flat (d : D) : Bool := D.flT 6 d
def MO.flat : MO → Bool
  | .lst xs => xs.all D.flat
  | .dK _ xs => xs.all D.flat
  | .dT _ xs => xs.all D.flat
  | .dL _ xs => xs.all D.flat
  | .ins _ _ xs => xs.all D.flat
open Classical in
noncomputable def zc (n : Nat) (g : List D → Store → Res D) (ds : List D) (S : Store) : Res D :=
  match allO (dz n S 12) ds with
  | none => .bad
  | some ds' => if lowS n (S.take n) = true ∧ (S.take n).all MO.flat = true then
      match g ds' (S.take n) with
      | .ok d S' => if S' = S.take n ∧ D.atom d = true then .ok d S else .bad
      | .err x S' => if S' = S.take n ∧ x.xs.all D.atom = true then .err x S else .bad
      | .bad => .bad
    else .bad
noncomputable def rCallZ (i : Nat) (g : List D → Store → Res D) (rs : RA) : RE := fun e S => (rs e S).bind fun ds S1 => match e[i]? with
  | some (some (.loc n)) => zc n g ds S1
  | _ => .bad
@[simp] theorem rCallZ_eq (i : Nat) (g : List D → Store → Res D) (rs : RA) (e : Env) (S : Store) : rCallZ i g rs e S = (rs e S).bind fun ds S1 => match e[i]? with
  | some (some (.loc n)) => zc n g ds S1
  | _ => .bad := (rfl)
end Ev
namespace Ev
open PySem PySem.Spec L2 PyProof.Rows
end Ev
namespace Ev
open PySem PySem.Spec L2 PyProof.Rows
end Ev
namespace Ev
open PySem PySem.Spec L2 PyProof.Rows
end Ev
namespace Ev
open PySem PySem.Spec L2 PyProof.Rows
end Ev
namespace Ev
open PySem PySem.Spec L2 PyProof.Rows
end Ev
namespace Ev
open PySem PySem.Spec L2 PyProof.Rows
end Ev
namespace Ev
open PySem PySem.Spec L2 PyProof.Rows
def lkF (n : Nat) (S : Store) : D → Option D
  | .loc m => if m < n then none else match S[m]? with
    | some (.dK ks xs) => if lows n xs = true then some (.dcf ks xs) else none
    | _ => none
  | _ => none
def frzK (n : Nat) : Res D → Res D
  | .ok d S => match lkF n S d with
    | some d' => if lowS n (S.take n) = true then .ok d' (S.take n) else .bad
    | none => .bad
  | .err x S => if (lows n x.xs && lowS n (S.take n)) = true then .err x (S.take n) else .bad
  | .bad => .bad
def rFrzK (a : RE) : RE := fun e S => frzK S.length (a e S)
def keyDD : Key → D
  | .inl i => .int i
  | .inr x => .str x
def keysF : D → Option (List D)
  | .dcf ks _ => some (ks.map keyDD)
  | _ => none
def itemsF : D → Option (List D)
  | .dcf ks xs => some (List.zipWith (fun k x => .tup [keyDD k, x]) ks xs)
  | _ => none
def rKeys (a : RE) : RA := fun e S => (a e S).bind fun d S1 => ofO (keysF d) S1
def rItems (a : RE) : RA := fun e S => (a e S).bind fun d S1 => ofO (itemsF d) S1
def Src.up : Src → Src
  | .p i => .p (i + 1)
  | .k j => .k j
  | .c d => .c d
def rMulM (a b : RE) : RE := fun e S => (a e S).bind fun x S1 => (b e S1).bind fun y S2 => match asL S2 x, y with
  | some xs, .int k => if 0 ≤ k ∧ k < 2 ^ 62 ∧ xs.length * k.toNat ≤ sizeLine then .ok (.loc S2.length) (S2 ++ [.lst (repL k.toNat xs)]) else .bad
  | _, _ => .bad
@[simp] theorem rMulM_eq {a b : RE} {e : Env} {S : Store} : rMulM a b e S = (a e S).bind fun x S1 => (b e S1).bind fun y S2 => match asL S2 x, y with
  | some xs, .int k => if 0 ≤ k ∧ k < 2 ^ 62 ∧ xs.length * k.toNat ≤ sizeLine then .ok (.loc S2.length) (S2 ++ [.lst (repL k.toNat xs)]) else .bad
  | _, _ => .bad := (rfl)
@[simp] theorem rKeys_eq {a : RE} {e : Env} {S : Store} : rKeys a e S = (a e S).bind fun d S1 => ofO (keysF d) S1 := (rfl)
@[simp] theorem rItems_eq {a : RE} {e : Env} {S : Store} : rItems a e S = (a e S).bind fun d S1 => ofO (itemsF d) S1 := (rfl)
@[simp] theorem rFrzK_eq {a : RE} {e : Env} {S : Store} : rFrzK a e S = frzK S.length (a e S) := (rfl)
end Ev
namespace Ev
open PySem PySem.Spec L2 PyProof.Rows
end Ev
namespace Ev
open PySem PySem.Spec L2 PyProof.Rows
section
variable {S : Store}
@[simp] theorem isi_int_dcf (ks : List Key) (xs : List D) : isiD "int" S (.dcf ks xs) = some (.bl false) := isiD_of rfl (by decide +kernel)
@[simp] theorem isi_bool_dcf (ks : List Key) (xs : List D) : isiD "bool" S (.dcf ks xs) = some (.bl false) := isiD_of rfl (by decide +kernel)
@[simp] theorem isi_str_dcf (ks : List Key) (xs : List D) : isiD "str" S (.dcf ks xs) = some (.bl false) := isiD_of rfl (by decide +kernel)
@[simp] theorem isi_tuple_dcf (ks : List Key) (xs : List D) : isiD "tuple" S (.dcf ks xs) = some (.bl false) := isiD_of rfl (by decide +kernel)
@[simp] theorem isi_list_dcf (ks : List Key) (xs : List D) : isiD "list" S (.dcf ks xs) = some (.bl false) := isiD_of rfl (by decide +kernel)
@[simp] theorem isi_dict_dcf (ks : List Key) (xs : List D) : isiD "dict" S (.dcf ks xs) = some (.bl true) := isiD_of rfl (by decide +kernel)
end
end Ev
namespace Ev
open PySem PySem.Spec PyProof.Rows HotX
end Ev
namespace Ev
open PySem PySem.Spec L2
section
variable {X : Cx} {C : Nat → Addr} {W : WX} {pos : Pos}
theorem Cal.h {k : Nat} {f : Addr} {fd : FuncData} {ps : List Str} {sp : Sp} (F : L2H.FnH X.prog X.w X.K X.mg X.base (L2N.CX X.prog X.w) k f fd ps sp) (hr : L2H.RoomH k X.A) (hc : L2H.HotC X) : Cal X f fd ps sp :=
  ⟨F.len, fun pins sg s H args us vs Q E I b r h => by
    obtain ⟨p, hot, hp⟩ := hc
    have P1 := I.pin p (List.mem_append_left _ hp)
    exact F.run X.A X.stack s H args us vs Q E p hr hot ⟨P1.1, P1.2.1, fun hm => (List.mem_cons.mp (I.stkSub p.1 hm)).elim P1.2.2.1 P1.2.2.2.1, P1.2.2.2.2⟩ I.env0 b r h⟩
end
end Ev
namespace Ev
open PySem PySem.Spec L2
theorem _root_.L2.PE.ex {X : Cx} {e : Expr} {p : Nat → Prop} {t : Nat → TE} (h : ∀ c, p c → PE X e (t c)) : PE X e (fun sg H Q => ∃ c, p c ∧ t c sg H Q) := ⟨fun pins s sg H Q I ⟨c, hc, q⟩ => (h c hc).run pins s sg H Q I q⟩
end Ev
namespace Ev
open PySem PySem.Spec L2
theorem _root_.L2H.RoomH.units {k : Nat} {A : Around} (r : L2H.RoomH k A) : A.units + 64 < cLine := by have := r.un; omega
theorem _root_.L2H.PIH.imp {X : Cx} {tg iter : Expr} {w w' : TI} (h : L2H.PIH X tg iter w) (hi : ∀ sg H R, w' sg H R → w sg H R) : L2H.PIH X tg iter w' := ⟨fun pins s sg H R I q => h.run pins s sg H R I (hi _ _ _ q)⟩
end Ev
namespace Ev
open PySem PySem.Spec L2 PyProof.Rows
end Ev
namespace Ev
open PySem PySem.Spec L2 PyProof.Rows
open PySem.AutoSeq1 (wpAny_loadPart')
open PySem.MeetsSeq PySem.MeetsSeq2 PySem.MeetsSeq3 PySem.SeqAt
end Ev
namespace Ev
open PySem PySem.Spec L2 PyProof.Rows
open PySem.AutoSeq1 (wpAny_loadPart')
open PySem.MeetsSeq PySem.MeetsSeq2 PySem.MeetsSeq3 PySem.SeqAt
section
variable {X : Cx} {C : Nat → Addr} {c : Nat} {fa : Addr} {fd : FuncData} {ps : List Str} {g : List D → Store → Res D}
structure CalI (X : Cx) (f : Addr) (fd : FuncData) (ps : List Str) (sp : Sp) : Prop where
  len : ∀ vs H Q E, sp vs H Q E → vs.length = ps.length
  run : ∀ (pins : List (Addr × Obj)) (sg : L2.St) (s : Shared) (H : Hp) (args : Args) (us : List Value) (vs : List V) (Q : VK) (E : XK), L2.Inv X pins sg H s → BindsTo s fd args (ps.zip us) → Vals vs us → sp vs H Q E →
    codeAny (model X.prog X.w) X.A.in1 (.call (.ref f) args) (CR (L2N.CX X.prog X.w) X.stack X.prog X.w H s Q E) s
theorem CalI.ok {X : Cx} {k : Nat} {f : Addr} {fd : FuncData} {ps : List Str} {sp : Sp} (F : FnOk X.prog X.w X.K X.mg X.base (L2N.CX X.prog X.w) k f fd ps sp) (hr : Room (k + 1) X.A) : CalI X f fd ps sp :=
  ⟨F.len, fun pins sg s H args us vs Q E I => F.run X.A.in1 X.stack s H args us vs Q E hr.in1 I.env0.in1⟩
end
end Ev
namespace Ev
open PySem PySem.Spec L2
def Fl.ner : Fl → Fl
  | .nx e S => .nx e S
  | .rt d S => .rt d S
  | _ => .bad
abbrev Hd := (Nat → Option Bool) × Option Nat × RS
def catchO (oi : Option Nat) (su : RS) (x : Exn) (e : Env) (S : Store) : Fl := match oi with
  | some i => (su (e.set i (some (.exn x.c x.ns x.xs))) S).clr i
  | none => (su e S).ner
def catchM : List Hd → Exn → Env → Store → Fl
  | [], x, e, S => .er x e S
  | h :: r, x, e, S => match h.1 x.c with
    | some true => catchO h.2.1 h.2.2 x e S
    | some false => catchM r x e S
    | none => .bad
def sTryM (hs : List Hd) (body : RS) : RS := fun e S => match body e S with
  | .er x e1 S1 => catchM hs x e1 S1
  | f => f
@[simp] theorem sTryM_eq (l : List Hd) (body : RS) (e : Env) (S : Store) : sTryM l body e S = match body e S with
  | .er x e1 S1 => catchM l x e1 S1
  | f => f := (rfl)
end Ev
namespace Ev
open PySem PySem.Spec L2
def rCalM (f : Store → List D → Option (List D)) (a : RA) : RE := fun e S => (a e S).bind fun xs S1 => match f S1 xs with
  | some ds => .ok (.loc S1.length) (S1 ++ [.lst ds])
  | none => .bad
@[simp] theorem rCalM_eq (f : Store → List D → Option (List D)) (a : RA) (e : Env) (S : Store) : rCalM f a e S = (a e S).bind fun xs S1 => match f S1 xs with
  | some ds => .ok (.loc S1.length) (S1 ++ [.lst ds])
  | none => .bad := (rfl)
end Ev
namespace Ev
open PySem PySem.Spec L2 PyProof.Rows
def rPrsK : List (Key × RE) → Env → Store → Res (List D)
  | [], _, S => .ok [] S
  | p :: l, e, S => (p.2 e S).bind fun d S1 => (rPrsK l e S1).bind fun ds S2 => .ok (d :: ds) S2
def dispK : List Key → List D → List Key × List D → List Key × List D
  | k :: ks, d :: ds, p => dispK ks ds (putKs p.1 p.2 k d)
  | _, _, p => p
def rDispKF (l : List (Key × RE)) : RE := fun e S => (rPrsK l e S).calm.bind fun ds S1 => .ok (.dct (dispK (l.map (·.1)) ds ([], [])).1 (dispK (l.map (·.1)) ds ([], [])).2) S1
def rDispKM (l : List (Key × RE)) : RE := fun e S => (rPrsK l e S).calm.bind fun ds S1 => .ok (.loc S1.length) (S1 ++ [.dK (dispK (l.map (·.1)) ds ([], [])).1 (dispK (l.map (·.1)) ds ([], [])).2])
section
variable {e : Env} {S : Store}
@[simp] theorem rPrsK_nil : rPrsK [] e S = .ok [] S := (rfl)
@[simp] theorem rPrsK_cons (p : Key × RE) (l : List (Key × RE)) : rPrsK (p :: l) e S = (p.2 e S).bind fun d S1 => (rPrsK l e S1).bind fun ds S2 => .ok (d :: ds) S2 := (rfl)
@[simp] theorem rDispKF_eq (l : List (Key × RE)) : rDispKF l e S = (rPrsK l e S).calm.bind fun ds S1 => .ok (.dct (dispK (l.map (·.1)) ds ([], [])).1 (dispK (l.map (·.1)) ds ([], [])).2) S1 := (rfl)
@[simp] theorem rDispKM_eq (l : List (Key × RE)) : rDispKM l e S = (rPrsK l e S).calm.bind fun ds S1 => .ok (.loc S1.length) (S1 ++ [.dK (dispK (l.map (·.1)) ds ([], [])).1 (dispK (l.map (·.1)) ds ([], [])).2]) := (rfl)
end
end Ev
namespace Ev
open PySem PySem.Spec L2 PyProof.Rows
def keysOf : List D → Option (List Key)
  | [] => some []
  | d :: ds => (keyOf d).bind fun k => (keysOf ds).bind fun ks => some (k :: ks)
def hasT (ks : List (List Key)) (k : List Key) : Bool := ks.any fun k' => decide (k' = k)
def repT : List (List Key) → List D → List Key → D → List D
  | k' :: ks, x :: xs, k, v => (if k' = k then v else x) :: repT ks xs k v
  | _, xs, _, _ => xs
def putKT (ks : List (List Key)) (xs : List D) (k : List Key) (v : D) : List (List Key) × List D := if hasT ks k = true then (ks, repT ks xs k v) else (ks ++ [k], xs ++ [v])
def rDctTM : RE := fun _ S => .ok (.loc S.length) (S ++ [.dT [] []])
def putT (S : Store) (x : D) (ys : List D) (v : D) : Option Store := match x with
  | .loc n => match S[n]? with
    | some (.dT ks xs) => (keysOf ys).bind fun k => if ks.length < sizeLine then some (S.set n (.dT (putKT ks xs k v).1 (putKT ks xs k v).2)) else none
    | _ => none
  | _ => none
def sPutT (a o : RE) (i : RA) : RS := fun e S => (a e S).fl e fun v S1 => (o e S1).fl e fun x S2 => (i e S2).fl e fun ys S3 => match putT S3 x ys v with
  | some S4 => .nx e S4
  | none => .bad
def keysT : D → Option (List D)
  | .dcT ks _ => some (ks.map fun k => .tup (k.map keyDD))
  | _ => none
def rKeysT (a : RE) : RA := fun e S => (a e S).bind fun d S1 => ofO (keysT d) S1
section
variable {e : Env} {S : Store}
@[simp] theorem rDctTM_eq : rDctTM e S = .ok (.loc S.length) (S ++ [.dT [] []]) := (rfl)
@[simp] theorem sPutT_eq (a o : RE) (i : RA) : sPutT a o i e S = (a e S).fl e fun v S1 => (o e S1).fl e fun x S2 => (i e S2).fl e fun ys S3 => match putT S3 x ys v with | some S4 => .nx e S4 | none => .bad := (rfl)
@[simp] theorem rKeysT_eq (a : RE) : rKeysT a e S = (a e S).bind fun d S1 => ofO (keysT d) S1 := (rfl)
end
end Ev
namespace Ev
open PySem PySem.Spec L2 PyProof.Rows
def unlk (n : Nat) : Res D → Res D
  | .ok d S => match S[n]? with
    | some (.dL ks xs) => .ok d (S.set n (.dK ks xs))
    | _ => .bad
  | _ => .bad
def rLock (tg : Env → Store → Option Nat) (r : RE) : RE := fun e S => match tg e S with
  | some n => match S[n]? with
    | some (.dK ks xs) => unlk n (r e (S.set n (.dL ks xs)))
    | _ => .bad
  | none => .bad
def unlkS (n : Nat) : Fl → Fl
  | .nx e S => match S[n]? with
    | some (.dL ks xs) => .nx e (S.set n (.dK ks xs))
    | _ => .bad
  | _ => .bad
def sLock (tg : Env → Store → Option Nat) (r : RS) : RS := fun e S => match tg e S with
  | some n => match S[n]? with
    | some (.dK ks xs) => unlkS n (r e (S.set n (.dL ks xs)))
    | _ => .bad
  | none => .bad
section
variable {e : Env} {S : Store}
@[simp] theorem sLock_eq (tg : Env → Store → Option Nat) (r : RS) : sLock tg r e S = (match tg e S with | some n => (match S[n]? with | some (.dK ks xs) => unlkS n (r e (S.set n (.dL ks xs))) | _ => .bad) | none => .bad) := (rfl)
@[simp] theorem rLock_eq (tg : Env → Store → Option Nat) (r : RE) : rLock tg r e S = (match tg e S with | some n => (match S[n]? with | some (.dK ks xs) => unlk n (r e (S.set n (.dL ks xs))) | _ => .bad) | none => .bad) := (rfl)
end
end Ev
namespace PySem
namespace XOB
open PySem.W PySem.Calls PyProof.Rows PySem.HandSPX
open Builtin Builtin.ObjectAttr
structure IniF (B initId : String) : Prop where
  init : Slot B "__init__" initId
  initEntry : entryFor table initId = some Builtin.«BaseException.__init__»
  initSplit : splitId initId = some (B, "__init__")
  initKind : builtinKind initId = some .slot
  initRow : Manifest.signature? initId = some ⟨.positional, "*", B, .self, [⟨"args", .varPos, false⟩]⟩
  noStar : (B != "*") = true
theorem IniF.of {B newId initId : String} (F : ExcCallFacts B newId initId) : IniF B initId := ⟨F.init, F.initEntry, F.initSplit, F.initKind, F.initRow, F.noStar⟩
theorem iniKey : IniF "KeyError" "KeyError.__init__" where
  init := .of (owner := "KeyError") (n := "__init__") (by rw [typeLookup_type, builtinLookup_eq_fast]; kernel_rfl) (by decide +kernel) (by decide +kernel) (by decide +kernel)
    (by first | exact .inl (by decide +kernel) | exact .inr (by decide +kernel)) (by rw [isSubtype_type]; kernel_rfl)
  initEntry := entryFor_alias (id' := "BaseException.__init__") (by rw [fastTable_eq_tree]; kernel_rfl) (by first | rfl | decide +kernel) (by decide +kernel) (by rw [fastTable_eq_tree]; kernel_rfl)
  initSplit := by kernel_rfl
  initKind := by kernel_rfl
  initRow := by kernel_rfl
  noStar := by decide +kernel
structure Abv (bm : List Value) (Bn : String) : Prop where
  hB : bm.contains (.type Bn) = true
  hA : bm.contains (.type "AttributeError") = false
  hN : bm.contains (.type "NameError") = false
section
variable {M : Model} {A : Around} {E : Value → Shared → Prop} {h : Heap} {g : Array GenState} {d : Drawn} {t : Nat} {os : OsState}
variable {nm q : Str} {C N : Addr} {bs bm bmN : List Value} {hdct : Bool} {sn : List Str} {sub : List Value} {ab : Bool} {col : Option Bool} {dd : Option Addr} {k0 k1 k2 k3 k5 : Option Value} {B Bn newId initN initId : String}
theorem check_new_x (F : ExcBaseFacts Bn newId initN bmN) (hT : Abv bm Bn) {rest : List Value} {Q : Unit → Shared → Prop}
    (hC : h.get? C = some (excClassObj nm q C N bs bm hdct sn sub ab col dd k0 k1 k2 k3 k5 newId)) (hq : Q () ⟨h, g, d, t, os⟩) : wpAny M A (checkBuiltinCall newId ⟨.ref C :: rest, []⟩) Q E ⟨h, g, d, t, os⟩ := by
  have hcont : (Value.ref C :: bm).contains (.type Bn) = true := by rw [List.contains_cons, hT.hB, Bool.or_true]
  have hstar := F.noStar
  simp only [checkBuiltinCall, F.newKind, F.newSplit, F.newRow]
  repeat (first | refine wpAny_loadPart_at hC ?_ | (refine wpAny_isSubtype_exc hC ?_; rw [hcont]) | refine wpAny_staticBase_exc hC ?_ | refine wpAny_madeBy_exc hC ?_ | simp only [bne_self_eq_false, Bool.false_eq_true, if_false] | wp_step)
  exact hq
theorem check_init_x (F : IniF B initId) (hT : bm.contains (.type B) = true) {e : Addr} {oe : Obj} {rest : List Value} {Q : Unit → Shared → Prop}
    (hC : h.get? C = some (excClassObj nm q C N bs bm hdct sn sub ab col dd k0 k1 k2 k3 k5 newId)) (he : h.get? e = some oe) (hcls : oe.cls = .ref C) (hq : Q () ⟨h, g, d, t, os⟩) :
    wpAny M A (checkBuiltinCall initId ⟨.ref e :: rest, []⟩) Q E ⟨h, g, d, t, os⟩ := by
  have hcB : (Value.ref C :: bm).contains (.type B) = true := by rw [List.contains_cons, hT, Bool.or_true]
  have hshort := F.noStar
  simp only [checkBuiltinCall, F.initKind, F.initSplit, F.initRow]
  repeat (first | (with_reducible refine wpAny_loadPart_at he ?_; rw [hcls]) | with_reducible refine wpAny_loadPart_at hC ?_ | (with_reducible refine wpAny_isSubtype_exc hC ?_; rw [hcB]) | wp_step)
  refine wpAny_onRaise ?_
  rw [show ∀ (a b : String) (n : Nat), Bind.check ⟨.positional, "*", B, .self, [⟨"args", .varPos, false⟩]⟩ a b n (List.map (fun x => x.fst) ({ pos := Value.ref e :: rest } : Args).kw) = pure () from
    fun a b n => check_star_args _ _ _ _ _ _]
  exact wpAny_pure hq
end
section
variable {prog : Program} {w : World} {A : Around} {E : Value → Shared → Prop} {R : Result → Shared → Prop} {h : Heap} {g : Array GenState} {d : Drawn} {t : Nat} {os : OsState}
variable {nm q : Str} {C N : Addr} {bs bm bmN : List Value} {hdct : Bool} {sn : List Str} {sub : List Value} {ab : Bool} {col : Option Bool} {dd : Option Addr} {k0 k1 k2 k3 k5 : Option Value} {B Bn newId initN initId : String}
theorem new_x (F : ExcBaseFacts Bn newId initN bmN) (hT : Abv bm Bn) {rest : List Value}
    (hC : h.get? C = some (excClassObj nm q C N bs bm hdct sn sub ab col dd k0 k1 k2 k3 k5 newId))
    (hq : R (.ok (.ret (.ref (h.objs.size + 1)))) ⟨(h.push { cls := .type "tuple", data := .seq rest.toArray }).push
      { cls := .ref C, data := .fields #[.ref h.objs.size, .none, .none, .none, .bool false, .none] }, g, d, t, os⟩) (hrest : rest.length ≤ sizeLine) :
    codeAny (model prog w) A (.builtin newId ⟨.ref C :: rest, []⟩) R ⟨h, g, d, t, os⟩ := by
  have hends := F.ends
  have hcB : (Value.ref C :: bm).contains (.type Bn) = true := by rw [List.contains_cons, hT.hB, Bool.or_true]
  have hcA : (Value.ref C :: bm).contains (.type "AttributeError") = false := by rw [List.contains_cons, hT.hA]; rfl
  have hcN : (Value.ref C :: bm).contains (.type "NameError") = false := by rw [List.contains_cons, hT.hN]; rfl
  refine codeAny_builtinAt F.entry ?_
  unfold Builtin.«BaseException.__new__»
  refine wpAt_bind ?_
  show wpAt _ _ _ (stack >>= _) _ _ _
  refine wpAt_bind (wpAt_stack fun p below => wpAt_of_wpAny ?_)
  wp_walk
  refine wpAt_of_wpAny ?_
  rw [F.owner]
  repeat (first | with_reducible refine wpAny_madeHere_exc F.canon hC ?_ | with_reducible refine wpAny_loadPart_at hC ?_ | (with_reducible refine wpAny_isSubtype_exc hC ?_; first | rw [hcB] | rw [hcA] | rw [hcN]) | wp_step)
  show R _ _
  rw [Heap.size_push]
  exact hq
theorem type_call_x (F : ExcBaseFacts Bn newId initN bmN) (hT : Abv bm Bn) {rest : List Value} {fI : Addr} {Q : Fin → Shared → Prop}
    (hC : h.get? C = some (excClassObj nm q C N bs bm hdct sn sub ab col dd k0 k1 k2 k3 k5 newId))
    (hi : W.Looks (model prog w) h (typeLookup (.ref C) "__init__") (some (.ref fI))) (hb : ∀ self, W.Looks (model prog w) h (bindSpecial (.ref fI) self) (.ref fI, [self])) (hrest : rest.length ≤ sizeLine)
    (hq : codeAny (model prog w) A (.call (.ref fI) ⟨.ref (h.objs.size + 1) :: rest, []⟩)
      (fun r s' => match r with | .ok (.ret v) => v = .none ∧ Q (.done (.ret (.ref (h.objs.size + 1)))) s' | .ok _ => False | .error e => E e s')
      ⟨(h.push (W.kdv_tup rest)).push (excO C h.objs.size), g, d, t, os⟩) :
    wpAny (model prog w) A (Builtin.«type.__call__» ⟨.ref C :: rest, []⟩) Q E ⟨h, g, d, t, os⟩ := by
  repeat (first | with_reducible refine wpAny_loadPart_at hC ?_ | with_reducible refine wpAny_madeBy_exc hC ?_ | wp_step)
  refine codeAny_call_builtin_code (Code.quiet_builtin _ F.quiet) (check_new_x F hT hC ?_)
  refine new_x F hT hC ?_ hrest
  show wpAny _ _ _ _ _ _
  have k : ∀ b o, h.get? b = some o → ((h.push (W.kdv_tup rest)).push (excO C h.objs.size)).get? b = some o := fun b o e => Heap.get?_push_of_some _ (Heap.get?_push_of_some _ e)
  have hC₁ := k _ _ hC
  have hget : ((h.push (W.kdv_tup rest)).push (excO C h.objs.size)).get? (h.objs.size + 1) = some (excO C h.objs.size) := by heap_get
  have hcC : (Value.ref C :: bm).contains (.ref C) = true := by simp
  have i1 := hi.keeps k
  have b1 := (hb (.ref (h.objs.size + 1))).keeps k
  unfold isInstance
  repeat (first | with_reducible refine wpAny_loadPart_at hget ?_ | (with_reducible refine wpAny_isSubtype_exc hC₁ ?_; rw [hcC]) | wp_step)
  show wpAny _ _ (typeLookup (.ref C) _) _ _ _
  refine i1.at ?_
  refine wpAny_holding (wpAny_bind (b1.at ?_))
  refine wpAny_bind (wpAny_call (codeAny_mono hq fun r s' z => ?_))
  rcases r with e | (v | _ | _ | _) <;> first | exact z | exact z.elim | skip
  obtain ⟨rfl, z⟩ := z
  first
    | exact wpAny_pure (wpAny_pure z)
    | (wp_walk; exact z)
theorem call_x (F : ExcBaseFacts Bn newId initN bmN) (hT : Abv bm Bn) {rest : List Value} {fI : Addr}
    (hC : h.get? C = some (excClassObj nm q C N bs bm hdct sn sub ab col dd k0 k1 k2 k3 k5 newId))
    (hi : W.Looks (model prog w) h (typeLookup (.ref C) "__init__") (some (.ref fI))) (hb : ∀ self, W.Looks (model prog w) h (bindSpecial (.ref fI) self) (.ref fI, [self])) (hrest : rest.length ≤ sizeLine)
    (hq : codeAny (model prog w) (A.under (.builtin "type.__call__" ⟨.ref C :: rest, []⟩)) (.call (.ref fI) ⟨.ref (h.objs.size + 1) :: rest, []⟩) (W.InitBack (h.objs.size + 1) R)
      ⟨(h.push (W.kdv_tup rest)).push (excO C h.objs.size), g, d, t, os⟩) :
    codeAny (model prog w) A (.call (.ref C) ⟨rest, []⟩) R ⟨h, g, d, t, os⟩ := by
  have f1 := tc_lookup
  have f2 := tc_bind (.ref C)
  have hTy : (⟨h, g, d, t, os⟩ : Shared).TypeIs (.ref C) "type" := ⟨_, hC, rfl⟩
  refine codeAny_of_tree ?_
  show wpAny _ _ (callAny (.ref C) _) _ _ _
  repeat (any_goals (first | assumption | with_reducible refine wpAny_loadPart_at hC ?_ | wp_step))
  refine ⟨rfl, ?_⟩
  refine codeAny_call_builtin_at (Code.quiet_builtin _ (by decide +kernel)) entry_typeCall (wpAny_check_type_call_sub hC (type_call_x F hT hC hi hb hrest ?_))
  refine codeAny_mono hq fun r s' z => ?_
  rcases r with e | (v | _ | _ | _) <;> exact z
theorem init_base_x (F : IniF B initId) (hT : bm.contains (.type B) = true) {e t0 : Addr} {rest : List Value}
    (hC : h.get? C = some (excClassObj nm q C N bs bm hdct sn sub ab col dd k0 k1 k2 k3 k5 newId)) (he : h.get? e = some (excO C t0)) (hrest : rest.length ≤ sizeLine)
    (hq : ∀ h' t1, (∀ b o, b ≠ e → h.get? b = some o → h'.get? b = some o) → h'.get? e = some (excO C t1) → R (.ok (.ret .none)) ⟨h', g, d, t, os⟩) :
    codeAny (model prog w) A (.call (.builtin initId) ⟨.ref e :: rest, []⟩) R ⟨h, g, d, t, os⟩ := by
  refine codeAny_call_builtin F.init.plain F.initEntry (check_init_x F hT hC he rfl ?_)
  wp_walk
  refine hq _ h.objs.size (fun b o hb ho => ?_) ?_
  · rw [Heap.get?_update_other _ _ (Ne.symm hb)]
    exact Heap.get?_push_of_some _ ho
  · rw [Heap.get?_update_self _ (Heap.get?_push_of_some _ he) rfl]
    rfl
end
structure StF (l : List Value) : Prop where
  pass : ∀ self, refuseLoop self "__setattr__" l = pure ()
  ob : l.contains (.type "object") = true
theorem StF.ne {l : List Value} (h : StF l) : l.isEmpty = false := by
  cases l with
  | nil => exact absurd h.ob (by decide)
  | cons _ _ => rfl
theorem StF.up {C : Addr} {l : List Value} (h : StF l) : StF (.ref C :: l) := ⟨fun self => by rw [refuseLoop_ref]; exact h.pass self, by rw [List.contains_cons, h.ob, Bool.or_true]⟩
section
variable {prog : Program} {w : World} {A : Around} {E : Value → Shared → Prop} {R : Result → Shared → Prop} {hp : Heap} {g : Array GenState} {d : Drawn} {t : Nat} {os : OsState}
theorem osa_new_x {K : W.Frag} {name : Str} {tk : Tok} {v : Value} {x C : Addr} {fv : Array Value} {cd : ClassData}
    (X : K.In hp) (hx : hp.get? x = some { cls := .ref C, data := .fields fv }) (hcd : W.clsIn K C = some cd) (hm : StF cd.mro) (hh : cd.hasDict = true) (ha : W.findIn K (.ref C) name = some none)
    (hq : ∀ h' tk' dx, (∀ b o, b ≠ x → hp.get? b = some o → h'.get? b = some o) → hp.objs.size ≤ dx → dx ≠ x → h'.get? x = some { cls := .ref C, dict := some dx, data := .fields fv } →
      h'.Ns1 dx (fun y => if y = name then some v else none) → R (.ok (.ret .none)) ⟨h', g, d, tk', os⟩) :
    codeAny (model prog w) A (.call (.builtin "object.__setattr__") ⟨[.ref x, .str name tk, v], []⟩) R ⟨hp, g, d, t, os⟩ := by
  have I : W.InstAt hp x { cls := .ref C, data := .fields fv } C none := ⟨hx, rfl, rfl, trivial⟩
  have SF := F.store_object
  have ne := hm.ne
  have hob := hm.ob
  have hxs : x ≠ hp.objs.size := Nat.ne_of_lt (Heap.lt_size hx)
  have sub : W.Looks (model prog w) hp (isInstance (.ref x) (.type "object")) true := I.type.andThen (W.looks_mroIn X (by unfold W.mroIn; rw [hcd, Option.bind_some, if_neg (by rw [ne]; decide), hob]))
  refine codeAny_call_builtin SF.slot.plain SF.entry (@W.check_slot (model prog w) _ _ ⟨hp, g, d, t, os⟩ "object.__setattr__" "object" "__setattr__" (.ref x) [.str name tk, v] [] _ SF.kind SF.split sub (SF.args (.ref x) (.str name tk) v) ?_)
  have hmr : W.Looks (model prog w) hp (mroOf (.ref C)) cd.mro := (W.looks_clsIn X hcd).andThen .now
  have L3 : W.Looks (model prog w) hp (storeTaker? none) none := .now
  have hcls : W.Looks (model prog w) hp (classData C) cd := W.looks_clsIn X hcd
  rw [W.osa_eq, refuse_eq]
  refine wpAny_bind (wpAny_bind (I.type.at (wpAny_bind (hmr.at ?_))))
  rw [hm.pass]
  refine wpAny_pure (wpAny_bind (I.type.at (wpAny_bind ((W.looks_findIn X ha).at (wpAny_bind (L3.at ?_))))))
  show wpAny _ _ (storeInOwnDict (.ref x) (.ref C) (.str name tk) name v false) _ _ _
  obtain ⟨nm, bs, mro, ns, qn, hd, sn, sb, ab, col, del⟩ := cd
  dsimp only at hh
  subst hh
  unfold storeInOwnDict ownDictForStores
  repeat (first | with_reducible refine store_in_new ?_ ?_ | with_reducible refine wpAny_loadPart_at hx ?_ | with_reducible refine hcls.at ?_ | wp_step)
  · exact ⟨_, #[], _, (Heap.get?_update_ne _ _ _ _ hxs.symm).trans (Heap.get?_push_at rfl rfl), rfl, fun e he => absurd he (by simp), fun _ => rfl⟩
  · intro h' tk' hn' hs
    have hx₁ : (hp.push { cls := .type "dict", data := .dict #[] }).get? x = some { cls := .ref C, data := .fields fv } := Heap.get?_push_of_some _ hx
    refine hq h' tk' hp.objs.size (fun b o hb ho => ?_) (Nat.le_refl _) hxs.symm ?_ hn'
    · exact (hs.2 b (Nat.ne_of_lt (Heap.lt_size ho))).trans ((Heap.get?_update_ne _ _ _ _ hb).trans (Heap.get?_push_of_some _ ho))
    · exact (hs.2 x hxs).trans (Heap.get?_update_self _ hx₁ rfl)
theorem osa_old_x {K : W.Frag} {name : Str} {tk : Tok} {v : Value} {x C dx : Addr} {fv : Array Value} {cd : ClassData} {m0 : Str → Option Value} {nl : List Str}
    (X : K.In hp) (hx : hp.get? x = some { cls := .ref C, dict := some dx, data := .fields fv }) (hns : hp.Ns1 dx m0) (hw : Within m0 nl) (hz : nl.length ≤ 1000) (hcd : W.clsIn K C = some cd) (hm : StF cd.mro) (hh : cd.hasDict = true)
    (ha : W.findIn K (.ref C) name = some none)
    (hq : ∀ h' tk', (∀ b o, b ≠ dx → hp.get? b = some o → h'.get? b = some o) → h'.Ns1 dx (fun y => if y = name then some v else m0 y) → R (.ok (.ret .none)) ⟨h', g, d, tk', os⟩) :
    codeAny (model prog w) A (.call (.builtin "object.__setattr__") ⟨[.ref x, .str name tk, v], []⟩) R ⟨hp, g, d, t, os⟩ := by
  obtain ⟨oD, esD, epD, hoD, hdD, _⟩ := hns.count hw
  have I : W.InstAt hp x { cls := .ref C, dict := some dx, data := .fields fv } C (some oD) := ⟨hx, rfl, rfl, hoD⟩
  have SF := F.store_object
  have ne := hm.ne
  have hob := hm.ob
  have sub : W.Looks (model prog w) hp (isInstance (.ref x) (.type "object")) true := I.type.andThen (W.looks_mroIn X (by unfold W.mroIn; rw [hcd, Option.bind_some, if_neg (by rw [ne]; decide), hob]))
  refine codeAny_call_builtin SF.slot.plain SF.entry (@W.check_slot (model prog w) _ _ ⟨hp, g, d, t, os⟩ "object.__setattr__" "object" "__setattr__" (.ref x) [.str name tk, v] [] _ SF.kind SF.split sub (SF.args (.ref x) (.str name tk) v) ?_)
  have hmr : W.Looks (model prog w) hp (mroOf (.ref C)) cd.mro := (W.looks_clsIn X hcd).andThen .now
  have L3 : W.Looks (model prog w) hp (storeTaker? none) none := .now
  have hcls : W.Looks (model prog w) hp (classData C) cd := W.looks_clsIn X hcd
  rw [W.osa_eq, refuse_eq]
  refine wpAny_bind (wpAny_bind (I.type.at (wpAny_bind (hmr.at ?_))))
  rw [hm.pass]
  refine wpAny_pure (wpAny_bind (I.type.at (wpAny_bind ((W.looks_findIn X ha).at (wpAny_bind (L3.at ?_))))))
  show wpAny _ _ (storeInOwnDict (.ref x) (.ref C) (.str name tk) name v false) _ _ _
  obtain ⟨nm, bs, mro, ns, qn, hd, sn, sb, ab, col, del⟩ := cd
  dsimp only at hh
  subst hh
  unfold storeInOwnDict ownDictForStores
  repeat (first | with_reducible refine PySem.OEX.store_in_old hns hw hz ?_ | with_reducible refine wpAny_loadPart_at hx ?_ | with_reducible refine hcls.at ?_ | wp_step)
  intro h' tk' hn' hs
  exact hq h' tk' (fun b o hb ho => (hs.2 b hb).trans ho) hn'
end
theorem typ_OE : typeOf (.type "OverflowError") = pure (.type "type") := by kernel_rfl
theorem typ_KE : typeOf (.type "KeyError") = pure (.type "type") := by kernel_rfl
theorem stf_OE : StF [.type "OverflowError", .type "ArithmeticError", .type "Exception", .type "BaseException", .type "object"] := ⟨fun self => by kernel_rfl, by decide +kernel⟩
theorem stf_KE : StF [.type "KeyError", .type "LookupError", .type "Exception", .type "BaseException", .type "object"] := ⟨fun self => by kernel_rfl, by decide +kernel⟩
theorem abv_OE : Abv [.type "OverflowError", .type "ArithmeticError", .type "Exception", .type "BaseException", .type "object"] "OverflowError" := ⟨by decide +kernel, by decide +kernel, by decide +kernel⟩
theorem abv_KE : Abv [.type "KeyError", .type "LookupError", .type "Exception", .type "BaseException", .type "object"] "LookupError" := ⟨by decide +kernel, by decide +kernel, by decide +kernel⟩
end XOB
end PySem
namespace Ev
open PySem PySem.Spec L2 PyProof.Rows PySem.XOB
structure OexB (K : PySem.W.Frag) (C : Addr) (iid : String) : Prop where
  cls : ∃ nm q N bs bm sn sub ab col dd k0 k1 k2 k3 k5 newId Bn initN bmN B, K.lookup C = some (excClassObj nm q C N bs bm true sn sub ab col dd k0 k1 k2 k3 k5 newId) ∧ ExcBaseFacts Bn newId initN bmN ∧ Abv bm Bn ∧ IniF B iid ∧ bm.contains (.type B) = true ∧ StF bm
  sa : PySem.W.findIn K (.ref C) "__setattr__" = some (some (.builtin "object.__setattr__"))
  exC : PySem.W.subIn K (.ref C) (.type "BaseException") = some true
  tyC : PySem.W.typeIn K (.ref C) = some (.type "type")
  kC : PySem.W.keepIn K (.ref C) = true
theorem OexB.of {K : PySem.W.Frag} {C : Addr} (T : OexC K C) : OexB K C "ValueError.__init__" := by
  obtain ⟨⟨nm, q, N, bs, bm, sn, sub, ab, col, dd, k0, k1, k2, k3, k5, hC, hbm⟩, h1, h2, h3, h4⟩ := T
  have hT := fun Y => PySem.HandSPX.refsVE_contains Y bm hbm
  exact ⟨⟨nm, q, N, bs, bm, sn, sub, ab, col, dd, k0, k1, k2, k3, k5, _, _, _, _, _, hC, F.excBase_ValueError, ⟨(hT _).trans (by decide +kernel), (hT _).trans (by decide +kernel), (hT _).trans (by decide +kernel)⟩, .of F.excBase_ValueError.toExcCallFacts, (hT _).trans (by decide +kernel),
    ⟨fun self => PySem.HandSPX.refsVE_pass self bm hbm, (hT _).trans (by decide +kernel)⟩⟩, h1, h2, h3, h4⟩
section
variable {X : Cx} {pins : List (Addr × Obj)} {σ : L2.St} {H : Hp} {s : Shared} {a C dx : Addr} {f : Str} {y : V} {u : Value} {fs : List (Str × V)} {Q : Unit → Shared → Prop} {E : Value → Shared → Prop} {A : Around} {iid : String}
theorem ostB_new (T : OexB X.K C iid) (I : Inv X pins σ H s) (e : H a = some (exo a C none)) (hno : PySem.W.findIn X.K (.ref C) f = some none) (ry : RelV y u)
    (h : ∀ dx s', H dx = none → dx ≠ a → Inv X pins σ (upd (upd H dx (exd dx [(f, y)])) a (exo a C (some dx))) s' → Q () s') : wpAny (model X.prog X.w) A (setAttr (.ref a) f u) Q E s := by
  obtain ⟨nm, q, N, bs, bm, sn, sub, ab, col, dd, k0, k1, k2, k3, k5, newId, Bn, initN, bmN, B, hC, hF, hA, hI, hB, hS⟩ := T.cls
  have hcl : PySem.W.clsIn X.K C = some { name := nm, bases := bs, mro := .ref C :: bm, ns := N, qualname := q, hasDict := true, slotNames := sn, subclasses := sub, abstract := ab, collection := col, hasDel := false } := by unfold PySem.W.clsIn; rw [hC] <;> rfl
  obtain ⟨t1, ho⟩ := exo_at I.hok e
  obtain ⟨hp, g, d, t, os⟩ := s
  refine PySem.W.set_plain I.kIn (ox := { cls := .ref C, dict := none, data := .fields #[.ref t1, .none, .none, .none, .bool false, .none] }) (od := none) ⟨ho, rfl, rfl, trivial⟩ T.sa ?_
  refine PySem.XOB.osa_new_x I.kIn ho hcl (show StF (.ref C :: bm) from hS.up) rfl hno (fun h' tk' dx k dn dne hx hn => ?_)
  have hnd : H dx = none := I.hok.fresh dn
  have nd : ∀ {b : Addr} {o : Obj}, hp.get? b = some o → b ≠ dx := fun {b o} q => Nat.ne_of_lt (Nat.lt_of_lt_of_le (Heap.lt_size q) dn)
  have na : ∀ {b : Addr}, H b = none → b ≠ a := fun {b} n z => by
    rw [z, e] at n
    cases n
  have Un1 : Un X.fs [] H (upd (upd H dx (exd dx [(f, y)])) a (exo a C (some dx))) hp h' := {
    keep := fun b o q n _ _ => k b o (na n) q
    slot := fun b o q n _ _ => ⟨o.slots, k b o (na n) q⟩
    free := fun b o q n _ => by rw [upd_ne (na n), upd_ne (nd q)]; exact n
    there := fun b o q _ => by
      by_cases hb : b = a
      · exact ⟨_, by rw [hb]; exact hx⟩
      · exact ⟨o, k b o hb q⟩
    tups := fun b xs q => by rw [upd_ne (at_ne e q exo_tup), upd_ne (ne_of_none q hnd)]; exact q
    frzs := fun b o v q => by rw [upd_ne (at_ne e q exo_frz), upd_ne (ne_of_none q hnd)]; exact q
    tbls := fun b ps q => ⟨#[], by rw [upd_ne (at_ne e q exo_tbl), upd_ne (ne_of_none q hnd), q]; simp⟩ }
  refine h dx _ hnd dne (I.un (t' := tk') Un1 fun b o q => ?_)
  by_cases hb : b = a
  · subst hb
    rw [upd_same] at q
    cases q
    exact exo_ok hx
  · rw [upd_ne hb] at q
    by_cases hd : b = dx
    · subst hd
      rw [upd_same] at q
      cases q
      exact exd_ok hn (relO_put (fs := []) ry fun g => True.intro)
    · rw [upd_ne hd] at q
      exact (I.hok b o q).stay (fun c v hc z => k c v (by
          rcases hc with hc | hc
          · rw [hc]
            exact hb
          · exact at_ne e hc exo_own) z)
        (fun c hc => by rw [upd_ne (at_ne e hc exo_own), upd_ne (ne_of_none hc hnd)]; exact hc) (fun c xs hc => by rw [upd_ne (at_ne e hc exo_tup), upd_ne (ne_of_none hc hnd)]; exact hc)
theorem ostB_old (T : OexB X.K C iid) (I : Inv X pins σ H s) (e : H a = some (exo a C (some dx))) (ed : H dx = some (exd dx fs)) (hl : fs.length ≤ 900) (hno : PySem.W.findIn X.K (.ref C) f = some none) (ry : RelV y u)
    (h : ∀ s', Inv X pins σ (upd H dx (exd dx ((f, y) :: fs))) s' → Q () s') : wpAny (model X.prog X.w) A (setAttr (.ref a) f u) Q E s := by
  obtain ⟨nm, q, N, bs, bm, sn, sub, ab, col, dd, k0, k1, k2, k3, k5, newId, Bn, initN, bmN, B, hC, hF, hA, hI, hB, hS⟩ := T.cls
  have hcl : PySem.W.clsIn X.K C = some { name := nm, bases := bs, mro := .ref C :: bm, ns := N, qualname := q, hasDict := true, slotNames := sn, subclasses := sub, abstract := ab, collection := col, hasDel := false } := by unfold PySem.W.clsIn; rw [hC] <;> rfl
  obtain ⟨t1, ho⟩ := exo_at I.hok e
  obtain ⟨mA, hns, rel⟩ := exd_at I.hok ed
  have hw := within_of rel
  obtain ⟨hp, g, d, t, os⟩ := s
  obtain ⟨oD, _, _, hoD, _, _⟩ := hns.count hw
  refine PySem.W.set_plain I.kIn (ox := { cls := .ref C, dict := some dx, data := .fields #[.ref t1, .none, .none, .none, .bool false, .none] }) (od := some oD) ⟨ho, rfl, rfl, hoD⟩ T.sa ?_
  refine PySem.XOB.osa_old_x I.kIn ho hns hw (by rw [List.length_map]; omega) hcl (show StF (.ref C :: bm) from hS.up) rfl hno (fun h' tk' k hn => ?_)
  have hd : ∃ o, h'.get? dx = some o := by
    obtain ⟨o, _, _, e', _⟩ := hn
    exact ⟨o, e'⟩
  exact h _ (I.write (t' := tk') (x := dx) (e := dx) (o := exd dx ((f, y) :: fs)) (by rw [ed]; exact True.intro) (.inl rfl) k hd (exd_ok hn (relO_put ry rel)))
theorem oinitB_ok {us : List Value} {Q : Value → Shared → Prop} (T : OexB X.K C iid) (I : Inv X pins σ H s) (e : H a = some (exo a C none)) (hl : us.length ≤ sizeLine) (h : ∀ s', Inv X pins σ H s' → Q .none s') :
    wpAny (model X.prog X.w) A (call (.builtin iid) (.ref a :: us)) Q E s := by
  obtain ⟨nm, q, N, bs, bm, sn, sub, ab, col, dd, k0, k1, k2, k3, k5, newId, Bn, initN, bmN, B, hC, hF, hA, hI, hB, hS⟩ := T.cls
  obtain ⟨t1, ho⟩ := exo_at I.hok e
  obtain ⟨hp, g, d, t, os⟩ := s
  refine wpAny_call (PySem.XOB.init_base_x hI hB (I.kIn _ _ hC) ho hl fun h' t2 k hx => ?_)
  have J := I.write (t' := t) (x := a) (e := a) (o := exo a C none) (by rw [e]; exact True.intro) (.inl rfl) k ⟨_, hx⟩ (exo_ok hx)
  have eu : upd H a (exo a C none) = H := by
    funext b
    by_cases hb : b = a
    · rw [hb, upd_same, e]
    · rw [upd_ne hb]
  rw [eu] at J
  exact h _ J
end
def tIni (K : PySem.W.Frag) (iid : String) (ta : TA) : TE := fun σ H Q => ta σ H fun vs H1 => ∃ (a C : Addr) (ws : List V), vs = .ref a :: ws ∧ ws.length ≤ 1000 ∧ OexB K C iid ∧ H1 a = some (exo a C none) ∧ Q .non H1
def tOsB (K : PySem.W.Frag) (f : Str) (to te : TE) : TS := fun D σ H => te σ H fun y H1 => to σ H1 fun x H2 => ∃ (a C : Addr) (iid : String), x = .ref a ∧ OexB K C iid ∧ PySem.W.findIn K (.ref C) f = some none ∧
  ((H2 a = some (exo a C none) ∧ ∀ dx, H2 dx = none → dx ≠ a → D.nx σ (upd (upd H2 dx (exd dx [(f, y)])) a (exo a C (some dx)))) ∨
    ∃ (dx : Addr) (fs : List (Str × V)), H2 a = some (exo a C (some dx)) ∧ H2 dx = some (exd dx fs) ∧ fs.length ≤ 900 ∧ D.nx σ (upd H2 dx (exd dx ((f, y) :: fs))))
section
variable {X : Cx} {o e : Expr} {es : List Expr} {to te : TE} {ta : TA} {f : Str} {p p' p1 p2 pos : Pos} {iid : String}
theorem pe_iniB {x : Str} {B : String} {pl : Sem Bool} (hg : Gl X x) (hm : X.mg x = none) (bo : bootBuiltins x = some (.type B)) (ty : typeOf (.type B) = pure (.type "type")) (vV : PySem.W.findCls X.K (.type B) (.type "type") "__init__" = some (.val (.builtin iid))) (ha : PA X (e :: es) ta)
    (d1 : x ≠ "__name__" := by decide) (d2 : (x == ("__debug__" : Str)) = false := by decide) (d3 : Manifest.isStub B = false := by decide +kernel) (d4 : PySem.W.handedIn (.builtin iid) = true := by decide +kernel)
    (hc : eval (.Call (.Attribute (.Name x p1) "__init__" p2) (e :: es) [] pos) X.env = (do
      let ov ← eval (.Name x p1) X.env
      standAt p2.atName
      let (f, first) ← holding [ov] (getMethod ov "__init__" pl)
      callWith pos f first (backTo pos (starEach (e :: es) X.env)) (backToKw pos (keywordEach [] X.env))) := by rfl)
    (he : starEach (e :: es) X.env = (false, eval e X.env) :: starEach es X.env := by rfl) (hpl : (backTo pos (starEach es X.env)).any (·.1) = false := by rfl) :
    PE X (.Call (.Attribute (.Name x p1) "__init__" p2) (e :: es) [] pos) (tIni X.K iid ta) := by
  refine ⟨fun pins s σ H Q I h => ?_⟩
  refine PySem.W.methodCall_KW (ld_blt I hg hm bo ?_ d1 d2) hc
  obtain ⟨m, fr⟩ := I.fr
  refine PySem.W.method_type fr I.ok.mod.kin ty d3 vV d4 ?_
  show wpAny _ _ (callWith pos (Value.builtin iid) [] (backTo pos (starEach (e :: es) X.env)) []) _ _ _
  refine PyProof.Rows.callWith_method1 (thn (ha.run pos pins _ σ H _ (I.tok _) h) fun us s1 ⟨vs, H1, I1, r1, a, C, ws, ev, hl, T, ea, q⟩ => ?_) he hpl
  subst ev
  cases r1 with
  | @cons _ u0 _ ur ra rw' =>
    obtain rfl : u0 = Value.ref a := ra
    have hlen : ur.length ≤ sizeLine := by
      rw [← Paired.length rw', sizeLine_eq]
      omega
    exact oinitB_ok T I1 ea hlen fun s' J => ⟨.non, H1, J, rfl, q⟩
structure BasB (K : PySem.W.Frag) (B : Addr) (iid : String) : Prop where
  sp : PySem.W.specialIn K (.ref B) "__getattribute__" = some (some (.builtin "type.__getattribute__"))
  rd : PySem.W.readsIn K B (.type "type") = true
  vl : PySem.W.findCls K (.ref B) (.type "type") "__init__" = some (.val (.builtin iid))
theorem pe_ownIniB {x : Str} {B : Addr} {pl : Sem Bool} (hg : Gl X x) (hm : X.mg x = some (.ref B)) (b : BasB X.K B iid) (ha : PA X (e :: es) ta)
    (hdb : (x == ("__debug__" : Str)) = false := by decide) (d4 : PySem.W.handedIn (.builtin iid) = true := by decide +kernel)
    (hc : eval (.Call (.Attribute (.Name x p1) "__init__" p2) (e :: es) [] pos) X.env = (do
      let ov ← eval (.Name x p1) X.env
      standAt p2.atName
      let (f, first) ← holding [ov] (getMethod ov "__init__" pl)
      callWith pos f first (backTo pos (starEach (e :: es) X.env)) (backToKw pos (keywordEach [] X.env))) := by rfl)
    (he : starEach (e :: es) X.env = (false, eval e X.env) :: starEach es X.env := by rfl) (hpl : (backTo pos (starEach es X.env)).any (·.1) = false := by rfl) :
    PE X (.Call (.Attribute (.Name x p1) "__init__" p2) (e :: es) [] pos) (tIni X.K iid ta) := by
  refine ⟨fun pins s σ H Q I h => ?_⟩
  refine PySem.W.methodCall_KW (ld_glob I hg hm ?_ hdb) hc
  refine PySem.W.method_cls I.kIn b.sp (PySem.W.cls_value I.kIn b.rd b.vl d4 ?_)
  show wpAny _ _ (callWith pos (Value.builtin iid) [] (backTo pos (starEach (e :: es) X.env)) []) _ _ _
  refine PyProof.Rows.callWith_method1 (thn (ha.run pos pins _ σ H _ (I.tok _) h) fun us s1 ⟨vs, H1, I1, r1, a, C, ws, ev, hl, T, ea, q⟩ => ?_) he hpl
  subst ev
  cases r1 with
  | @cons _ u0 _ ur ra rw' =>
    obtain rfl : u0 = Value.ref a := ra
    have hlen : ur.length ≤ sizeLine := by
      rw [← Paired.length rw', sizeLine_eq]
      omega
    exact oinitB_ok T I1 ea hlen fun s' J => ⟨.non, H1, J, rfl, q⟩
theorem ps_osB (ho : PE X o to) (he : PE X e te) (hs : swapsWith e (some (.Attribute o f p')) pos.line X.env = pure false := by rfl) : PS X (.Assign [.Attribute o f p'] e pos) (tOsB X.K f to te) := by
  refine ⟨fun pins s σ H D I h => ?_⟩
  refine plainObj_wpAny_Assign_Attribute (thn (he.run pins s σ H _ I h) fun v s1 ⟨y, H1, I1, r1, q1⟩ => thn (ho.run pins s1 σ H1 _ I1 q1) fun u s2 ⟨x, H2, I2, r2, a, C, iid, ex, T, hno, q⟩ => ?_) hs
  subst ex
  obtain rfl : u = Value.ref a := r2
  rcases q with ⟨ea, q⟩ | ⟨dx, fs, ea, ed, hl, q⟩
  · exact ostB_new T I2 ea hno r1 fun dx s' n ne J => ⟨σ, _, J, q dx n ne⟩
  · exact ostB_old T I2 ea ed hl hno r1 fun s' J => ⟨σ, _, J, q⟩
end
def spB (K : PySem.W.Frag) (C : Addr) (iid : String) (ns : List Str) : Sp := fun vs H Q _ => ∃ a xs, vs = .ref a :: xs ∧ xs.length = ns.length ∧ OexB K C iid ∧ H a = some (exo a C none) ∧ ∀ dx, H dx = none → dx ≠ a → Q .non (upd (upd H dx (exd dx ((ns.zip xs).reverse))) a (exo a C (some dx)))
structure FldB (K : PySem.W.Frag) (C fI : Addr) (iid : String) (ns : List Str) : Prop where
  ox : OexB K C iid
  ini : PySem.W.findIn K (.ref C) "__init__" = some (some (.ref fI))
  fn : PySem.W.typeIn K (.ref fI) = some (.type "function")
  no : ∀ f ∈ ns, PySem.W.findIn K (.ref C) f = some none
section
variable {P : Program} {w : World} {K : PySem.W.Frag} {mg : Str → Option Value} {base : Heap} {C fI B : Addr} {fd : FuncData} {st : Stmt} {qual : Str} {k : Nat} {iid : String}
theorem init1B_ok {f y x : Str} (F : Fun K "__init__" qual st fI fd) (S : FnScope ["self", y] ["self", y] (defScope st)) (T : FldB K C fI iid [f])
    (hb : ∀ (cdv : Value) (A : Around) (outer : List PySem.Env) (s : Shared) (H : Hp) (E : XK),
      PSs (cxOf (L2N.CX P w) P w K mg base ["self", y] qual (defScope st) fI cdv A outer s H E) (defBody st) (tSeq (tDrop (tIni K iid (tCons (tVar 0) (tCons (tC (.str x)) tNil)))) (tOsB K f (tVar 0) (tVar 1)))) :
    FnOk P w K mg base (L2N.CX P w) (k + 1) fI fd ["self", y] (spB K C iid [f]) := by
  refine F.okN S (fun vs H Q E ⟨a, xs, ev, hl, _⟩ => by rw [ev]; simp [hl]) (fun cdv A outer s H vs Q E hr h => ?_)
  refine ⟨_, hb cdv A outer s H E, ?_⟩
  obtain ⟨a, xs, rfl, hl, ox, ha, q⟩ := h
  obtain ⟨z, rfl⟩ : ∃ z, xs = [z] := by
    match xs, hl with
    | [z], _ => exact ⟨z, rfl⟩
  exact ⟨.ref a, rfl, ⟨a, C, [.str x], rfl, by simp, ox, ha, ⟨z, rfl, ⟨.ref a, rfl, ⟨a, C, iid, rfl, ox, T.no f (by simp), .inl ⟨ha, fun dx n ne => q dx n ne⟩⟩⟩⟩⟩⟩
theorem init2B_ok {f g y z x : Str} (F : Fun K "__init__" qual st fI fd) (S : FnScope ["self", y, z] ["self", y, z] (defScope st)) (T : FldB K C fI iid [f, g])
    (hb : ∀ (cdv : Value) (A : Around) (outer : List PySem.Env) (s : Shared) (H : Hp) (E : XK),
      PSs (cxOf (L2N.CX P w) P w K mg base ["self", y, z] qual (defScope st) fI cdv A outer s H E) (defBody st) (tSeq (tDrop (tIni K iid (tCons (tVar 0) (tCons (tC (.str x)) tNil)))) (tSeq (tOsB K f (tVar 0) (tVar 1)) (tOsB K g (tVar 0) (tVar 2))))) :
    FnOk P w K mg base (L2N.CX P w) (k + 1) fI fd ["self", y, z] (spB K C iid [f, g]) := by
  refine F.okN S (fun vs H Q E ⟨a, xs, ev, hl, _⟩ => by rw [ev]; simp [hl]) (fun cdv A outer s H vs Q E hr h => ?_)
  refine ⟨_, hb cdv A outer s H E, ?_⟩
  obtain ⟨a, xs, rfl, hl, ox, ha, q⟩ := h
  obtain ⟨u, v, rfl⟩ : ∃ u v, xs = [u, v] := by
    match xs, hl with
    | [u, v], _ => exact ⟨u, v, rfl⟩
  refine ⟨.ref a, rfl, ⟨a, C, [.str x], rfl, by simp, ox, ha, ⟨u, rfl, ⟨.ref a, rfl, ⟨a, C, iid, rfl, ox, T.no f (by simp), .inl ⟨ha, fun dx n ne => ?_⟩⟩⟩⟩⟩⟩
  refine ⟨v, rfl, ⟨.ref a, rfl, ⟨a, C, iid, rfl, ox, T.no g (by simp), .inr ⟨dx, [(f, u)], upd_same, by rw [upd_ne ne, upd_same], by simp, ?_⟩⟩⟩⟩
  show Q .non _
  rw [exd_upd n ne]
  exact q dx n ne
end
theorem mk_endV {X : Cx} {pins : List (Addr × Obj)} {σ : L2.St} {H1 H2 : Hp} {hp hp2 h2 : Heap} {g1 g2 : Array GenState} {d1 d2 : Drawn} {t1 t2 : Nat} {os1 os2 : OsState} {a C d : Addr} {fs : List (Str × V)} (I1 : L2.Inv X pins σ H1 ⟨hp, g1, d1, t1, os1⟩)
    (ha : hp.objs.size ≤ a) (k : ∀ b o, hp.get? b = some o → hp2.get? b = some o) (un : Un (frs X.stack) [] (upd H1 a (exo a C none)) H2 hp2 h2) (hok : HOk X.prog X.w H2 h2) (ho : os2 = os1) (hb : AllBare g2)
    (ea : H2 a = some (exo a C (some d))) (ed : H2 d = some (exd d fs)) (hd1 : H1 d = none) :
    L2.Inv X pins σ (upd (upd (del H2 a) d (.xd fs)) a (exH a (.ref C) (some d))) ⟨h2, g2, d2, t2, os2⟩ := by
  obtain ⟨t0, hoe⟩ := exo_at hok ea
  obtain ⟨mA, hns, rel⟩ := exd_at hok ed
  have hn : H1 a = none := I1.hok.fresh ha
  have hda : d ≠ a := fun z => by
    obtain ⟨o, es, ep, e1, e2, _⟩ := hns
    rw [z, hoe] at e1
    have z2 := Option.some.inj e1
    subst z2
    cases e2
  have nha : ∀ {b : Addr} {o : Obj}, hp.get? b = some o → b ≠ a := fun {b o} z => Nat.ne_of_lt (Nat.lt_of_lt_of_le (Heap.lt_size z) ha)
  have up : ∀ {b : Addr}, b ≠ a → H1 b = none → upd H1 a (exo a C none) b = none := fun {b} hb n => by rw [upd_ne hb]; exact n
  have nd : ∀ {b : Addr} {o : Obj}, hp.get? b = some o → H1 b = none → b ≠ d := fun {b o} z n e => by
    have y := un.free b o (k b o z) (up (nha z) n) (by simp)
    rw [e, ed] at y
    cases y
  have U : Un (frs X.stack) [] H1 (upd (upd (del H2 a) d (.xd fs)) a (exH a (.ref C) (some d))) hp h2 := {
    keep := fun b o z n hf hx => un.keep b o (k b o z) (up (nha z) n) hf hx
    slot := fun b o z n hf hx => un.slot b o (k b o z) (up (nha z) n) hf hx
    free := fun b o z n hx => by
      rw [upd_ne (nha z), upd_ne (nd z n), del_ne (nha z)]
      exact un.free b o (k b o z) (up (nha z) n) hx
    there := fun b o z hx => un.there b o (k b o z) hx
    tups := fun b xs z => by
      rw [upd_ne (ne_of_none z hn), upd_ne (ne_of_none z hd1), del_ne (ne_of_none z hn)]
      exact un.tups b xs (by rw [upd_ne (ne_of_none z hn)]; exact z)
    frzs := fun b o v z => by
      rw [upd_ne (ne_of_none z hn), upd_ne (ne_of_none z hd1), del_ne (ne_of_none z hn)]
      exact un.frzs b o v (by rw [upd_ne (ne_of_none z hn)]; exact z)
    tbls := fun b ps z => by
      rw [upd_ne (ne_of_none z hn), upd_ne (ne_of_none z hd1), del_ne (ne_of_none z hn)]
      exact un.tbls b ps (by rw [upd_ne (ne_of_none z hn)]; exact z) }
  have hok3 : HOk X.prog X.w (upd (upd (del H2 a) d (.xd fs)) a (exH a (.ref C) (some d))) h2 := fun b o z => by
    by_cases hba : b = a
    · subst hba
      rw [upd_same] at z
      cases z
      exact ⟨⟨_, _, hoe, rfl, rfl, rfl⟩, ⟨_, hoe⟩, fun h1 h2 ⟨o1, v1, q1, q2⟩ k => ⟨o1, v1, k _ q1, q2⟩⟩
    rw [upd_ne hba] at z
    by_cases hbd : b = d
    · subst hbd
      rw [upd_same] at z
      cases z
      exact ⟨mA, hns, rel⟩
    · rw [upd_ne hbd, del_ne hba] at z
      have noa : ∀ {c : Addr}, H2 c = some (.own b) → c ≠ a := fun {c} hc => at_ne ea hc exo_own
      exact (hok b o z).stay (fun c v hc y => y)
        (fun c hc => by rw [upd_ne (noa hc), upd_ne (at_ne ed hc exd_own), del_ne (noa hc)]; exact hc) (fun c xs hc => by rw [upd_ne (at_ne ea hc exo_tup), upd_ne (at_ne ed hc exd_tup), del_ne (at_ne ea hc exo_tup)]; exact hc)
  exact I1.call' (ch := []) ho U hok3 hb (fun b z => absurd z (by simp))
theorem made_oexB {X : Cx} {CX : CXT} {pins : List (Addr × Obj)} {σ : L2.St} {C fI : Addr} {k : Nat} {fd : FuncData} {ps : List Str} {sp : Sp} {iid : String} {us : List Value} {vs : List V} {H1 : Hp} {s1 : Shared} {R : Value → Shared → Prop}
    (T : OexB X.K C iid) (iC : PySem.W.findIn X.K (.ref C) "__init__" = some (some (.ref fI))) (tI : PySem.W.typeIn X.K (.ref fI) = some (.type "function"))
    (F1 : FnOk X.prog X.w X.K X.mg X.base CX k fI fd ps sp) (hr : Room (k + 1) X.A) (hb : Binds X.K fd ps []) (hx : Passes CX X (fun _ _ _ => False)) (I1 : L2.Inv X pins σ H1 s1) (r1 : Vals vs us) (hz : vs.length ≤ 1000)
    (q1 : ∀ a, H1 a = none → sp (.ref a :: (vs ++ [])) (upd H1 a (exo a C none)) (fun v H2 => v = .non ∧ ∃ (d : Addr) (fs : List (Str × V)), H2 a = some (exo a C (some d)) ∧ H2 d = some (exd d fs) ∧ H1 d = none ∧
      ∀ (t0 : Addr) (G : Heap) (h2 : Heap) g2 d2 t2 os2, L2.Inv X pins σ (upd (del H2 a) d (.xd fs)) ⟨G, g2, d2, t2, os2⟩ → (∀ b o, G.get? b = some o → h2.get? b = some o) → G.get? a = none →
        h2.get? a = some ({ cls := .ref C, dict := some d, data := .fields #[.ref t0, .none, .none, .none, .bool false, .none] } : Obj) → (upd (del H2 a) d (.xd fs)) a = none → AllBare g2 →
        L2.Inv X pins σ (upd (upd (del H2 a) d (.xd fs)) a (exH a (.ref C) (some d))) ⟨h2, g2, d2, t2, os2⟩ →
        R (.ref a) ⟨h2, g2, d2, t2, os2⟩) (fun _ _ _ => False)) :
    wpAny (model X.prog X.w) X.A (call (.ref C) us) R X.xe s1 := by
  obtain ⟨nm, q, N, bs, bm, sn, sub, ab, col, dd, k0, k1, k2, k3, k5, newId, Bn, initN, bmN, B, hC, hF, hA, hI, hB, hS⟩ := T.cls
  obtain ⟨hp, g, dr, tk, os⟩ := s1
  have big : hp.objs.size ≤ hp.objs.size + 1 := by omega
  have hq := q1 (hp.objs.size + 1) (I1.hok.fresh big)
  have keeps : ∀ b o, hp.get? b = some o → ((hp.push (PySem.W.kdv_tup us)).push (PySem.HandSPX.excO C hp.objs.size)).get? b = some o := fun b o z => Heap.get?_push_of_some _ (Heap.get?_push_of_some _ z)
  have I2 : L2.Inv X pins σ (upd H1 (hp.objs.size + 1) (exo (hp.objs.size + 1) C none)) ⟨(hp.push (PySem.W.kdv_tup us)).push (PySem.HandSPX.excO C hp.objs.size), g, dr, tk, os⟩ := I1.laid (t' := tk) (a := hp.objs.size + 1) (o := exo (hp.objs.size + 1) C none) keeps big (exo_ok (t1 := hp.objs.size) (d := none) (C := C) (by heap_get))
  have r2 : Vals (V.ref (hp.objs.size + 1) :: (vs ++ [])) (Value.ref (hp.objs.size + 1) :: (us ++ [])) := .cons rfl (r1.append .nil)
  have hl : (Value.ref (hp.objs.size + 1) :: us ++ []).length = ps.length := (r2.length.symm.trans (F1.len _ _ _ _ hq))
  have b2 : BindsTo ⟨(hp.push (PySem.W.kdv_tup us)).push (PySem.HandSPX.excO C hp.objs.size), g, dr, tk, os⟩ fd ⟨Value.ref (hp.objs.size + 1) :: us, []⟩ (ps.zip (Value.ref (hp.objs.size + 1) :: (us ++ []))) := hb _ (Value.ref (hp.objs.size + 1) :: us) I2.kIn hl
  have small : us.length ≤ sizeLine := by rw [← Paired.length r1, sizeLine_eq]; omega
  refine wpAny_call (PySem.XOB.call_x hF hA (I1.kIn _ _ hC) (PySem.W.looks_findIn I1.kIn iC) (fun self => PySem.W.bind_fn I1.kIn self tI) small
    (codeAny_mono (F1.run _ X.stack _ _ ⟨Value.ref (hp.objs.size + 1) :: us, []⟩ (Value.ref (hp.objs.size + 1) :: (us ++ [])) _ _ (fun _ _ _ => False) (hr.make C us []) (I2.env0.make C us []) b2 r2 hq) fun r s' hq' => ?_))
  match r, hq' with
  | .error er, hq' => exact hx pins σ _ _ er s' I2 hq'
  | .ok .next, hq' => exact hq'.elim
  | .ok .brk, hq' => exact hq'.elim
  | .ok .cont, hq' => exact hq'.elim
  | .ok (.ret u), ⟨v, H2, os2, bare2, un2, hok2, rv, ev, d, fs, ea, ed, hd1, q2⟩ =>
    subst ev
    obtain ⟨h2, g2, d2, t2, os'⟩ := s'
    obtain ⟨t0, G, J, kG, ge, hoe, na⟩ := mk_end0 (d2 := d2) (t2 := t2) I1 big keeps un2 hok2 os2 bare2 ea ed hd1
    exact ⟨rv, q2 t0 G h2 g2 d2 t2 os' J kG ge hoe na bare2 (mk_endV I1 big keeps un2 hok2 os2 bare2 ea ed hd1)⟩
theorem spB.imp {K : PySem.W.Frag} {C : Addr} {iid : String} {ns : List Str} {vs : List V} {H : Hp} {Q Q' : VK} {E E' : XK} (h : spB K C iid ns vs H Q E) (m : ∀ v H', Q v H' → Q' v H') : spB K C iid ns vs H Q' E' := by
  obtain ⟨a, xs, e, l, ox, ha, q⟩ := h
  exact ⟨a, xs, e, l, ox, ha, fun dx n ne => m _ _ (q dx n ne)⟩
theorem pe_oexB {X : Cx} {x : Str} {e : Expr} {es : List Expr} {ta : TA} {p pos : Pos} {C fI : Addr} {k : Nat} {fd : FuncData} {ps ns : List Str} {iid : String} (T : FldB X.K C fI iid ns)
    (F1 : FnOk X.prog X.w X.K X.mg X.base (L2N.CX X.prog X.w) k fI fd ps (spB X.K C iid ns)) (hr : Room (k + 1) X.A) (hb : Binds X.K fd ps []) (hg : Gl X x) (hm : X.mg x = some (.ref C)) (ha : PA X (e :: es) ta)
    (hdb : (x == ("__debug__" : Str)) = false := by decide) (he : starEach (e :: es) X.env = (false, eval e X.env) :: starEach es X.env := by rfl) (hpl : (backTo pos (starEach es X.env)).any (·.1) = false := by rfl) :
    PE X (.Call (.Name x p) (e :: es) [] pos) (fun σ H Q => ta σ H fun vs H1 => vs.length ≤ 1000 ∧ vs.length = ns.length ∧ ∀ a dx, H1 a = none → dx ≠ a → H1 dx = none → Q (.ref a) (upd (upd H1 dx (.xd (ns.zip vs).reverse)) a (exH a (.ref C) (some dx)))) := ⟨fun pins s sg H Q I h => by
  refine wpAny_Call_Name_kw (ld_glob I hg hm (PySem.W.callWith_K (h₀ := X.base) I.ok.mod.kin T.ox.kC (thn (ha.run pos pins s sg H _ I h) fun us s1 ⟨vs, H1, I1, r1, hz, hl, q1⟩ => ⟨I1.kIn, ?_⟩) he hpl) hdb)
  show wpAny _ _ (call (.ref C) us) _ _ _
  refine made_oexB T.ox T.ini T.fn F1 hr hb (fun _ _ _ _ _ _ _ ⟨_, _, _, _, _, _, _, _, _, _, _, _, hE⟩ => hE.elim) I1 r1 hz fun a na => ⟨a, vs, by rw [List.append_nil], hl, T.ox, upd_same, fun dx n ne => ⟨rfl, dx, _, upd_same, by rw [upd_ne ne, upd_same], ?_, ?_⟩⟩
  · rw [upd_ne ne] at n; exact n
  · intro t0 G h2 g2 d2 t2 os2 J kG ge hoe na2 bare2 JV
    have n1 : H1 dx = none := by rw [upd_ne ne] at n; exact n
    have eH : upd (del (upd (upd (upd H1 a (exo a C none)) dx (exd dx (ns.zip vs).reverse)) a (exo a C (some dx))) a) dx (.xd (ns.zip vs).reverse) = upd H1 dx (.xd (ns.zip vs).reverse) := by
      funext b
      by_cases hb : b = dx
      · subst hb; rw [upd_same, upd_same]
      · rw [upd_ne hb, upd_ne hb]
        by_cases hba : b = a
        · subst hba; rw [del_same]; exact na.symm
        · rw [del_ne hba, upd_ne hba, upd_ne hb, upd_ne hba]
    rw [eH] at JV
    exact ⟨.ref a, _, JV, rfl, q1 a dx na ne n1⟩⟩
theorem pe_oex0 {X : Cx} {C : Addr} {bmB : List Value} {B newId initId : String} {x : Str} {e : Expr} {ta : TE} {p pos : Pos} (F : ExcBaseFacts B newId initId bmB) (q : PySem.W.excIn X.K C bmB newId = true) (gC : X.mg x = some (.ref C)) (kC : PySem.W.keepIn X.K (.ref C) = true) (hg : Gl X x)
    (he : PE X e ta) (hs : starEach [e] X.env = (false, eval e X.env) :: starEach [] X.env := by rfl) (hdb : (x == ("__debug__" : Str)) = false := by decide) :
    PE X (.Call (.Name x p) [e] [] pos) (fun σ H Q => ta σ H fun _ H1 => ∀ a, H1 a = none → Q (.ref a) (upd H1 a (exH a (.ref C) none))) := by
  refine ⟨fun pins s σ H Q I h => ?_⟩
  refine wpAny_Call_Name_kw (ld_glob I hg gC ?_ hdb)
  refine PySem.W.callWith_K (h₀ := X.base) I.ok.mod.kin kC ?_ hs (by rfl)
  rw [hs]
  show wpAny _ _ (spliced ((false, eval e X.env) :: backTo pos (starEach [] X.env))) _ _ s
  refine Calls.spliced_cons (thn (he.run pins s σ H _ I h) fun u s1 ⟨v, H1, I1, r1, q1⟩ => ?_)
  refine Calls.spliced_nil ⟨I1.kIn, ?_⟩
  show wpAny _ _ (call (.ref C) [u]) _ _ _
  obtain ⟨bm, N, nm, qn, bs, hdct, sn, sub, ab, col, dd, k0, k1, k2, k3, k5, mN, hC, hN, hni, T⟩ := exc_obj I1.kIn q
  refine wpAny_call_exc_subT F T hC hN hni (fun h' a hm => ?_) (by show 1 ≤ sizeLine; rw [sizeLine_eq]; omega)
  have hn : H1 a = none := I1.hok.gone hm.new
  obtain ⟨t, ht, _, _⟩ := hm.there
  exact ⟨.ref a, upd H1 a (exH a (.ref C) none), I1.laidN hm.keeps hm.new hn ⟨⟨_, _, ht, rfl, rfl, rfl⟩, ⟨_, ht⟩, fun _ _ ⟨o, v, q, r⟩ k => ⟨o, v, k o q, r⟩⟩, rfl, q1 a hn⟩
def rMkE (c : Nat) (ns : List Str) (as : RA) : RE := fun e S => (as e S).bind fun ds S1 => if ds.length = ns.length then .ok (.exn c ns.reverse ds.reverse) S1 else .bad
def rMkE0 (c : Nat) (a : RE) : RE := fun e S => (a e S).bind fun _ S1 => .ok (.exn c [] []) S1
section
variable {X : Cx} {C : Nat → Addr} {W : WX} {x : Str} {e : Expr} {es : List Expr} {ra : RA} {p pos pos' : Pos}
theorem ee_mkE0 {bmB : List Value} {B newId initId : String} {re : RE} (c : Nat) (F : ExcBaseFacts B newId initId bmB) (q : PySem.W.excIn X.K (C c) bmB newId = true) (gC : X.mg x = some (.ref (C c))) (kC : PySem.W.keepIn X.K (.ref (C c)) = true) (hg : Gl X x)
    (he : PE X e (tE X.K C W re)) (hs : starEach [e] X.env = (false, eval e X.env) :: starEach [] X.env := by rfl) (hdb : (x == ("__debug__" : Str)) = false := by decide) :
    PE X (.Call (.Name x p) [e] [] pos) (tE X.K C W (rMkE0 c re)) :=
  (pe_oex0 F q gC kC hg he hs hdb).imp fun sg H Q h => (tR.seq1 (R := RepR X.K C) (r := re) (fun _ _ S => .ok (.exn c [] []) S) h fun _ _ => rfl).mono fun v H1 ⟨e1, S, io, d, dn, sl, rd, post⟩ a na => by
    exact post _ _ io (Ext.new dn na) (dn.new na) (exn_rep (x := ⟨c, [], []⟩) dn na ⟨rfl, .inl ⟨rfl, rfl, rfl⟩⟩)
theorem ee_mkE (c : Nat) {fI : Addr} {k : Nat} {fd : FuncData} {ps ns : List Str} {iid : String} (T : FldB X.K (C c) fI iid ns)
    (F1 : FnOk X.prog X.w X.K X.mg X.base (L2N.CX X.prog X.w) k fI fd ps (spB X.K (C c) iid ns)) (hr : Room (k + 1) X.A) (hb : Binds X.K fd ps []) (hz : ns.length ≤ 1000) (gC : X.mg x = some (.ref (C c))) (hg : Gl X x) (ha : PA X (e :: es) (tA X.K C W ra))
    (hdb : (x == ("__debug__" : Str)) = false := by decide) (he : starEach (e :: es) X.env = (false, eval e X.env) :: starEach es X.env := by rfl) (hpl : (backTo pos (starEach es X.env)).any (·.1) = false := by rfl) :
    PE X (.Call (.Name x p) (e :: es) [] pos) (tE X.K C W (rMkE c ns ra)) :=
  (pe_oexB T F1 hr hb hg gC ha hdb he hpl).imp fun sg H Q h => (tR.seq1 (R := RepsR X.K C) (r := ra) (fun _ ds S => if ds.length = ns.length then .ok (.exn c ns.reverse ds.reverse) S else .bad) h fun _ _ => rfl).mono fun vs H1 ⟨e1, S, io, ds, dn, sl, rs, post⟩ => by
    split at post
    · rename_i hlen
      have hl := rs.length
      refine ⟨by omega, by omega, fun a dx na ne n1 => ?_⟩
      have x1 := Ext.new (o := .xd (ns.zip vs).reverse) dn n1
      have d1 := dn.new (o := .xd (ns.zip vs).reverse) n1
      have na1 : upd H1 dx (.xd (ns.zip vs).reverse) a = none := by rw [upd_ne (Ne.symm ne)]; exact na
      refine post _ _ io (x1.trans (Ext.new d1 na1)) (d1.new na1) (exn_rep (x := ⟨c, ns.reverse, ds.reverse⟩) d1 na1 ⟨rfl, .inr ⟨dx, _, rfl, upd_same, ?_, ?_⟩⟩)
      · rw [List.map_reverse, zip_map1 _ _ (by omega)]
      · rw [List.map_reverse, zip_map2 _ _ (by omega)]
        exact (rs.ext x1).reverse
    · exact post.elim
end
end Ev
namespace Lw
open PySem PySem.Spec L2 Ev
noncomputable section
def topS (i : Nat) : Stmt := PySem.Challenge.pw_sealedreach_k05_refusals_apart.main.body.getD i (.Pass ⟨0, 0, 0, 0⟩)
abbrev cl_NoFields : Nat := 1
abbrev cl_NoBounds : Nat := 2
abbrev cl_NoOffset : Nat := 3
abbrev cl_NoAddress : Nat := 4
abbrev cl_NoWord : Nat := 5
abbrev cl_NoHands : Nat := 6
abbrev cl_NoRule : Nat := 7
abbrev cl_NoNumber : Nat := 8
abbrev cl_NoLine : Nat := 9
abbrev cl_Fault : Nat := 10
abbrev cl_NoRows : Nat := 11
abbrev cl_NoText : Nat := 12
abbrev cl_NoDeeds : Nat := 13
abbrev cl_NoCompartment : Nat := 14
abbrev cl_TooMany : Nat := 15
abbrev cl_NoName : Nat := 16
abbrev cl_Sweeping : Nat := 17
abbrev cl_NoSweep : Nat := 18
def clsS (i j : Nat) : Stmt := match topS i with | .ClassDef _ _ _ body _ _ _ _ _ _ _ => body.getD j (.Pass ⟨0, 0, 0, 0⟩) | _ => .Pass ⟨0, 0, 0, 0⟩
abbrev si_Fault : Stmt := clsS 11 0
theorem sci_Fault : FnScope ["self", "word"] ["self", "word"] (defScope si_Fault) := ⟨rfl, rfl, rfl, by decide +kernel, rfl, by decide +kernel, by decide +kernel⟩
abbrev si_NoRows : Stmt := clsS 12 0
theorem sci_NoRows : FnScope ["self", "number"] ["self", "number"] (defScope si_NoRows) := ⟨rfl, rfl, rfl, by decide +kernel, rfl, by decide +kernel, by decide +kernel⟩
abbrev si_NoText : Stmt := clsS 13 0
theorem sci_NoText : FnScope ["self", "number"] ["self", "number"] (defScope si_NoText) := ⟨rfl, rfl, rfl, by decide +kernel, rfl, by decide +kernel, by decide +kernel⟩
abbrev si_NoDeeds : Stmt := clsS 14 0
theorem sci_NoDeeds : FnScope ["self", "number"] ["self", "number"] (defScope si_NoDeeds) := ⟨rfl, rfl, rfl, by decide +kernel, rfl, by decide +kernel, by decide +kernel⟩
abbrev si_NoCompartment : Stmt := clsS 15 0
theorem sci_NoCompartment : FnScope ["self", "number", "part"] ["self", "number", "part"] (defScope si_NoCompartment) := ⟨rfl, rfl, rfl, by decide +kernel, rfl, by decide +kernel, by decide +kernel⟩
abbrev si_TooMany : Stmt := clsS 16 0
theorem sci_TooMany : FnScope ["self", "size"] ["self", "size"] (defScope si_TooMany) := ⟨rfl, rfl, rfl, by decide +kernel, rfl, by decide +kernel, by decide +kernel⟩
abbrev si_NoName : Stmt := clsS 17 0
theorem sci_NoName : FnScope ["self", "name"] ["self", "name"] (defScope si_NoName) := ⟨rfl, rfl, rfl, by decide +kernel, rfl, by decide +kernel, by decide +kernel⟩
def fk_name : Nat → Bool
  | 16 => true
  | _ => false
def fk_number : Nat → Bool
  | 11 => true
  | 12 => true
  | 13 => true
  | 14 => true
  | _ => false
def fk_part : Nat → Bool
  | 14 => true
  | _ => false
def fk_size : Nat → Bool
  | 15 => true
  | _ => false
def fk_word : Nat → Bool
  | 10 => true
  | _ => false
abbrev s_law_pool : Stmt := topS 21
theorem sc_law_pool : FnScope ["_law_script", "_law_k", "_law_cell", "_law_great", "_law_mixed"] ["_law_script", "_law_k"] (defScope s_law_pool) := ⟨rfl, rfl, rfl, by decide +kernel, rfl, by decide +kernel, by decide +kernel⟩
abbrev s_law_take : Stmt := topS 22
theorem sc_law_take : FnScope ["_law_pool_here", "_law_many", "_law_found"] ["_law_pool_here", "_law_many"] (defScope s_law_take) := ⟨rfl, rfl, rfl, by decide +kernel, rfl, by decide +kernel, by decide +kernel⟩
abbrev s_law_kinds : Stmt := topS 23
theorem sc_law_kinds : FnScope ["_law_e", "_law_found"] ["_law_e"] (defScope s_law_kinds) := ⟨rfl, rfl, rfl, by decide +kernel, rfl, by decide +kernel, by decide +kernel⟩
abbrev s_law_bases : Stmt := topS 24
theorem sc_law_bases : FnScope ["_law_e", "_law_found"] ["_law_e"] (defScope s_law_bases) := ⟨rfl, rfl, rfl, by decide +kernel, rfl, by decide +kernel, by decide +kernel⟩
abbrev s_law_made : Stmt := topS 25
theorem sc_law_made : FnScope ["_law_which", "_law_one", "_law_other", "_law_some"] ["_law_which", "_law_one", "_law_other"] (defScope s_law_made) := ⟨rfl, rfl, rfl, by decide +kernel, rfl, by decide +kernel, by decide +kernel⟩
abbrev s_law_values : Stmt := topS 26
theorem sc_law_values : FnScope ["_law_which", "_law_e"] ["_law_which", "_law_e"] (defScope s_law_values) := ⟨rfl, rfl, rfl, by decide +kernel, rfl, by decide +kernel, by decide +kernel⟩
abbrev s_law_due_bases : Stmt := topS 27
theorem sc_law_due_bases : FnScope ["_law_which"] ["_law_which"] (defScope s_law_due_bases) := ⟨rfl, rfl, rfl, by decide +kernel, rfl, by decide +kernel, by decide +kernel⟩
abbrev s_law : Stmt := topS 28
theorem sc_law : FnScope ["_law_script", "_law_k", "_law_pool_here", "_law_some", "_law_one", "_law_other", "_law_which", "_law_made_here", "_law_second", "_law_kinds_here", "_law_at", "_law_own", "_law_found"] ["_law_script"] (defScope s_law) := ⟨rfl, rfl, rfl, by decide +kernel, rfl, by decide +kernel, by decide +kernel⟩
def kq_Fault : TK → Option Bool
  | .inr 0 => some false
  | .inr 1 => some false
  | .inr 2 => some false
  | .inr 3 => some false
  | .inr 4 => some false
  | .inr 5 => some false
  | .inr 6 => some false
  | .inr 7 => some false
  | .inr 8 => some false
  | .inr 9 => some false
  | .inr 10 => some true
  | .inr 11 => some false
  | .inr 12 => some false
  | .inr 13 => some false
  | .inr 14 => some false
  | .inr 15 => some false
  | .inr 16 => some false
  | .inr 17 => some false
  | .inr 18 => some false
  | _ => none
def kq_IndexError : TK → Option Bool
  | .inr 0 => some false
  | .inr 1 => some false
  | .inr 2 => some false
  | .inr 3 => some false
  | .inr 4 => some false
  | .inr 5 => some false
  | .inr 6 => some false
  | .inr 7 => some false
  | .inr 8 => some false
  | .inr 9 => some false
  | .inr 10 => some false
  | .inr 11 => some false
  | .inr 12 => some false
  | .inr 13 => some false
  | .inr 14 => some false
  | .inr 15 => some false
  | .inr 16 => some false
  | .inr 17 => some false
  | .inr 18 => some false
  | _ => none
def kq_KeyError : TK → Option Bool
  | .inr 0 => some false
  | .inr 1 => some false
  | .inr 2 => some false
  | .inr 3 => some false
  | .inr 4 => some false
  | .inr 5 => some false
  | .inr 6 => some false
  | .inr 7 => some false
  | .inr 8 => some false
  | .inr 9 => some false
  | .inr 10 => some false
  | .inr 11 => some false
  | .inr 12 => some false
  | .inr 13 => some false
  | .inr 14 => some false
  | .inr 15 => some false
  | .inr 16 => some true
  | .inr 17 => some false
  | .inr 18 => some false
  | _ => none
def kq_LookupError : TK → Option Bool
  | .inr 0 => some false
  | .inr 1 => some false
  | .inr 2 => some false
  | .inr 3 => some false
  | .inr 4 => some false
  | .inr 5 => some false
  | .inr 6 => some false
  | .inr 7 => some false
  | .inr 8 => some false
  | .inr 9 => some false
  | .inr 10 => some false
  | .inr 11 => some false
  | .inr 12 => some false
  | .inr 13 => some false
  | .inr 14 => some false
  | .inr 15 => some false
  | .inr 16 => some true
  | .inr 17 => some false
  | .inr 18 => some true
  | _ => none
def kq_NoAddress : TK → Option Bool
  | .inr 0 => some false
  | .inr 1 => some false
  | .inr 2 => some false
  | .inr 3 => some false
  | .inr 4 => some true
  | .inr 5 => some false
  | .inr 6 => some false
  | .inr 7 => some false
  | .inr 8 => some false
  | .inr 9 => some false
  | .inr 10 => some false
  | .inr 11 => some false
  | .inr 12 => some false
  | .inr 13 => some false
  | .inr 14 => some false
  | .inr 15 => some false
  | .inr 16 => some false
  | .inr 17 => some false
  | .inr 18 => some false
  | _ => none
def kq_NoBounds : TK → Option Bool
  | .inr 0 => some false
  | .inr 1 => some false
  | .inr 2 => some true
  | .inr 3 => some false
  | .inr 4 => some false
  | .inr 5 => some false
  | .inr 6 => some false
  | .inr 7 => some false
  | .inr 8 => some false
  | .inr 9 => some false
  | .inr 10 => some false
  | .inr 11 => some false
  | .inr 12 => some false
  | .inr 13 => some false
  | .inr 14 => some false
  | .inr 15 => some false
  | .inr 16 => some false
  | .inr 17 => some false
  | .inr 18 => some false
  | _ => none
def kq_NoCompartment : TK → Option Bool
  | .inr 0 => some false
  | .inr 1 => some false
  | .inr 2 => some false
  | .inr 3 => some false
  | .inr 4 => some false
  | .inr 5 => some false
  | .inr 6 => some false
  | .inr 7 => some false
  | .inr 8 => some false
  | .inr 9 => some false
  | .inr 10 => some false
  | .inr 11 => some false
  | .inr 12 => some false
  | .inr 13 => some false
  | .inr 14 => some true
  | .inr 15 => some false
  | .inr 16 => some false
  | .inr 17 => some false
  | .inr 18 => some false
  | _ => none
def kq_NoDeeds : TK → Option Bool
  | .inr 0 => some false
  | .inr 1 => some false
  | .inr 2 => some false
  | .inr 3 => some false
  | .inr 4 => some false
  | .inr 5 => some false
  | .inr 6 => some false
  | .inr 7 => some false
  | .inr 8 => some false
  | .inr 9 => some false
  | .inr 10 => some false
  | .inr 11 => some false
  | .inr 12 => some false
  | .inr 13 => some true
  | .inr 14 => some false
  | .inr 15 => some false
  | .inr 16 => some false
  | .inr 17 => some false
  | .inr 18 => some false
  | _ => none
def kq_NoFields : TK → Option Bool
  | .inr 0 => some false
  | .inr 1 => some true
  | .inr 2 => some false
  | .inr 3 => some false
  | .inr 4 => some false
  | .inr 5 => some false
  | .inr 6 => some false
  | .inr 7 => some false
  | .inr 8 => some false
  | .inr 9 => some false
  | .inr 10 => some false
  | .inr 11 => some false
  | .inr 12 => some false
  | .inr 13 => some false
  | .inr 14 => some false
  | .inr 15 => some false
  | .inr 16 => some false
  | .inr 17 => some false
  | .inr 18 => some false
  | _ => none
def kq_NoHands : TK → Option Bool
  | .inr 0 => some false
  | .inr 1 => some false
  | .inr 2 => some false
  | .inr 3 => some false
  | .inr 4 => some false
  | .inr 5 => some false
  | .inr 6 => some true
  | .inr 7 => some false
  | .inr 8 => some false
  | .inr 9 => some false
  | .inr 10 => some false
  | .inr 11 => some false
  | .inr 12 => some false
  | .inr 13 => some false
  | .inr 14 => some false
  | .inr 15 => some false
  | .inr 16 => some false
  | .inr 17 => some false
  | .inr 18 => some false
  | _ => none
def kq_NoLine : TK → Option Bool
  | .inr 0 => some false
  | .inr 1 => some false
  | .inr 2 => some false
  | .inr 3 => some false
  | .inr 4 => some false
  | .inr 5 => some false
  | .inr 6 => some false
  | .inr 7 => some false
  | .inr 8 => some false
  | .inr 9 => some true
  | .inr 10 => some false
  | .inr 11 => some false
  | .inr 12 => some false
  | .inr 13 => some false
  | .inr 14 => some false
  | .inr 15 => some false
  | .inr 16 => some false
  | .inr 17 => some false
  | .inr 18 => some false
  | _ => none
def kq_NoName : TK → Option Bool
  | .inr 0 => some false
  | .inr 1 => some false
  | .inr 2 => some false
  | .inr 3 => some false
  | .inr 4 => some false
  | .inr 5 => some false
  | .inr 6 => some false
  | .inr 7 => some false
  | .inr 8 => some false
  | .inr 9 => some false
  | .inr 10 => some false
  | .inr 11 => some false
  | .inr 12 => some false
  | .inr 13 => some false
  | .inr 14 => some false
  | .inr 15 => some false
  | .inr 16 => some true
  | .inr 17 => some false
  | .inr 18 => some false
  | _ => none
def kq_NoNumber : TK → Option Bool
  | .inr 0 => some false
  | .inr 1 => some false
  | .inr 2 => some false
  | .inr 3 => some false
  | .inr 4 => some false
  | .inr 5 => some false
  | .inr 6 => some false
  | .inr 7 => some false
  | .inr 8 => some true
  | .inr 9 => some false
  | .inr 10 => some false
  | .inr 11 => some false
  | .inr 12 => some false
  | .inr 13 => some false
  | .inr 14 => some false
  | .inr 15 => some false
  | .inr 16 => some false
  | .inr 17 => some false
  | .inr 18 => some false
  | _ => none
def kq_NoOffset : TK → Option Bool
  | .inr 0 => some false
  | .inr 1 => some false
  | .inr 2 => some false
  | .inr 3 => some true
  | .inr 4 => some false
  | .inr 5 => some false
  | .inr 6 => some false
  | .inr 7 => some false
  | .inr 8 => some false
  | .inr 9 => some false
  | .inr 10 => some false
  | .inr 11 => some false
  | .inr 12 => some false
  | .inr 13 => some false
  | .inr 14 => some false
  | .inr 15 => some false
  | .inr 16 => some false
  | .inr 17 => some false
  | .inr 18 => some false
  | _ => none
def kq_NoRows : TK → Option Bool
  | .inr 0 => some false
  | .inr 1 => some false
  | .inr 2 => some false
  | .inr 3 => some false
  | .inr 4 => some false
  | .inr 5 => some false
  | .inr 6 => some false
  | .inr 7 => some false
  | .inr 8 => some false
  | .inr 9 => some false
  | .inr 10 => some false
  | .inr 11 => some true
  | .inr 12 => some false
  | .inr 13 => some false
  | .inr 14 => some false
  | .inr 15 => some false
  | .inr 16 => some false
  | .inr 17 => some false
  | .inr 18 => some false
  | _ => none
def kq_NoRule : TK → Option Bool
  | .inr 0 => some false
  | .inr 1 => some false
  | .inr 2 => some false
  | .inr 3 => some false
  | .inr 4 => some false
  | .inr 5 => some false
  | .inr 6 => some false
  | .inr 7 => some true
  | .inr 8 => some false
  | .inr 9 => some false
  | .inr 10 => some false
  | .inr 11 => some false
  | .inr 12 => some false
  | .inr 13 => some false
  | .inr 14 => some false
  | .inr 15 => some false
  | .inr 16 => some false
  | .inr 17 => some false
  | .inr 18 => some false
  | _ => none
def kq_NoSweep : TK → Option Bool
  | .inr 0 => some false
  | .inr 1 => some false
  | .inr 2 => some false
  | .inr 3 => some false
  | .inr 4 => some false
  | .inr 5 => some false
  | .inr 6 => some false
  | .inr 7 => some false
  | .inr 8 => some false
  | .inr 9 => some false
  | .inr 10 => some false
  | .inr 11 => some false
  | .inr 12 => some false
  | .inr 13 => some false
  | .inr 14 => some false
  | .inr 15 => some false
  | .inr 16 => some false
  | .inr 17 => some false
  | .inr 18 => some true
  | _ => none
def kq_NoText : TK → Option Bool
  | .inr 0 => some false
  | .inr 1 => some false
  | .inr 2 => some false
  | .inr 3 => some false
  | .inr 4 => some false
  | .inr 5 => some false
  | .inr 6 => some false
  | .inr 7 => some false
  | .inr 8 => some false
  | .inr 9 => some false
  | .inr 10 => some false
  | .inr 11 => some false
  | .inr 12 => some true
  | .inr 13 => some false
  | .inr 14 => some false
  | .inr 15 => some false
  | .inr 16 => some false
  | .inr 17 => some false
  | .inr 18 => some false
  | _ => none
def kq_NoWord : TK → Option Bool
  | .inr 0 => some false
  | .inr 1 => some false
  | .inr 2 => some false
  | .inr 3 => some false
  | .inr 4 => some false
  | .inr 5 => some true
  | .inr 6 => some false
  | .inr 7 => some false
  | .inr 8 => some false
  | .inr 9 => some false
  | .inr 10 => some false
  | .inr 11 => some false
  | .inr 12 => some false
  | .inr 13 => some false
  | .inr 14 => some false
  | .inr 15 => some false
  | .inr 16 => some false
  | .inr 17 => some false
  | .inr 18 => some false
  | _ => none
def kq_OverflowError : TK → Option Bool
  | .inr 0 => some false
  | .inr 1 => some false
  | .inr 2 => some false
  | .inr 3 => some false
  | .inr 4 => some false
  | .inr 5 => some false
  | .inr 6 => some false
  | .inr 7 => some false
  | .inr 8 => some false
  | .inr 9 => some false
  | .inr 10 => some false
  | .inr 11 => some false
  | .inr 12 => some false
  | .inr 13 => some false
  | .inr 14 => some false
  | .inr 15 => some true
  | .inr 16 => some false
  | .inr 17 => some false
  | .inr 18 => some false
  | _ => none
def kq_ReachError : TK → Option Bool
  | .inr 0 => some true
  | .inr 1 => some true
  | .inr 2 => some true
  | .inr 3 => some true
  | .inr 4 => some true
  | .inr 5 => some true
  | .inr 6 => some true
  | .inr 7 => some true
  | .inr 8 => some true
  | .inr 9 => some true
  | .inr 10 => some true
  | .inr 11 => some true
  | .inr 12 => some true
  | .inr 13 => some true
  | .inr 14 => some true
  | .inr 15 => some false
  | .inr 16 => some false
  | .inr 17 => some false
  | .inr 18 => some false
  | _ => none
def kq_RuntimeError : TK → Option Bool
  | .inr 0 => some false
  | .inr 1 => some false
  | .inr 2 => some false
  | .inr 3 => some false
  | .inr 4 => some false
  | .inr 5 => some false
  | .inr 6 => some false
  | .inr 7 => some false
  | .inr 8 => some false
  | .inr 9 => some false
  | .inr 10 => some false
  | .inr 11 => some false
  | .inr 12 => some false
  | .inr 13 => some false
  | .inr 14 => some false
  | .inr 15 => some false
  | .inr 16 => some false
  | .inr 17 => some true
  | .inr 18 => some false
  | _ => none
def kq_Sweeping : TK → Option Bool
  | .inr 0 => some false
  | .inr 1 => some false
  | .inr 2 => some false
  | .inr 3 => some false
  | .inr 4 => some false
  | .inr 5 => some false
  | .inr 6 => some false
  | .inr 7 => some false
  | .inr 8 => some false
  | .inr 9 => some false
  | .inr 10 => some false
  | .inr 11 => some false
  | .inr 12 => some false
  | .inr 13 => some false
  | .inr 14 => some false
  | .inr 15 => some false
  | .inr 16 => some false
  | .inr 17 => some true
  | .inr 18 => some false
  | _ => none
def kq_TooMany : TK → Option Bool
  | .inr 0 => some false
  | .inr 1 => some false
  | .inr 2 => some false
  | .inr 3 => some false
  | .inr 4 => some false
  | .inr 5 => some false
  | .inr 6 => some false
  | .inr 7 => some false
  | .inr 8 => some false
  | .inr 9 => some false
  | .inr 10 => some false
  | .inr 11 => some false
  | .inr 12 => some false
  | .inr 13 => some false
  | .inr 14 => some false
  | .inr 15 => some true
  | .inr 16 => some false
  | .inr 17 => some false
  | .inr 18 => some false
  | _ => none
def kq_ValueError : TK → Option Bool
  | .inr 0 => some true
  | .inr 1 => some true
  | .inr 2 => some true
  | .inr 3 => some true
  | .inr 4 => some true
  | .inr 5 => some true
  | .inr 6 => some true
  | .inr 7 => some true
  | .inr 8 => some true
  | .inr 9 => some true
  | .inr 10 => some true
  | .inr 11 => some true
  | .inr 12 => some true
  | .inr 13 => some true
  | .inr 14 => some true
  | .inr 15 => some false
  | .inr 16 => some false
  | .inr 17 => some false
  | .inr 18 => some false
  | _ => none
def m_law_pool : RS := (sSeq (sSet 2 (rBin addD (rBin mulD (rCon (.int 7)) (rCal sumD (rCons (rSl (rVar 0) rNoP (rPart (rCon (.int 63)))) rNil))) (rVar 1)))
    (sSeq (sIf (rTest (rBin ltD (rVar 1) (rCal lenD (rCons (rVar 0) rNil))))
    (sSet 2 (rBin ixD (rVar 0) (rVar 1)))
    sNil)
    (sSeq (sSet 3 (rCal absD (rCons (rVar 2) rNil)))
    (sSeq (sSet 4 (rBin modD (rBin mulD (rBin addD (rBin addD (rBin addD (rBin modD (rVar 3) (rCon (.int 2147483629))) (rBin mulD (rBin mulD (rCon (.int 7919)) (rVar 1)) (rVar 1))) (rBin mulD (rCon (.int 31)) (rVar 1))) (rCon (.int 17))) (rCon (.int 48271))) (rCon (.int 2147483647))))
    (sRet (rLstM (rCons (rBin mulD (rVar 3) (rCal intD (rCons (rBin geD (rVar 3) (rBin powD (rCon (.int 10)) (rCon (.int 18)))) rNil))) (rCons (rBin modD (rBin mulD (rVar 4) (rVar 4)) (rCon (.int 2147483629))) rNil))))))))
def g_law_pool : List D → Store → Res D := runDef 5 m_law_pool
def m_law_take : RS := (sSeq (sIf (rTest (rBin gtD (rBin ixD (rVar 0) (rCon (.int 0))) (rCon (.int 0))))
    (sSeq (sSet 2 (rBin modD (rBin ixD (rVar 0) (rCon (.int 0))) (rVar 1)))
    (sSeq (sPutIx (rBin divD (rBin ixD (rVar 0) (rCon (.int 0))) (rVar 1)) (rVar 0) (rCon (.int 0)))
    (sRet (rVar 2))))
    sNil)
    (sSeq (sPutIx (rBin modD (rBin addD (rBin mulD (rBin ixD (rVar 0) (rCon (.int 1))) (rCon (.int 48271))) (rCon (.int 11))) (rCon (.int 2147483647))) (rVar 0) (rCon (.int 1)))
    (sRet (rBin modD (rBin divD (rBin modD (rBin mulD (rBin ixD (rVar 0) (rCon (.int 1))) (rBin ixD (rVar 0) (rCon (.int 1)))) (rCon (.int 2147483629))) (rCon (.int 16))) (rVar 1)))))
def g_law_take : List D → Store → Res D := runDef 3 m_law_take
def m_law_kinds : RS := (sSeq (sSet 1 (rLst (rCons (rUn (isiQ kq_NoFields) (rVar 0)) (rCons (rUn (isiQ kq_NoBounds) (rVar 0)) (rCons (rUn (isiQ kq_NoOffset) (rVar 0)) (rCons (rUn (isiQ kq_NoAddress) (rVar 0)) rNil))))))
    (sSeq (sSet 1 (rBin addD (rVar 1) (rLst (rCons (rUn (isiQ kq_NoWord) (rVar 0)) (rCons (rUn (isiQ kq_NoHands) (rVar 0)) (rCons (rUn (isiQ kq_NoRule) (rVar 0)) (rCons (rUn (isiQ kq_NoNumber) (rVar 0)) rNil)))))))
    (sSeq (sSet 1 (rBin addD (rVar 1) (rLst (rCons (rUn (isiQ kq_NoLine) (rVar 0)) (rCons (rUn (isiQ kq_Sweeping) (rVar 0)) (rCons (rUn (isiQ kq_NoSweep) (rVar 0)) (rCons (rUn (isiQ kq_Fault) (rVar 0)) rNil)))))))
    (sSeq (sSet 1 (rBin addD (rVar 1) (rLst (rCons (rUn (isiQ kq_NoRows) (rVar 0)) (rCons (rUn (isiQ kq_NoText) (rVar 0)) (rCons (rUn (isiQ kq_NoDeeds) (rVar 0)) (rCons (rUn (isiQ kq_NoName) (rVar 0)) rNil)))))))
    (sRet (rBin addD (rVar 1) (rLst (rCons (rUn (isiQ kq_TooMany) (rVar 0)) (rCons (rUn (isiQ kq_NoCompartment) (rVar 0)) rNil)))))))))
def g_law_kinds : List D → Store → Res D := runDef 2 m_law_kinds
def m_law_bases : RS := (sSeq (sSet 1 (rLst (rCons (rUn (isiQ kq_ReachError) (rVar 0)) (rCons (rUn (isiQ kq_ValueError) (rVar 0)) (rCons (rUn (isiQ kq_OverflowError) (rVar 0)) rNil)))))
    (sSeq (sSet 1 (rBin addD (rVar 1) (rLst (rCons (rUn (isiQ kq_KeyError) (rVar 0)) (rCons (rUn (isiQ kq_LookupError) (rVar 0)) (rCons (rUn (isiQ kq_RuntimeError) (rVar 0)) rNil))))))
    (sRet (rBin addD (rVar 1) (rLst (rCons (rUn (isiQ kq_IndexError) (rVar 0)) rNil))))))
def g_law_bases : List D → Store → Res D := runDef 2 m_law_bases
def m_law_made : RS := (sSeq (sSet 3 (rLst (rCons (rMkE0 cl_NoFields (rCon (.str "a"))) (rCons (rMkE0 cl_NoBounds (rCon (.str "a"))) (rCons (rMkE0 cl_NoOffset (rCon (.str "a"))) (rCons (rMkE0 cl_NoAddress (rCon (.str "a"))) (rCons (rMkE0 cl_NoWord (rCon (.str "a"))) (rCons (rMkE0 cl_NoHands (rCon (.str "a"))) (rCons (rMkE0 cl_NoRule (rCon (.str "a"))) rNil)))))))))
    (sSeq (sSet 3 (rBin addD (rVar 3) (rLst (rCons (rMkE0 cl_NoNumber (rCon (.str "a"))) (rCons (rMkE0 cl_NoLine (rCon (.str "a"))) (rCons (rMkE0 cl_Sweeping (rCon (.str "a"))) (rCons (rMkE0 cl_NoSweep (rCon (.str "a"))) (rCons (rMkE cl_Fault ["word"] (rCons (rVar 1) rNil)) (rCons (rMkE cl_NoRows ["number"] (rCons (rVar 1) rNil)) (rCons (rMkE cl_NoText ["number"] (rCons (rVar 1) rNil)) rNil))))))))))
    (sRet (rBin ixD (rBin addD (rVar 3) (rLst (rCons (rMkE cl_NoDeeds ["number"] (rCons (rVar 1) rNil)) (rCons (rMkE cl_NoName ["name"] (rCons (rVar 1) rNil)) (rCons (rMkE cl_TooMany ["size"] (rCons (rVar 1) rNil)) (rCons (rMkE cl_NoCompartment ["number", "part"] (rCons (rVar 1) (rCons (rVar 2) rNil))) rNil)))))) (rVar 0)))))
def g_law_made : List D → Store → Res D := runDef 4 m_law_made
def m_law_values : RS := (sSeq (sIf (rTest (rBin ltD (rVar 0) (rCon (.int 11))))
    (sRet (rLst rNil))
    sNil)
    (sSeq (sIf (rTest (rBin eqD (rVar 0) (rCon (.int 11))))
    (sRet (rLst (rCons (rUn (fldD fk_word "word") (rVar 1)) rNil)))
    sNil)
    (sSeq (sIf (rTest (rBin ltD (rVar 0) (rCon (.int 15))))
    (sRet (rLst (rCons (rUn (fldD fk_number "number") (rVar 1)) rNil)))
    sNil)
    (sSeq (sIf (rTest (rBin eqD (rVar 0) (rCon (.int 15))))
    (sRet (rLst (rCons (rUn (fldD fk_name "name") (rVar 1)) rNil)))
    sNil)
    (sRet (rIf (rTest (rBin eqD (rVar 0) (rCon (.int 16)))) (rLst (rCons (rUn (fldD fk_size "size") (rVar 1)) rNil)) (rLst (rCons (rUn (fldD fk_number "number") (rVar 1)) (rCons (rUn (fldD fk_part "part") (rVar 1)) rNil)))))))))
def g_law_values : List D → Store → Res D := runDef 2 m_law_values
def m_law_due_bases : RS := (sSeq (sIf (rTest (rBin eqD (rVar 0) (rCon (.int 9))))
    (sRet (rLst (rCons (rCon (.bl false)) (rCons (rCon (.bl false)) (rCons (rCon (.bl false)) (rCons (rCon (.bl false)) (rCons (rCon (.bl false)) (rCons (rCon (.bl true)) (rCons (rCon (.bl false)) rNil)))))))))
    sNil)
    (sSeq (sIf (rTest (rBin eqD (rVar 0) (rCon (.int 10))))
    (sRet (rLst (rCons (rCon (.bl false)) (rCons (rCon (.bl false)) (rCons (rCon (.bl false)) (rCons (rCon (.bl false)) (rCons (rCon (.bl true)) (rCons (rCon (.bl false)) (rCons (rCon (.bl false)) rNil)))))))))
    sNil)
    (sSeq (sIf (rTest (rBin eqD (rVar 0) (rCon (.int 15))))
    (sRet (rLst (rCons (rCon (.bl false)) (rCons (rCon (.bl false)) (rCons (rCon (.bl false)) (rCons (rCon (.bl true)) (rCons (rCon (.bl true)) (rCons (rCon (.bl false)) (rCons (rCon (.bl false)) rNil)))))))))
    sNil)
    (sSeq (sIf (rTest (rBin eqD (rVar 0) (rCon (.int 16))))
    (sRet (rLst (rCons (rCon (.bl false)) (rCons (rCon (.bl false)) (rCons (rCon (.bl true)) (rCons (rCon (.bl false)) (rCons (rCon (.bl false)) (rCons (rCon (.bl false)) (rCons (rCon (.bl false)) rNil)))))))))
    sNil)
    (sRet (rLst (rCons (rCon (.bl true)) (rCons (rCon (.bl true)) (rCons (rCon (.bl false)) (rCons (rCon (.bl false)) (rCons (rCon (.bl false)) (rCons (rCon (.bl false)) (rCons (rCon (.bl false)) rNil)))))))))))))
def g_law_due_bases : List D → Store → Res D := runDef 1 m_law_due_bases
def lb1_law : RS := (sSeq (sPar [7, 8] (rCons (rCall g_law_made (rCons (rVar 6) (rCons (rVar 4) (rCons (rVar 5) rNil)))) (rCons (rCall g_law_made (rCons (rVar 6) (rCons (rVar 5) (rCons (rVar 4) rNil)))) rNil)))
    (sSeq (sSet 9 (rLc frzL (rRan enumD (rCons (rCall g_law_kinds (rCons (rVar 7) rNil)) rNil)) (.tp [10, 11]) [10, 11] (rTruth (rVar 11)) (rVar 10)))
    (sSeq (sIf (rOrT (rTest (rBin neD (rVar 9) (rLst (rCons (rVar 6) rNil)))) (rOrT (rTest (rBin neD (rCall g_law_kinds (rCons (rVar 8) rNil)) (rCall g_law_kinds (rCons (rVar 7) rNil)))) (rTest (rBin neD (rCall g_law_bases (rCons (rVar 7) rNil)) (rCall g_law_due_bases (rCons (rVar 6) rNil))))))
    (sRet (rCon (.bl false)))
    sNil)
    (sSeq (sSet 12 (rCall g_law_values (rCons (rVar 6) (rCons (rVar 7) rNil))))
    (sSeq (sIf (rTest (rBin neD (rCal reprE (rCons (rVar 12) rNil)) (rCal reprE (rCons (rSl (rLst (rCons (rVar 4) (rCons (rVar 5) rNil))) rNoP (rPart (rCal lenD (rCons (rVar 12) rNil)))) rNil))))
    (sRet (rCon (.bl false)))
    sNil)
    (sIf (rTest (rBin neD (rCal reprE (rCons (rCall g_law_values (rCons (rVar 6) (rCons (rVar 8) rNil))) rNil)) (rCal reprE (rCons (rSl (rLst (rCons (rVar 5) (rCons (rVar 4) rNil))) rNoP (rPart (rCal lenD (rCons (rVar 12) rNil)))) rNil))))
    (sRet (rCon (.bl false)))
    sNil))))))
def lb2_law : RS := (sSeq (sSet 2 (rCall g_law_pool (rCons (rVar 0) (rCons (rVar 1) rNil))))
    (sSeq (sSet 3 (rLst (rCons (rCon .non) (rCons (rCon (.int 7)) (rCons (rCon (.str "calls")) (rCons (rCon (.bl true)) (rCons (rLst (rCons (rCon (.int 1)) rNil)) (rCons (rTup (rCons (rCon (.int 2)) (rCons (rCon (.str "x")) rNil))) (rCons rDct0 (rCons (rCon (.int 0)) (rCons (rUn negD (rCon (.int 1))) (rCons (rCon (.str "")) (rCons (rBin powD (rCon (.int 10)) (rCon (.int 29))) rNil)))))))))))))
    (sSeq (sPar [4, 5] (rCons (rBin ixD (rVar 3) (rCall g_law_take (rCons (rVar 2) (rCons (rCon (.int 11)) rNil)))) (rCons (rBin ixD (rVar 3) (rCall g_law_take (rCons (rVar 2) (rCons (rCon (.int 11)) rNil)))) rNil)))
    (sFor (rRan ran1 (rCons (rCon (.int 18)) rNil)) (.nm 6)
    lb1_law))))
def m_law : RS := (sSeq (sFor (rRan ran1 (rCons (rCal maxD2 (rCons (rCon (.int 1)) (rCons (rCal minD2 (rCons (rCal lenD (rCons (rVar 0) rNil)) (rCons (rCon (.int 10)) rNil))) rNil))) rNil)) (.nm 1)
    lb2_law)
    (sRet (rCon (.bl true))))
def g_law : List D → Store → Res D := runDef 13 m_law
structure Txt (w : World) (K : PySem.W.Frag) (mg : Str → Option Value) (C A : Nat → Addr) (fd : Nat → FuncData) : Prop where
  f_law_pool : Fun K "_law_pool" "_law_pool" s_law_pool (A 0) (fd 0)
  b_law_pool : Binds K (fd 0) ["_law_script", "_law_k"] []
  g_law_pool : mg "_law_pool" = some (.ref (A 0))
  f_law_take : Fun K "_law_take" "_law_take" s_law_take (A 1) (fd 1)
  b_law_take : Binds K (fd 1) ["_law_pool_here", "_law_many"] []
  g_law_take : mg "_law_take" = some (.ref (A 1))
  f_law_kinds : Fun K "_law_kinds" "_law_kinds" s_law_kinds (A 2) (fd 2)
  b_law_kinds : Binds K (fd 2) ["_law_e"] []
  g_law_kinds : mg "_law_kinds" = some (.ref (A 2))
  f_law_bases : Fun K "_law_bases" "_law_bases" s_law_bases (A 3) (fd 3)
  b_law_bases : Binds K (fd 3) ["_law_e"] []
  g_law_bases : mg "_law_bases" = some (.ref (A 3))
  f_law_made : Fun K "_law_made" "_law_made" s_law_made (A 4) (fd 4)
  b_law_made : Binds K (fd 4) ["_law_which", "_law_one", "_law_other"] []
  g_law_made : mg "_law_made" = some (.ref (A 4))
  f_law_values : Fun K "_law_values" "_law_values" s_law_values (A 5) (fd 5)
  b_law_values : Binds K (fd 5) ["_law_which", "_law_e"] []
  g_law_values : mg "_law_values" = some (.ref (A 5))
  f_law_due_bases : Fun K "_law_due_bases" "_law_due_bases" s_law_due_bases (A 6) (fd 6)
  b_law_due_bases : Binds K (fd 6) ["_law_which"] []
  g_law_due_bases : mg "_law_due_bases" = some (.ref (A 6))
  f_law : Fun K "law" "law" s_law (A 7) (fd 7)
  b_law : Binds K (fd 7) ["_law_script"] []
  g_law : mg "law" = some (.ref (A 7))
  z_IndexError : mg "IndexError" = none
  z_KeyError : mg "KeyError" = none
  z_LookupError : mg "LookupError" = none
  z_OverflowError : mg "OverflowError" = none
  z_RuntimeError : mg "RuntimeError" = none
  z_ValueError : mg "ValueError" = none
  z_abs : mg "abs" = none
  z_enumerate : mg "enumerate" = none
  z_int : mg "int" = none
  z_isinstance : mg "isinstance" = none
  z_len : mg "len" = none
  z_max : mg "max" = none
  z_min : mg "min" = none
  z_range : mg "range" = none
  z_repr : mg "repr" = none
  z_sum : mg "sum" = none
  k_ReachError : mg "ReachError" = some (.ref (C 0))
  E_ReachError : ExcC K (C 0)
  k_NoFields : mg "NoFields" = some (.ref (C 1))
  E_NoFields : ExcC K (C 1)
  k_NoBounds : mg "NoBounds" = some (.ref (C 2))
  E_NoBounds : ExcC K (C 2)
  k_NoOffset : mg "NoOffset" = some (.ref (C 3))
  E_NoOffset : ExcC K (C 3)
  k_NoAddress : mg "NoAddress" = some (.ref (C 4))
  E_NoAddress : ExcC K (C 4)
  k_NoWord : mg "NoWord" = some (.ref (C 5))
  E_NoWord : ExcC K (C 5)
  k_NoHands : mg "NoHands" = some (.ref (C 6))
  E_NoHands : ExcC K (C 6)
  k_NoRule : mg "NoRule" = some (.ref (C 7))
  E_NoRule : ExcC K (C 7)
  k_NoNumber : mg "NoNumber" = some (.ref (C 8))
  E_NoNumber : ExcC K (C 8)
  k_NoLine : mg "NoLine" = some (.ref (C 9))
  E_NoLine : ExcC K (C 9)
  k_Fault : mg "Fault" = some (.ref (C 10))
  E_Fault : ExcC K (C 10)
  k_NoRows : mg "NoRows" = some (.ref (C 11))
  E_NoRows : ExcC K (C 11)
  k_NoText : mg "NoText" = some (.ref (C 12))
  E_NoText : ExcC K (C 12)
  k_NoDeeds : mg "NoDeeds" = some (.ref (C 13))
  E_NoDeeds : ExcC K (C 13)
  k_NoCompartment : mg "NoCompartment" = some (.ref (C 14))
  E_NoCompartment : ExcC K (C 14)
  k_TooMany : mg "TooMany" = some (.ref (C 15))
  E_TooMany : ExcC K (C 15)
  k_NoName : mg "NoName" = some (.ref (C 16))
  E_NoName : ExcC K (C 16)
  k_Sweeping : mg "Sweeping" = some (.ref (C 17))
  E_Sweeping : ExcC K (C 17)
  k_NoSweep : mg "NoSweep" = some (.ref (C 18))
  E_NoSweep : ExcC K (C 18)
  vB_KeyError : PySem.W.findCls K (.type "KeyError") (.type "type") "__init__" = some (.val (.builtin "KeyError.__init__"))
  vB_OverflowError : PySem.W.findCls K (.type "OverflowError") (.type "type") "__init__" = some (.val (.builtin "OverflowError.__init__"))
  bB_ReachError : BasB K (C 0) "ValueError.__init__"
  fj_Fault : Fun K "__init__" "Fault.__init__" si_Fault (A 910) (fd 910)
  bj_Fault : Binds K (fd 910) ["self", "word"] []
  tb_Fault : FldB K (C 10) (A 910) "ValueError.__init__" ["word"]
  fj_NoRows : Fun K "__init__" "NoRows.__init__" si_NoRows (A 911) (fd 911)
  bj_NoRows : Binds K (fd 911) ["self", "number"] []
  tb_NoRows : FldB K (C 11) (A 911) "ValueError.__init__" ["number"]
  fj_NoText : Fun K "__init__" "NoText.__init__" si_NoText (A 912) (fd 912)
  bj_NoText : Binds K (fd 912) ["self", "number"] []
  tb_NoText : FldB K (C 12) (A 912) "ValueError.__init__" ["number"]
  fj_NoDeeds : Fun K "__init__" "NoDeeds.__init__" si_NoDeeds (A 913) (fd 913)
  bj_NoDeeds : Binds K (fd 913) ["self", "number"] []
  tb_NoDeeds : FldB K (C 13) (A 913) "ValueError.__init__" ["number"]
  fj_NoCompartment : Fun K "__init__" "NoCompartment.__init__" si_NoCompartment (A 914) (fd 914)
  bj_NoCompartment : Binds K (fd 914) ["self", "number", "part"] []
  tb_NoCompartment : FldB K (C 14) (A 914) "ValueError.__init__" ["number", "part"]
  fj_TooMany : Fun K "__init__" "TooMany.__init__" si_TooMany (A 915) (fd 915)
  bj_TooMany : Binds K (fd 915) ["self", "size"] []
  tb_TooMany : FldB K (C 15) (A 915) "OverflowError.__init__" ["size"]
  fj_NoName : Fun K "__init__" "NoName.__init__" si_NoName (A 916) (fd 916)
  bj_NoName : Binds K (fd 916) ["self", "name"] []
  tb_NoName : FldB K (C 16) (A 916) "KeyError.__init__" ["name"]
  X_NoName_name : XfC K (C 16) ∧ PySem.W.findIn K (.ref (C 16)) "name" = some none
  X_NoRows_number : XfC K (C 11) ∧ PySem.W.findIn K (.ref (C 11)) "number" = some none
  X_NoText_number : XfC K (C 12) ∧ PySem.W.findIn K (.ref (C 12)) "number" = some none
  X_NoDeeds_number : XfC K (C 13) ∧ PySem.W.findIn K (.ref (C 13)) "number" = some none
  X_NoCompartment_number : XfC K (C 14) ∧ PySem.W.findIn K (.ref (C 14)) "number" = some none
  X_NoCompartment_part : XfC K (C 14) ∧ PySem.W.findIn K (.ref (C 14)) "part" = some none
  X_TooMany_size : XfC K (C 15) ∧ PySem.W.findIn K (.ref (C 15)) "size" = some none
  X_Fault_word : XfC K (C 10) ∧ PySem.W.findIn K (.ref (C 10)) "word" = some none
  x_NoAddress : PySem.W.excIn K (C 4) [.type "ValueError", .type "Exception", .type "BaseException", .type "object"] "ValueError.__new__" = true
  p_NoAddress : PySem.W.keepIn K (.ref (C 4)) = true
  u_NoAddress : PySem.W.subIn K (.ref (C 4)) (.type "BaseException") = some true
  y_NoAddress : PySem.W.typeIn K (.ref (C 4)) = some (.type "type")
  x_NoBounds : PySem.W.excIn K (C 2) [.type "ValueError", .type "Exception", .type "BaseException", .type "object"] "ValueError.__new__" = true
  p_NoBounds : PySem.W.keepIn K (.ref (C 2)) = true
  u_NoBounds : PySem.W.subIn K (.ref (C 2)) (.type "BaseException") = some true
  y_NoBounds : PySem.W.typeIn K (.ref (C 2)) = some (.type "type")
  x_NoFields : PySem.W.excIn K (C 1) [.type "ValueError", .type "Exception", .type "BaseException", .type "object"] "ValueError.__new__" = true
  p_NoFields : PySem.W.keepIn K (.ref (C 1)) = true
  u_NoFields : PySem.W.subIn K (.ref (C 1)) (.type "BaseException") = some true
  y_NoFields : PySem.W.typeIn K (.ref (C 1)) = some (.type "type")
  x_NoHands : PySem.W.excIn K (C 6) [.type "ValueError", .type "Exception", .type "BaseException", .type "object"] "ValueError.__new__" = true
  p_NoHands : PySem.W.keepIn K (.ref (C 6)) = true
  u_NoHands : PySem.W.subIn K (.ref (C 6)) (.type "BaseException") = some true
  y_NoHands : PySem.W.typeIn K (.ref (C 6)) = some (.type "type")
  x_NoLine : PySem.W.excIn K (C 9) [.type "ValueError", .type "Exception", .type "BaseException", .type "object"] "ValueError.__new__" = true
  p_NoLine : PySem.W.keepIn K (.ref (C 9)) = true
  u_NoLine : PySem.W.subIn K (.ref (C 9)) (.type "BaseException") = some true
  y_NoLine : PySem.W.typeIn K (.ref (C 9)) = some (.type "type")
  x_NoNumber : PySem.W.excIn K (C 8) [.type "ValueError", .type "Exception", .type "BaseException", .type "object"] "ValueError.__new__" = true
  p_NoNumber : PySem.W.keepIn K (.ref (C 8)) = true
  u_NoNumber : PySem.W.subIn K (.ref (C 8)) (.type "BaseException") = some true
  y_NoNumber : PySem.W.typeIn K (.ref (C 8)) = some (.type "type")
  x_NoOffset : PySem.W.excIn K (C 3) [.type "ValueError", .type "Exception", .type "BaseException", .type "object"] "ValueError.__new__" = true
  p_NoOffset : PySem.W.keepIn K (.ref (C 3)) = true
  u_NoOffset : PySem.W.subIn K (.ref (C 3)) (.type "BaseException") = some true
  y_NoOffset : PySem.W.typeIn K (.ref (C 3)) = some (.type "type")
  x_NoRule : PySem.W.excIn K (C 7) [.type "ValueError", .type "Exception", .type "BaseException", .type "object"] "ValueError.__new__" = true
  p_NoRule : PySem.W.keepIn K (.ref (C 7)) = true
  u_NoRule : PySem.W.subIn K (.ref (C 7)) (.type "BaseException") = some true
  y_NoRule : PySem.W.typeIn K (.ref (C 7)) = some (.type "type")
  x_NoSweep : PySem.W.excIn K (C 18) [.type "LookupError", .type "Exception", .type "BaseException", .type "object"] "LookupError.__new__" = true
  p_NoSweep : PySem.W.keepIn K (.ref (C 18)) = true
  u_NoSweep : PySem.W.subIn K (.ref (C 18)) (.type "BaseException") = some true
  y_NoSweep : PySem.W.typeIn K (.ref (C 18)) = some (.type "type")
  x_NoWord : PySem.W.excIn K (C 5) [.type "ValueError", .type "Exception", .type "BaseException", .type "object"] "ValueError.__new__" = true
  p_NoWord : PySem.W.keepIn K (.ref (C 5)) = true
  u_NoWord : PySem.W.subIn K (.ref (C 5)) (.type "BaseException") = some true
  y_NoWord : PySem.W.typeIn K (.ref (C 5)) = some (.type "type")
  x_Sweeping : PySem.W.excIn K (C 17) [.type "RuntimeError", .type "Exception", .type "BaseException", .type "object"] "RuntimeError.__new__" = true
  p_Sweeping : PySem.W.keepIn K (.ref (C 17)) = true
  u_Sweeping : PySem.W.subIn K (.ref (C 17)) (.type "BaseException") = some true
  y_Sweeping : PySem.W.typeIn K (.ref (C 17)) = some (.type "type")
  q_Fault_Fault : PySem.W.kitOne K (.ref (C 10)) (.ref (C 10)) = some true
  q_Fault_IndexError : PySem.W.kitOne K (.ref (C 10)) (.type "IndexError") = some false
  q_Fault_KeyError : PySem.W.kitOne K (.ref (C 10)) (.type "KeyError") = some false
  q_Fault_LookupError : PySem.W.kitOne K (.ref (C 10)) (.type "LookupError") = some false
  q_Fault_NoAddress : PySem.W.kitOne K (.ref (C 10)) (.ref (C 4)) = some false
  q_Fault_NoBounds : PySem.W.kitOne K (.ref (C 10)) (.ref (C 2)) = some false
  q_Fault_NoCompartment : PySem.W.kitOne K (.ref (C 10)) (.ref (C 14)) = some false
  q_Fault_NoDeeds : PySem.W.kitOne K (.ref (C 10)) (.ref (C 13)) = some false
  q_Fault_NoFields : PySem.W.kitOne K (.ref (C 10)) (.ref (C 1)) = some false
  q_Fault_NoHands : PySem.W.kitOne K (.ref (C 10)) (.ref (C 6)) = some false
  q_Fault_NoLine : PySem.W.kitOne K (.ref (C 10)) (.ref (C 9)) = some false
  q_Fault_NoName : PySem.W.kitOne K (.ref (C 10)) (.ref (C 16)) = some false
  q_Fault_NoNumber : PySem.W.kitOne K (.ref (C 10)) (.ref (C 8)) = some false
  q_Fault_NoOffset : PySem.W.kitOne K (.ref (C 10)) (.ref (C 3)) = some false
  q_Fault_NoRows : PySem.W.kitOne K (.ref (C 10)) (.ref (C 11)) = some false
  q_Fault_NoRule : PySem.W.kitOne K (.ref (C 10)) (.ref (C 7)) = some false
  q_Fault_NoSweep : PySem.W.kitOne K (.ref (C 10)) (.ref (C 18)) = some false
  q_Fault_NoText : PySem.W.kitOne K (.ref (C 10)) (.ref (C 12)) = some false
  q_Fault_NoWord : PySem.W.kitOne K (.ref (C 10)) (.ref (C 5)) = some false
  q_Fault_OverflowError : PySem.W.kitOne K (.ref (C 10)) (.type "OverflowError") = some false
  q_Fault_ReachError : PySem.W.kitOne K (.ref (C 10)) (.ref (C 0)) = some true
  q_Fault_RuntimeError : PySem.W.kitOne K (.ref (C 10)) (.type "RuntimeError") = some false
  q_Fault_Sweeping : PySem.W.kitOne K (.ref (C 10)) (.ref (C 17)) = some false
  q_Fault_TooMany : PySem.W.kitOne K (.ref (C 10)) (.ref (C 15)) = some false
  q_Fault_ValueError : PySem.W.kitOne K (.ref (C 10)) (.type "ValueError") = some true
  q_NoAddress_Fault : PySem.W.kitOne K (.ref (C 4)) (.ref (C 10)) = some false
  q_NoAddress_IndexError : PySem.W.kitOne K (.ref (C 4)) (.type "IndexError") = some false
  q_NoAddress_KeyError : PySem.W.kitOne K (.ref (C 4)) (.type "KeyError") = some false
  q_NoAddress_LookupError : PySem.W.kitOne K (.ref (C 4)) (.type "LookupError") = some false
  q_NoAddress_NoAddress : PySem.W.kitOne K (.ref (C 4)) (.ref (C 4)) = some true
  q_NoAddress_NoBounds : PySem.W.kitOne K (.ref (C 4)) (.ref (C 2)) = some false
  q_NoAddress_NoCompartment : PySem.W.kitOne K (.ref (C 4)) (.ref (C 14)) = some false
  q_NoAddress_NoDeeds : PySem.W.kitOne K (.ref (C 4)) (.ref (C 13)) = some false
  q_NoAddress_NoFields : PySem.W.kitOne K (.ref (C 4)) (.ref (C 1)) = some false
  q_NoAddress_NoHands : PySem.W.kitOne K (.ref (C 4)) (.ref (C 6)) = some false
  q_NoAddress_NoLine : PySem.W.kitOne K (.ref (C 4)) (.ref (C 9)) = some false
  q_NoAddress_NoName : PySem.W.kitOne K (.ref (C 4)) (.ref (C 16)) = some false
  q_NoAddress_NoNumber : PySem.W.kitOne K (.ref (C 4)) (.ref (C 8)) = some false
  q_NoAddress_NoOffset : PySem.W.kitOne K (.ref (C 4)) (.ref (C 3)) = some false
  q_NoAddress_NoRows : PySem.W.kitOne K (.ref (C 4)) (.ref (C 11)) = some false
  q_NoAddress_NoRule : PySem.W.kitOne K (.ref (C 4)) (.ref (C 7)) = some false
  q_NoAddress_NoSweep : PySem.W.kitOne K (.ref (C 4)) (.ref (C 18)) = some false
  q_NoAddress_NoText : PySem.W.kitOne K (.ref (C 4)) (.ref (C 12)) = some false
  q_NoAddress_NoWord : PySem.W.kitOne K (.ref (C 4)) (.ref (C 5)) = some false
  q_NoAddress_OverflowError : PySem.W.kitOne K (.ref (C 4)) (.type "OverflowError") = some false
  q_NoAddress_ReachError : PySem.W.kitOne K (.ref (C 4)) (.ref (C 0)) = some true
  q_NoAddress_RuntimeError : PySem.W.kitOne K (.ref (C 4)) (.type "RuntimeError") = some false
  q_NoAddress_Sweeping : PySem.W.kitOne K (.ref (C 4)) (.ref (C 17)) = some false
  q_NoAddress_TooMany : PySem.W.kitOne K (.ref (C 4)) (.ref (C 15)) = some false
  q_NoAddress_ValueError : PySem.W.kitOne K (.ref (C 4)) (.type "ValueError") = some true
  q_NoBounds_Fault : PySem.W.kitOne K (.ref (C 2)) (.ref (C 10)) = some false
  q_NoBounds_IndexError : PySem.W.kitOne K (.ref (C 2)) (.type "IndexError") = some false
  q_NoBounds_KeyError : PySem.W.kitOne K (.ref (C 2)) (.type "KeyError") = some false
  q_NoBounds_LookupError : PySem.W.kitOne K (.ref (C 2)) (.type "LookupError") = some false
  q_NoBounds_NoAddress : PySem.W.kitOne K (.ref (C 2)) (.ref (C 4)) = some false
  q_NoBounds_NoBounds : PySem.W.kitOne K (.ref (C 2)) (.ref (C 2)) = some true
  q_NoBounds_NoCompartment : PySem.W.kitOne K (.ref (C 2)) (.ref (C 14)) = some false
  q_NoBounds_NoDeeds : PySem.W.kitOne K (.ref (C 2)) (.ref (C 13)) = some false
  q_NoBounds_NoFields : PySem.W.kitOne K (.ref (C 2)) (.ref (C 1)) = some false
  q_NoBounds_NoHands : PySem.W.kitOne K (.ref (C 2)) (.ref (C 6)) = some false
  q_NoBounds_NoLine : PySem.W.kitOne K (.ref (C 2)) (.ref (C 9)) = some false
  q_NoBounds_NoName : PySem.W.kitOne K (.ref (C 2)) (.ref (C 16)) = some false
  q_NoBounds_NoNumber : PySem.W.kitOne K (.ref (C 2)) (.ref (C 8)) = some false
  q_NoBounds_NoOffset : PySem.W.kitOne K (.ref (C 2)) (.ref (C 3)) = some false
  q_NoBounds_NoRows : PySem.W.kitOne K (.ref (C 2)) (.ref (C 11)) = some false
  q_NoBounds_NoRule : PySem.W.kitOne K (.ref (C 2)) (.ref (C 7)) = some false
  q_NoBounds_NoSweep : PySem.W.kitOne K (.ref (C 2)) (.ref (C 18)) = some false
  q_NoBounds_NoText : PySem.W.kitOne K (.ref (C 2)) (.ref (C 12)) = some false
  q_NoBounds_NoWord : PySem.W.kitOne K (.ref (C 2)) (.ref (C 5)) = some false
  q_NoBounds_OverflowError : PySem.W.kitOne K (.ref (C 2)) (.type "OverflowError") = some false
  q_NoBounds_ReachError : PySem.W.kitOne K (.ref (C 2)) (.ref (C 0)) = some true
  q_NoBounds_RuntimeError : PySem.W.kitOne K (.ref (C 2)) (.type "RuntimeError") = some false
  q_NoBounds_Sweeping : PySem.W.kitOne K (.ref (C 2)) (.ref (C 17)) = some false
  q_NoBounds_TooMany : PySem.W.kitOne K (.ref (C 2)) (.ref (C 15)) = some false
  q_NoBounds_ValueError : PySem.W.kitOne K (.ref (C 2)) (.type "ValueError") = some true
  q_NoCompartment_Fault : PySem.W.kitOne K (.ref (C 14)) (.ref (C 10)) = some false
  q_NoCompartment_IndexError : PySem.W.kitOne K (.ref (C 14)) (.type "IndexError") = some false
  q_NoCompartment_KeyError : PySem.W.kitOne K (.ref (C 14)) (.type "KeyError") = some false
  q_NoCompartment_LookupError : PySem.W.kitOne K (.ref (C 14)) (.type "LookupError") = some false
  q_NoCompartment_NoAddress : PySem.W.kitOne K (.ref (C 14)) (.ref (C 4)) = some false
  q_NoCompartment_NoBounds : PySem.W.kitOne K (.ref (C 14)) (.ref (C 2)) = some false
  q_NoCompartment_NoCompartment : PySem.W.kitOne K (.ref (C 14)) (.ref (C 14)) = some true
  q_NoCompartment_NoDeeds : PySem.W.kitOne K (.ref (C 14)) (.ref (C 13)) = some false
  q_NoCompartment_NoFields : PySem.W.kitOne K (.ref (C 14)) (.ref (C 1)) = some false
  q_NoCompartment_NoHands : PySem.W.kitOne K (.ref (C 14)) (.ref (C 6)) = some false
  q_NoCompartment_NoLine : PySem.W.kitOne K (.ref (C 14)) (.ref (C 9)) = some false
  q_NoCompartment_NoName : PySem.W.kitOne K (.ref (C 14)) (.ref (C 16)) = some false
  q_NoCompartment_NoNumber : PySem.W.kitOne K (.ref (C 14)) (.ref (C 8)) = some false
  q_NoCompartment_NoOffset : PySem.W.kitOne K (.ref (C 14)) (.ref (C 3)) = some false
  q_NoCompartment_NoRows : PySem.W.kitOne K (.ref (C 14)) (.ref (C 11)) = some false
  q_NoCompartment_NoRule : PySem.W.kitOne K (.ref (C 14)) (.ref (C 7)) = some false
  q_NoCompartment_NoSweep : PySem.W.kitOne K (.ref (C 14)) (.ref (C 18)) = some false
  q_NoCompartment_NoText : PySem.W.kitOne K (.ref (C 14)) (.ref (C 12)) = some false
  q_NoCompartment_NoWord : PySem.W.kitOne K (.ref (C 14)) (.ref (C 5)) = some false
  q_NoCompartment_OverflowError : PySem.W.kitOne K (.ref (C 14)) (.type "OverflowError") = some false
  q_NoCompartment_ReachError : PySem.W.kitOne K (.ref (C 14)) (.ref (C 0)) = some true
  q_NoCompartment_RuntimeError : PySem.W.kitOne K (.ref (C 14)) (.type "RuntimeError") = some false
  q_NoCompartment_Sweeping : PySem.W.kitOne K (.ref (C 14)) (.ref (C 17)) = some false
  q_NoCompartment_TooMany : PySem.W.kitOne K (.ref (C 14)) (.ref (C 15)) = some false
  q_NoCompartment_ValueError : PySem.W.kitOne K (.ref (C 14)) (.type "ValueError") = some true
  q_NoDeeds_Fault : PySem.W.kitOne K (.ref (C 13)) (.ref (C 10)) = some false
  q_NoDeeds_IndexError : PySem.W.kitOne K (.ref (C 13)) (.type "IndexError") = some false
  q_NoDeeds_KeyError : PySem.W.kitOne K (.ref (C 13)) (.type "KeyError") = some false
  q_NoDeeds_LookupError : PySem.W.kitOne K (.ref (C 13)) (.type "LookupError") = some false
  q_NoDeeds_NoAddress : PySem.W.kitOne K (.ref (C 13)) (.ref (C 4)) = some false
  q_NoDeeds_NoBounds : PySem.W.kitOne K (.ref (C 13)) (.ref (C 2)) = some false
  q_NoDeeds_NoCompartment : PySem.W.kitOne K (.ref (C 13)) (.ref (C 14)) = some false
  q_NoDeeds_NoDeeds : PySem.W.kitOne K (.ref (C 13)) (.ref (C 13)) = some true
  q_NoDeeds_NoFields : PySem.W.kitOne K (.ref (C 13)) (.ref (C 1)) = some false
  q_NoDeeds_NoHands : PySem.W.kitOne K (.ref (C 13)) (.ref (C 6)) = some false
  q_NoDeeds_NoLine : PySem.W.kitOne K (.ref (C 13)) (.ref (C 9)) = some false
  q_NoDeeds_NoName : PySem.W.kitOne K (.ref (C 13)) (.ref (C 16)) = some false
  q_NoDeeds_NoNumber : PySem.W.kitOne K (.ref (C 13)) (.ref (C 8)) = some false
  q_NoDeeds_NoOffset : PySem.W.kitOne K (.ref (C 13)) (.ref (C 3)) = some false
  q_NoDeeds_NoRows : PySem.W.kitOne K (.ref (C 13)) (.ref (C 11)) = some false
  q_NoDeeds_NoRule : PySem.W.kitOne K (.ref (C 13)) (.ref (C 7)) = some false
  q_NoDeeds_NoSweep : PySem.W.kitOne K (.ref (C 13)) (.ref (C 18)) = some false
  q_NoDeeds_NoText : PySem.W.kitOne K (.ref (C 13)) (.ref (C 12)) = some false
  q_NoDeeds_NoWord : PySem.W.kitOne K (.ref (C 13)) (.ref (C 5)) = some false
  q_NoDeeds_OverflowError : PySem.W.kitOne K (.ref (C 13)) (.type "OverflowError") = some false
  q_NoDeeds_ReachError : PySem.W.kitOne K (.ref (C 13)) (.ref (C 0)) = some true
  q_NoDeeds_RuntimeError : PySem.W.kitOne K (.ref (C 13)) (.type "RuntimeError") = some false
  q_NoDeeds_Sweeping : PySem.W.kitOne K (.ref (C 13)) (.ref (C 17)) = some false
  q_NoDeeds_TooMany : PySem.W.kitOne K (.ref (C 13)) (.ref (C 15)) = some false
  q_NoDeeds_ValueError : PySem.W.kitOne K (.ref (C 13)) (.type "ValueError") = some true
  q_NoFields_Fault : PySem.W.kitOne K (.ref (C 1)) (.ref (C 10)) = some false
  q_NoFields_IndexError : PySem.W.kitOne K (.ref (C 1)) (.type "IndexError") = some false
  q_NoFields_KeyError : PySem.W.kitOne K (.ref (C 1)) (.type "KeyError") = some false
  q_NoFields_LookupError : PySem.W.kitOne K (.ref (C 1)) (.type "LookupError") = some false
  q_NoFields_NoAddress : PySem.W.kitOne K (.ref (C 1)) (.ref (C 4)) = some false
  q_NoFields_NoBounds : PySem.W.kitOne K (.ref (C 1)) (.ref (C 2)) = some false
  q_NoFields_NoCompartment : PySem.W.kitOne K (.ref (C 1)) (.ref (C 14)) = some false
  q_NoFields_NoDeeds : PySem.W.kitOne K (.ref (C 1)) (.ref (C 13)) = some false
  q_NoFields_NoFields : PySem.W.kitOne K (.ref (C 1)) (.ref (C 1)) = some true
  q_NoFields_NoHands : PySem.W.kitOne K (.ref (C 1)) (.ref (C 6)) = some false
  q_NoFields_NoLine : PySem.W.kitOne K (.ref (C 1)) (.ref (C 9)) = some false
  q_NoFields_NoName : PySem.W.kitOne K (.ref (C 1)) (.ref (C 16)) = some false
  q_NoFields_NoNumber : PySem.W.kitOne K (.ref (C 1)) (.ref (C 8)) = some false
  q_NoFields_NoOffset : PySem.W.kitOne K (.ref (C 1)) (.ref (C 3)) = some false
  q_NoFields_NoRows : PySem.W.kitOne K (.ref (C 1)) (.ref (C 11)) = some false
  q_NoFields_NoRule : PySem.W.kitOne K (.ref (C 1)) (.ref (C 7)) = some false
  q_NoFields_NoSweep : PySem.W.kitOne K (.ref (C 1)) (.ref (C 18)) = some false
  q_NoFields_NoText : PySem.W.kitOne K (.ref (C 1)) (.ref (C 12)) = some false
  q_NoFields_NoWord : PySem.W.kitOne K (.ref (C 1)) (.ref (C 5)) = some false
  q_NoFields_OverflowError : PySem.W.kitOne K (.ref (C 1)) (.type "OverflowError") = some false
  q_NoFields_ReachError : PySem.W.kitOne K (.ref (C 1)) (.ref (C 0)) = some true
  q_NoFields_RuntimeError : PySem.W.kitOne K (.ref (C 1)) (.type "RuntimeError") = some false
  q_NoFields_Sweeping : PySem.W.kitOne K (.ref (C 1)) (.ref (C 17)) = some false
  q_NoFields_TooMany : PySem.W.kitOne K (.ref (C 1)) (.ref (C 15)) = some false
  q_NoFields_ValueError : PySem.W.kitOne K (.ref (C 1)) (.type "ValueError") = some true
  q_NoHands_Fault : PySem.W.kitOne K (.ref (C 6)) (.ref (C 10)) = some false
  q_NoHands_IndexError : PySem.W.kitOne K (.ref (C 6)) (.type "IndexError") = some false
  q_NoHands_KeyError : PySem.W.kitOne K (.ref (C 6)) (.type "KeyError") = some false
  q_NoHands_LookupError : PySem.W.kitOne K (.ref (C 6)) (.type "LookupError") = some false
  q_NoHands_NoAddress : PySem.W.kitOne K (.ref (C 6)) (.ref (C 4)) = some false
  q_NoHands_NoBounds : PySem.W.kitOne K (.ref (C 6)) (.ref (C 2)) = some false
  q_NoHands_NoCompartment : PySem.W.kitOne K (.ref (C 6)) (.ref (C 14)) = some false
  q_NoHands_NoDeeds : PySem.W.kitOne K (.ref (C 6)) (.ref (C 13)) = some false
  q_NoHands_NoFields : PySem.W.kitOne K (.ref (C 6)) (.ref (C 1)) = some false
  q_NoHands_NoHands : PySem.W.kitOne K (.ref (C 6)) (.ref (C 6)) = some true
  q_NoHands_NoLine : PySem.W.kitOne K (.ref (C 6)) (.ref (C 9)) = some false
  q_NoHands_NoName : PySem.W.kitOne K (.ref (C 6)) (.ref (C 16)) = some false
  q_NoHands_NoNumber : PySem.W.kitOne K (.ref (C 6)) (.ref (C 8)) = some false
  q_NoHands_NoOffset : PySem.W.kitOne K (.ref (C 6)) (.ref (C 3)) = some false
  q_NoHands_NoRows : PySem.W.kitOne K (.ref (C 6)) (.ref (C 11)) = some false
  q_NoHands_NoRule : PySem.W.kitOne K (.ref (C 6)) (.ref (C 7)) = some false
  q_NoHands_NoSweep : PySem.W.kitOne K (.ref (C 6)) (.ref (C 18)) = some false
  q_NoHands_NoText : PySem.W.kitOne K (.ref (C 6)) (.ref (C 12)) = some false
  q_NoHands_NoWord : PySem.W.kitOne K (.ref (C 6)) (.ref (C 5)) = some false
  q_NoHands_OverflowError : PySem.W.kitOne K (.ref (C 6)) (.type "OverflowError") = some false
  q_NoHands_ReachError : PySem.W.kitOne K (.ref (C 6)) (.ref (C 0)) = some true
  q_NoHands_RuntimeError : PySem.W.kitOne K (.ref (C 6)) (.type "RuntimeError") = some false
  q_NoHands_Sweeping : PySem.W.kitOne K (.ref (C 6)) (.ref (C 17)) = some false
  q_NoHands_TooMany : PySem.W.kitOne K (.ref (C 6)) (.ref (C 15)) = some false
  q_NoHands_ValueError : PySem.W.kitOne K (.ref (C 6)) (.type "ValueError") = some true
  q_NoLine_Fault : PySem.W.kitOne K (.ref (C 9)) (.ref (C 10)) = some false
  q_NoLine_IndexError : PySem.W.kitOne K (.ref (C 9)) (.type "IndexError") = some false
  q_NoLine_KeyError : PySem.W.kitOne K (.ref (C 9)) (.type "KeyError") = some false
  q_NoLine_LookupError : PySem.W.kitOne K (.ref (C 9)) (.type "LookupError") = some false
  q_NoLine_NoAddress : PySem.W.kitOne K (.ref (C 9)) (.ref (C 4)) = some false
  q_NoLine_NoBounds : PySem.W.kitOne K (.ref (C 9)) (.ref (C 2)) = some false
  q_NoLine_NoCompartment : PySem.W.kitOne K (.ref (C 9)) (.ref (C 14)) = some false
  q_NoLine_NoDeeds : PySem.W.kitOne K (.ref (C 9)) (.ref (C 13)) = some false
  q_NoLine_NoFields : PySem.W.kitOne K (.ref (C 9)) (.ref (C 1)) = some false
  q_NoLine_NoHands : PySem.W.kitOne K (.ref (C 9)) (.ref (C 6)) = some false
  q_NoLine_NoLine : PySem.W.kitOne K (.ref (C 9)) (.ref (C 9)) = some true
  q_NoLine_NoName : PySem.W.kitOne K (.ref (C 9)) (.ref (C 16)) = some false
  q_NoLine_NoNumber : PySem.W.kitOne K (.ref (C 9)) (.ref (C 8)) = some false
  q_NoLine_NoOffset : PySem.W.kitOne K (.ref (C 9)) (.ref (C 3)) = some false
  q_NoLine_NoRows : PySem.W.kitOne K (.ref (C 9)) (.ref (C 11)) = some false
  q_NoLine_NoRule : PySem.W.kitOne K (.ref (C 9)) (.ref (C 7)) = some false
  q_NoLine_NoSweep : PySem.W.kitOne K (.ref (C 9)) (.ref (C 18)) = some false
  q_NoLine_NoText : PySem.W.kitOne K (.ref (C 9)) (.ref (C 12)) = some false
  q_NoLine_NoWord : PySem.W.kitOne K (.ref (C 9)) (.ref (C 5)) = some false
  q_NoLine_OverflowError : PySem.W.kitOne K (.ref (C 9)) (.type "OverflowError") = some false
  q_NoLine_ReachError : PySem.W.kitOne K (.ref (C 9)) (.ref (C 0)) = some true
  q_NoLine_RuntimeError : PySem.W.kitOne K (.ref (C 9)) (.type "RuntimeError") = some false
  q_NoLine_Sweeping : PySem.W.kitOne K (.ref (C 9)) (.ref (C 17)) = some false
  q_NoLine_TooMany : PySem.W.kitOne K (.ref (C 9)) (.ref (C 15)) = some false
  q_NoLine_ValueError : PySem.W.kitOne K (.ref (C 9)) (.type "ValueError") = some true
  q_NoName_Fault : PySem.W.kitOne K (.ref (C 16)) (.ref (C 10)) = some false
  q_NoName_IndexError : PySem.W.kitOne K (.ref (C 16)) (.type "IndexError") = some false
  q_NoName_KeyError : PySem.W.kitOne K (.ref (C 16)) (.type "KeyError") = some true
  q_NoName_LookupError : PySem.W.kitOne K (.ref (C 16)) (.type "LookupError") = some true
  q_NoName_NoAddress : PySem.W.kitOne K (.ref (C 16)) (.ref (C 4)) = some false
  q_NoName_NoBounds : PySem.W.kitOne K (.ref (C 16)) (.ref (C 2)) = some false
  q_NoName_NoCompartment : PySem.W.kitOne K (.ref (C 16)) (.ref (C 14)) = some false
  q_NoName_NoDeeds : PySem.W.kitOne K (.ref (C 16)) (.ref (C 13)) = some false
  q_NoName_NoFields : PySem.W.kitOne K (.ref (C 16)) (.ref (C 1)) = some false
  q_NoName_NoHands : PySem.W.kitOne K (.ref (C 16)) (.ref (C 6)) = some false
  q_NoName_NoLine : PySem.W.kitOne K (.ref (C 16)) (.ref (C 9)) = some false
  q_NoName_NoName : PySem.W.kitOne K (.ref (C 16)) (.ref (C 16)) = some true
  q_NoName_NoNumber : PySem.W.kitOne K (.ref (C 16)) (.ref (C 8)) = some false
  q_NoName_NoOffset : PySem.W.kitOne K (.ref (C 16)) (.ref (C 3)) = some false
  q_NoName_NoRows : PySem.W.kitOne K (.ref (C 16)) (.ref (C 11)) = some false
  q_NoName_NoRule : PySem.W.kitOne K (.ref (C 16)) (.ref (C 7)) = some false
  q_NoName_NoSweep : PySem.W.kitOne K (.ref (C 16)) (.ref (C 18)) = some false
  q_NoName_NoText : PySem.W.kitOne K (.ref (C 16)) (.ref (C 12)) = some false
  q_NoName_NoWord : PySem.W.kitOne K (.ref (C 16)) (.ref (C 5)) = some false
  q_NoName_OverflowError : PySem.W.kitOne K (.ref (C 16)) (.type "OverflowError") = some false
  q_NoName_ReachError : PySem.W.kitOne K (.ref (C 16)) (.ref (C 0)) = some false
  q_NoName_RuntimeError : PySem.W.kitOne K (.ref (C 16)) (.type "RuntimeError") = some false
  q_NoName_Sweeping : PySem.W.kitOne K (.ref (C 16)) (.ref (C 17)) = some false
  q_NoName_TooMany : PySem.W.kitOne K (.ref (C 16)) (.ref (C 15)) = some false
  q_NoName_ValueError : PySem.W.kitOne K (.ref (C 16)) (.type "ValueError") = some false
  q_NoNumber_Fault : PySem.W.kitOne K (.ref (C 8)) (.ref (C 10)) = some false
  q_NoNumber_IndexError : PySem.W.kitOne K (.ref (C 8)) (.type "IndexError") = some false
  q_NoNumber_KeyError : PySem.W.kitOne K (.ref (C 8)) (.type "KeyError") = some false
  q_NoNumber_LookupError : PySem.W.kitOne K (.ref (C 8)) (.type "LookupError") = some false
  q_NoNumber_NoAddress : PySem.W.kitOne K (.ref (C 8)) (.ref (C 4)) = some false
  q_NoNumber_NoBounds : PySem.W.kitOne K (.ref (C 8)) (.ref (C 2)) = some false
  q_NoNumber_NoCompartment : PySem.W.kitOne K (.ref (C 8)) (.ref (C 14)) = some false
  q_NoNumber_NoDeeds : PySem.W.kitOne K (.ref (C 8)) (.ref (C 13)) = some false
  q_NoNumber_NoFields : PySem.W.kitOne K (.ref (C 8)) (.ref (C 1)) = some false
  q_NoNumber_NoHands : PySem.W.kitOne K (.ref (C 8)) (.ref (C 6)) = some false
  q_NoNumber_NoLine : PySem.W.kitOne K (.ref (C 8)) (.ref (C 9)) = some false
  q_NoNumber_NoName : PySem.W.kitOne K (.ref (C 8)) (.ref (C 16)) = some false
  q_NoNumber_NoNumber : PySem.W.kitOne K (.ref (C 8)) (.ref (C 8)) = some true
  q_NoNumber_NoOffset : PySem.W.kitOne K (.ref (C 8)) (.ref (C 3)) = some false
  q_NoNumber_NoRows : PySem.W.kitOne K (.ref (C 8)) (.ref (C 11)) = some false
  q_NoNumber_NoRule : PySem.W.kitOne K (.ref (C 8)) (.ref (C 7)) = some false
  q_NoNumber_NoSweep : PySem.W.kitOne K (.ref (C 8)) (.ref (C 18)) = some false
  q_NoNumber_NoText : PySem.W.kitOne K (.ref (C 8)) (.ref (C 12)) = some false
  q_NoNumber_NoWord : PySem.W.kitOne K (.ref (C 8)) (.ref (C 5)) = some false
  q_NoNumber_OverflowError : PySem.W.kitOne K (.ref (C 8)) (.type "OverflowError") = some false
  q_NoNumber_ReachError : PySem.W.kitOne K (.ref (C 8)) (.ref (C 0)) = some true
  q_NoNumber_RuntimeError : PySem.W.kitOne K (.ref (C 8)) (.type "RuntimeError") = some false
  q_NoNumber_Sweeping : PySem.W.kitOne K (.ref (C 8)) (.ref (C 17)) = some false
  q_NoNumber_TooMany : PySem.W.kitOne K (.ref (C 8)) (.ref (C 15)) = some false
  q_NoNumber_ValueError : PySem.W.kitOne K (.ref (C 8)) (.type "ValueError") = some true
  q_NoOffset_Fault : PySem.W.kitOne K (.ref (C 3)) (.ref (C 10)) = some false
  q_NoOffset_IndexError : PySem.W.kitOne K (.ref (C 3)) (.type "IndexError") = some false
  q_NoOffset_KeyError : PySem.W.kitOne K (.ref (C 3)) (.type "KeyError") = some false
  q_NoOffset_LookupError : PySem.W.kitOne K (.ref (C 3)) (.type "LookupError") = some false
  q_NoOffset_NoAddress : PySem.W.kitOne K (.ref (C 3)) (.ref (C 4)) = some false
  q_NoOffset_NoBounds : PySem.W.kitOne K (.ref (C 3)) (.ref (C 2)) = some false
  q_NoOffset_NoCompartment : PySem.W.kitOne K (.ref (C 3)) (.ref (C 14)) = some false
  q_NoOffset_NoDeeds : PySem.W.kitOne K (.ref (C 3)) (.ref (C 13)) = some false
  q_NoOffset_NoFields : PySem.W.kitOne K (.ref (C 3)) (.ref (C 1)) = some false
  q_NoOffset_NoHands : PySem.W.kitOne K (.ref (C 3)) (.ref (C 6)) = some false
  q_NoOffset_NoLine : PySem.W.kitOne K (.ref (C 3)) (.ref (C 9)) = some false
  q_NoOffset_NoName : PySem.W.kitOne K (.ref (C 3)) (.ref (C 16)) = some false
  q_NoOffset_NoNumber : PySem.W.kitOne K (.ref (C 3)) (.ref (C 8)) = some false
  q_NoOffset_NoOffset : PySem.W.kitOne K (.ref (C 3)) (.ref (C 3)) = some true
  q_NoOffset_NoRows : PySem.W.kitOne K (.ref (C 3)) (.ref (C 11)) = some false
  q_NoOffset_NoRule : PySem.W.kitOne K (.ref (C 3)) (.ref (C 7)) = some false
  q_NoOffset_NoSweep : PySem.W.kitOne K (.ref (C 3)) (.ref (C 18)) = some false
  q_NoOffset_NoText : PySem.W.kitOne K (.ref (C 3)) (.ref (C 12)) = some false
  q_NoOffset_NoWord : PySem.W.kitOne K (.ref (C 3)) (.ref (C 5)) = some false
  q_NoOffset_OverflowError : PySem.W.kitOne K (.ref (C 3)) (.type "OverflowError") = some false
  q_NoOffset_ReachError : PySem.W.kitOne K (.ref (C 3)) (.ref (C 0)) = some true
  q_NoOffset_RuntimeError : PySem.W.kitOne K (.ref (C 3)) (.type "RuntimeError") = some false
  q_NoOffset_Sweeping : PySem.W.kitOne K (.ref (C 3)) (.ref (C 17)) = some false
  q_NoOffset_TooMany : PySem.W.kitOne K (.ref (C 3)) (.ref (C 15)) = some false
  q_NoOffset_ValueError : PySem.W.kitOne K (.ref (C 3)) (.type "ValueError") = some true
  q_NoRows_Fault : PySem.W.kitOne K (.ref (C 11)) (.ref (C 10)) = some false
  q_NoRows_IndexError : PySem.W.kitOne K (.ref (C 11)) (.type "IndexError") = some false
  q_NoRows_KeyError : PySem.W.kitOne K (.ref (C 11)) (.type "KeyError") = some false
  q_NoRows_LookupError : PySem.W.kitOne K (.ref (C 11)) (.type "LookupError") = some false
  q_NoRows_NoAddress : PySem.W.kitOne K (.ref (C 11)) (.ref (C 4)) = some false
  q_NoRows_NoBounds : PySem.W.kitOne K (.ref (C 11)) (.ref (C 2)) = some false
  q_NoRows_NoCompartment : PySem.W.kitOne K (.ref (C 11)) (.ref (C 14)) = some false
  q_NoRows_NoDeeds : PySem.W.kitOne K (.ref (C 11)) (.ref (C 13)) = some false
  q_NoRows_NoFields : PySem.W.kitOne K (.ref (C 11)) (.ref (C 1)) = some false
  q_NoRows_NoHands : PySem.W.kitOne K (.ref (C 11)) (.ref (C 6)) = some false
  q_NoRows_NoLine : PySem.W.kitOne K (.ref (C 11)) (.ref (C 9)) = some false
  q_NoRows_NoName : PySem.W.kitOne K (.ref (C 11)) (.ref (C 16)) = some false
  q_NoRows_NoNumber : PySem.W.kitOne K (.ref (C 11)) (.ref (C 8)) = some false
  q_NoRows_NoOffset : PySem.W.kitOne K (.ref (C 11)) (.ref (C 3)) = some false
  q_NoRows_NoRows : PySem.W.kitOne K (.ref (C 11)) (.ref (C 11)) = some true
  q_NoRows_NoRule : PySem.W.kitOne K (.ref (C 11)) (.ref (C 7)) = some false
  q_NoRows_NoSweep : PySem.W.kitOne K (.ref (C 11)) (.ref (C 18)) = some false
  q_NoRows_NoText : PySem.W.kitOne K (.ref (C 11)) (.ref (C 12)) = some false
  q_NoRows_NoWord : PySem.W.kitOne K (.ref (C 11)) (.ref (C 5)) = some false
  q_NoRows_OverflowError : PySem.W.kitOne K (.ref (C 11)) (.type "OverflowError") = some false
  q_NoRows_ReachError : PySem.W.kitOne K (.ref (C 11)) (.ref (C 0)) = some true
  q_NoRows_RuntimeError : PySem.W.kitOne K (.ref (C 11)) (.type "RuntimeError") = some false
  q_NoRows_Sweeping : PySem.W.kitOne K (.ref (C 11)) (.ref (C 17)) = some false
  q_NoRows_TooMany : PySem.W.kitOne K (.ref (C 11)) (.ref (C 15)) = some false
  q_NoRows_ValueError : PySem.W.kitOne K (.ref (C 11)) (.type "ValueError") = some true
  q_NoRule_Fault : PySem.W.kitOne K (.ref (C 7)) (.ref (C 10)) = some false
  q_NoRule_IndexError : PySem.W.kitOne K (.ref (C 7)) (.type "IndexError") = some false
  q_NoRule_KeyError : PySem.W.kitOne K (.ref (C 7)) (.type "KeyError") = some false
  q_NoRule_LookupError : PySem.W.kitOne K (.ref (C 7)) (.type "LookupError") = some false
  q_NoRule_NoAddress : PySem.W.kitOne K (.ref (C 7)) (.ref (C 4)) = some false
  q_NoRule_NoBounds : PySem.W.kitOne K (.ref (C 7)) (.ref (C 2)) = some false
  q_NoRule_NoCompartment : PySem.W.kitOne K (.ref (C 7)) (.ref (C 14)) = some false
  q_NoRule_NoDeeds : PySem.W.kitOne K (.ref (C 7)) (.ref (C 13)) = some false
  q_NoRule_NoFields : PySem.W.kitOne K (.ref (C 7)) (.ref (C 1)) = some false
  q_NoRule_NoHands : PySem.W.kitOne K (.ref (C 7)) (.ref (C 6)) = some false
  q_NoRule_NoLine : PySem.W.kitOne K (.ref (C 7)) (.ref (C 9)) = some false
  q_NoRule_NoName : PySem.W.kitOne K (.ref (C 7)) (.ref (C 16)) = some false
  q_NoRule_NoNumber : PySem.W.kitOne K (.ref (C 7)) (.ref (C 8)) = some false
  q_NoRule_NoOffset : PySem.W.kitOne K (.ref (C 7)) (.ref (C 3)) = some false
  q_NoRule_NoRows : PySem.W.kitOne K (.ref (C 7)) (.ref (C 11)) = some false
  q_NoRule_NoRule : PySem.W.kitOne K (.ref (C 7)) (.ref (C 7)) = some true
  q_NoRule_NoSweep : PySem.W.kitOne K (.ref (C 7)) (.ref (C 18)) = some false
  q_NoRule_NoText : PySem.W.kitOne K (.ref (C 7)) (.ref (C 12)) = some false
  q_NoRule_NoWord : PySem.W.kitOne K (.ref (C 7)) (.ref (C 5)) = some false
  q_NoRule_OverflowError : PySem.W.kitOne K (.ref (C 7)) (.type "OverflowError") = some false
  q_NoRule_ReachError : PySem.W.kitOne K (.ref (C 7)) (.ref (C 0)) = some true
  q_NoRule_RuntimeError : PySem.W.kitOne K (.ref (C 7)) (.type "RuntimeError") = some false
  q_NoRule_Sweeping : PySem.W.kitOne K (.ref (C 7)) (.ref (C 17)) = some false
  q_NoRule_TooMany : PySem.W.kitOne K (.ref (C 7)) (.ref (C 15)) = some false
  q_NoRule_ValueError : PySem.W.kitOne K (.ref (C 7)) (.type "ValueError") = some true
  q_NoSweep_Fault : PySem.W.kitOne K (.ref (C 18)) (.ref (C 10)) = some false
  q_NoSweep_IndexError : PySem.W.kitOne K (.ref (C 18)) (.type "IndexError") = some false
  q_NoSweep_KeyError : PySem.W.kitOne K (.ref (C 18)) (.type "KeyError") = some false
  q_NoSweep_LookupError : PySem.W.kitOne K (.ref (C 18)) (.type "LookupError") = some true
  q_NoSweep_NoAddress : PySem.W.kitOne K (.ref (C 18)) (.ref (C 4)) = some false
  q_NoSweep_NoBounds : PySem.W.kitOne K (.ref (C 18)) (.ref (C 2)) = some false
  q_NoSweep_NoCompartment : PySem.W.kitOne K (.ref (C 18)) (.ref (C 14)) = some false
  q_NoSweep_NoDeeds : PySem.W.kitOne K (.ref (C 18)) (.ref (C 13)) = some false
  q_NoSweep_NoFields : PySem.W.kitOne K (.ref (C 18)) (.ref (C 1)) = some false
  q_NoSweep_NoHands : PySem.W.kitOne K (.ref (C 18)) (.ref (C 6)) = some false
  q_NoSweep_NoLine : PySem.W.kitOne K (.ref (C 18)) (.ref (C 9)) = some false
  q_NoSweep_NoName : PySem.W.kitOne K (.ref (C 18)) (.ref (C 16)) = some false
  q_NoSweep_NoNumber : PySem.W.kitOne K (.ref (C 18)) (.ref (C 8)) = some false
  q_NoSweep_NoOffset : PySem.W.kitOne K (.ref (C 18)) (.ref (C 3)) = some false
  q_NoSweep_NoRows : PySem.W.kitOne K (.ref (C 18)) (.ref (C 11)) = some false
  q_NoSweep_NoRule : PySem.W.kitOne K (.ref (C 18)) (.ref (C 7)) = some false
  q_NoSweep_NoSweep : PySem.W.kitOne K (.ref (C 18)) (.ref (C 18)) = some true
  q_NoSweep_NoText : PySem.W.kitOne K (.ref (C 18)) (.ref (C 12)) = some false
  q_NoSweep_NoWord : PySem.W.kitOne K (.ref (C 18)) (.ref (C 5)) = some false
  q_NoSweep_OverflowError : PySem.W.kitOne K (.ref (C 18)) (.type "OverflowError") = some false
  q_NoSweep_ReachError : PySem.W.kitOne K (.ref (C 18)) (.ref (C 0)) = some false
  q_NoSweep_RuntimeError : PySem.W.kitOne K (.ref (C 18)) (.type "RuntimeError") = some false
  q_NoSweep_Sweeping : PySem.W.kitOne K (.ref (C 18)) (.ref (C 17)) = some false
  q_NoSweep_TooMany : PySem.W.kitOne K (.ref (C 18)) (.ref (C 15)) = some false
  q_NoSweep_ValueError : PySem.W.kitOne K (.ref (C 18)) (.type "ValueError") = some false
  q_NoText_Fault : PySem.W.kitOne K (.ref (C 12)) (.ref (C 10)) = some false
  q_NoText_IndexError : PySem.W.kitOne K (.ref (C 12)) (.type "IndexError") = some false
  q_NoText_KeyError : PySem.W.kitOne K (.ref (C 12)) (.type "KeyError") = some false
  q_NoText_LookupError : PySem.W.kitOne K (.ref (C 12)) (.type "LookupError") = some false
  q_NoText_NoAddress : PySem.W.kitOne K (.ref (C 12)) (.ref (C 4)) = some false
  q_NoText_NoBounds : PySem.W.kitOne K (.ref (C 12)) (.ref (C 2)) = some false
  q_NoText_NoCompartment : PySem.W.kitOne K (.ref (C 12)) (.ref (C 14)) = some false
  q_NoText_NoDeeds : PySem.W.kitOne K (.ref (C 12)) (.ref (C 13)) = some false
  q_NoText_NoFields : PySem.W.kitOne K (.ref (C 12)) (.ref (C 1)) = some false
  q_NoText_NoHands : PySem.W.kitOne K (.ref (C 12)) (.ref (C 6)) = some false
  q_NoText_NoLine : PySem.W.kitOne K (.ref (C 12)) (.ref (C 9)) = some false
  q_NoText_NoName : PySem.W.kitOne K (.ref (C 12)) (.ref (C 16)) = some false
  q_NoText_NoNumber : PySem.W.kitOne K (.ref (C 12)) (.ref (C 8)) = some false
  q_NoText_NoOffset : PySem.W.kitOne K (.ref (C 12)) (.ref (C 3)) = some false
  q_NoText_NoRows : PySem.W.kitOne K (.ref (C 12)) (.ref (C 11)) = some false
  q_NoText_NoRule : PySem.W.kitOne K (.ref (C 12)) (.ref (C 7)) = some false
  q_NoText_NoSweep : PySem.W.kitOne K (.ref (C 12)) (.ref (C 18)) = some false
  q_NoText_NoText : PySem.W.kitOne K (.ref (C 12)) (.ref (C 12)) = some true
  q_NoText_NoWord : PySem.W.kitOne K (.ref (C 12)) (.ref (C 5)) = some false
  q_NoText_OverflowError : PySem.W.kitOne K (.ref (C 12)) (.type "OverflowError") = some false
  q_NoText_ReachError : PySem.W.kitOne K (.ref (C 12)) (.ref (C 0)) = some true
  q_NoText_RuntimeError : PySem.W.kitOne K (.ref (C 12)) (.type "RuntimeError") = some false
  q_NoText_Sweeping : PySem.W.kitOne K (.ref (C 12)) (.ref (C 17)) = some false
  q_NoText_TooMany : PySem.W.kitOne K (.ref (C 12)) (.ref (C 15)) = some false
  q_NoText_ValueError : PySem.W.kitOne K (.ref (C 12)) (.type "ValueError") = some true
  q_NoWord_Fault : PySem.W.kitOne K (.ref (C 5)) (.ref (C 10)) = some false
  q_NoWord_IndexError : PySem.W.kitOne K (.ref (C 5)) (.type "IndexError") = some false
  q_NoWord_KeyError : PySem.W.kitOne K (.ref (C 5)) (.type "KeyError") = some false
  q_NoWord_LookupError : PySem.W.kitOne K (.ref (C 5)) (.type "LookupError") = some false
  q_NoWord_NoAddress : PySem.W.kitOne K (.ref (C 5)) (.ref (C 4)) = some false
  q_NoWord_NoBounds : PySem.W.kitOne K (.ref (C 5)) (.ref (C 2)) = some false
  q_NoWord_NoCompartment : PySem.W.kitOne K (.ref (C 5)) (.ref (C 14)) = some false
  q_NoWord_NoDeeds : PySem.W.kitOne K (.ref (C 5)) (.ref (C 13)) = some false
  q_NoWord_NoFields : PySem.W.kitOne K (.ref (C 5)) (.ref (C 1)) = some false
  q_NoWord_NoHands : PySem.W.kitOne K (.ref (C 5)) (.ref (C 6)) = some false
  q_NoWord_NoLine : PySem.W.kitOne K (.ref (C 5)) (.ref (C 9)) = some false
  q_NoWord_NoName : PySem.W.kitOne K (.ref (C 5)) (.ref (C 16)) = some false
  q_NoWord_NoNumber : PySem.W.kitOne K (.ref (C 5)) (.ref (C 8)) = some false
  q_NoWord_NoOffset : PySem.W.kitOne K (.ref (C 5)) (.ref (C 3)) = some false
  q_NoWord_NoRows : PySem.W.kitOne K (.ref (C 5)) (.ref (C 11)) = some false
  q_NoWord_NoRule : PySem.W.kitOne K (.ref (C 5)) (.ref (C 7)) = some false
  q_NoWord_NoSweep : PySem.W.kitOne K (.ref (C 5)) (.ref (C 18)) = some false
  q_NoWord_NoText : PySem.W.kitOne K (.ref (C 5)) (.ref (C 12)) = some false
  q_NoWord_NoWord : PySem.W.kitOne K (.ref (C 5)) (.ref (C 5)) = some true
  q_NoWord_OverflowError : PySem.W.kitOne K (.ref (C 5)) (.type "OverflowError") = some false
  q_NoWord_ReachError : PySem.W.kitOne K (.ref (C 5)) (.ref (C 0)) = some true
  q_NoWord_RuntimeError : PySem.W.kitOne K (.ref (C 5)) (.type "RuntimeError") = some false
  q_NoWord_Sweeping : PySem.W.kitOne K (.ref (C 5)) (.ref (C 17)) = some false
  q_NoWord_TooMany : PySem.W.kitOne K (.ref (C 5)) (.ref (C 15)) = some false
  q_NoWord_ValueError : PySem.W.kitOne K (.ref (C 5)) (.type "ValueError") = some true
  q_ReachError_Fault : PySem.W.kitOne K (.ref (C 0)) (.ref (C 10)) = some false
  q_ReachError_IndexError : PySem.W.kitOne K (.ref (C 0)) (.type "IndexError") = some false
  q_ReachError_KeyError : PySem.W.kitOne K (.ref (C 0)) (.type "KeyError") = some false
  q_ReachError_LookupError : PySem.W.kitOne K (.ref (C 0)) (.type "LookupError") = some false
  q_ReachError_NoAddress : PySem.W.kitOne K (.ref (C 0)) (.ref (C 4)) = some false
  q_ReachError_NoBounds : PySem.W.kitOne K (.ref (C 0)) (.ref (C 2)) = some false
  q_ReachError_NoCompartment : PySem.W.kitOne K (.ref (C 0)) (.ref (C 14)) = some false
  q_ReachError_NoDeeds : PySem.W.kitOne K (.ref (C 0)) (.ref (C 13)) = some false
  q_ReachError_NoFields : PySem.W.kitOne K (.ref (C 0)) (.ref (C 1)) = some false
  q_ReachError_NoHands : PySem.W.kitOne K (.ref (C 0)) (.ref (C 6)) = some false
  q_ReachError_NoLine : PySem.W.kitOne K (.ref (C 0)) (.ref (C 9)) = some false
  q_ReachError_NoName : PySem.W.kitOne K (.ref (C 0)) (.ref (C 16)) = some false
  q_ReachError_NoNumber : PySem.W.kitOne K (.ref (C 0)) (.ref (C 8)) = some false
  q_ReachError_NoOffset : PySem.W.kitOne K (.ref (C 0)) (.ref (C 3)) = some false
  q_ReachError_NoRows : PySem.W.kitOne K (.ref (C 0)) (.ref (C 11)) = some false
  q_ReachError_NoRule : PySem.W.kitOne K (.ref (C 0)) (.ref (C 7)) = some false
  q_ReachError_NoSweep : PySem.W.kitOne K (.ref (C 0)) (.ref (C 18)) = some false
  q_ReachError_NoText : PySem.W.kitOne K (.ref (C 0)) (.ref (C 12)) = some false
  q_ReachError_NoWord : PySem.W.kitOne K (.ref (C 0)) (.ref (C 5)) = some false
  q_ReachError_OverflowError : PySem.W.kitOne K (.ref (C 0)) (.type "OverflowError") = some false
  q_ReachError_ReachError : PySem.W.kitOne K (.ref (C 0)) (.ref (C 0)) = some true
  q_ReachError_RuntimeError : PySem.W.kitOne K (.ref (C 0)) (.type "RuntimeError") = some false
  q_ReachError_Sweeping : PySem.W.kitOne K (.ref (C 0)) (.ref (C 17)) = some false
  q_ReachError_TooMany : PySem.W.kitOne K (.ref (C 0)) (.ref (C 15)) = some false
  q_ReachError_ValueError : PySem.W.kitOne K (.ref (C 0)) (.type "ValueError") = some true
  q_Sweeping_Fault : PySem.W.kitOne K (.ref (C 17)) (.ref (C 10)) = some false
  q_Sweeping_IndexError : PySem.W.kitOne K (.ref (C 17)) (.type "IndexError") = some false
  q_Sweeping_KeyError : PySem.W.kitOne K (.ref (C 17)) (.type "KeyError") = some false
  q_Sweeping_LookupError : PySem.W.kitOne K (.ref (C 17)) (.type "LookupError") = some false
  q_Sweeping_NoAddress : PySem.W.kitOne K (.ref (C 17)) (.ref (C 4)) = some false
  q_Sweeping_NoBounds : PySem.W.kitOne K (.ref (C 17)) (.ref (C 2)) = some false
  q_Sweeping_NoCompartment : PySem.W.kitOne K (.ref (C 17)) (.ref (C 14)) = some false
  q_Sweeping_NoDeeds : PySem.W.kitOne K (.ref (C 17)) (.ref (C 13)) = some false
  q_Sweeping_NoFields : PySem.W.kitOne K (.ref (C 17)) (.ref (C 1)) = some false
  q_Sweeping_NoHands : PySem.W.kitOne K (.ref (C 17)) (.ref (C 6)) = some false
  q_Sweeping_NoLine : PySem.W.kitOne K (.ref (C 17)) (.ref (C 9)) = some false
  q_Sweeping_NoName : PySem.W.kitOne K (.ref (C 17)) (.ref (C 16)) = some false
  q_Sweeping_NoNumber : PySem.W.kitOne K (.ref (C 17)) (.ref (C 8)) = some false
  q_Sweeping_NoOffset : PySem.W.kitOne K (.ref (C 17)) (.ref (C 3)) = some false
  q_Sweeping_NoRows : PySem.W.kitOne K (.ref (C 17)) (.ref (C 11)) = some false
  q_Sweeping_NoRule : PySem.W.kitOne K (.ref (C 17)) (.ref (C 7)) = some false
  q_Sweeping_NoSweep : PySem.W.kitOne K (.ref (C 17)) (.ref (C 18)) = some false
  q_Sweeping_NoText : PySem.W.kitOne K (.ref (C 17)) (.ref (C 12)) = some false
  q_Sweeping_NoWord : PySem.W.kitOne K (.ref (C 17)) (.ref (C 5)) = some false
  q_Sweeping_OverflowError : PySem.W.kitOne K (.ref (C 17)) (.type "OverflowError") = some false
  q_Sweeping_ReachError : PySem.W.kitOne K (.ref (C 17)) (.ref (C 0)) = some false
  q_Sweeping_RuntimeError : PySem.W.kitOne K (.ref (C 17)) (.type "RuntimeError") = some true
  q_Sweeping_Sweeping : PySem.W.kitOne K (.ref (C 17)) (.ref (C 17)) = some true
  q_Sweeping_TooMany : PySem.W.kitOne K (.ref (C 17)) (.ref (C 15)) = some false
  q_Sweeping_ValueError : PySem.W.kitOne K (.ref (C 17)) (.type "ValueError") = some false
  q_TooMany_Fault : PySem.W.kitOne K (.ref (C 15)) (.ref (C 10)) = some false
  q_TooMany_IndexError : PySem.W.kitOne K (.ref (C 15)) (.type "IndexError") = some false
  q_TooMany_KeyError : PySem.W.kitOne K (.ref (C 15)) (.type "KeyError") = some false
  q_TooMany_LookupError : PySem.W.kitOne K (.ref (C 15)) (.type "LookupError") = some false
  q_TooMany_NoAddress : PySem.W.kitOne K (.ref (C 15)) (.ref (C 4)) = some false
  q_TooMany_NoBounds : PySem.W.kitOne K (.ref (C 15)) (.ref (C 2)) = some false
  q_TooMany_NoCompartment : PySem.W.kitOne K (.ref (C 15)) (.ref (C 14)) = some false
  q_TooMany_NoDeeds : PySem.W.kitOne K (.ref (C 15)) (.ref (C 13)) = some false
  q_TooMany_NoFields : PySem.W.kitOne K (.ref (C 15)) (.ref (C 1)) = some false
  q_TooMany_NoHands : PySem.W.kitOne K (.ref (C 15)) (.ref (C 6)) = some false
  q_TooMany_NoLine : PySem.W.kitOne K (.ref (C 15)) (.ref (C 9)) = some false
  q_TooMany_NoName : PySem.W.kitOne K (.ref (C 15)) (.ref (C 16)) = some false
  q_TooMany_NoNumber : PySem.W.kitOne K (.ref (C 15)) (.ref (C 8)) = some false
  q_TooMany_NoOffset : PySem.W.kitOne K (.ref (C 15)) (.ref (C 3)) = some false
  q_TooMany_NoRows : PySem.W.kitOne K (.ref (C 15)) (.ref (C 11)) = some false
  q_TooMany_NoRule : PySem.W.kitOne K (.ref (C 15)) (.ref (C 7)) = some false
  q_TooMany_NoSweep : PySem.W.kitOne K (.ref (C 15)) (.ref (C 18)) = some false
  q_TooMany_NoText : PySem.W.kitOne K (.ref (C 15)) (.ref (C 12)) = some false
  q_TooMany_NoWord : PySem.W.kitOne K (.ref (C 15)) (.ref (C 5)) = some false
  q_TooMany_OverflowError : PySem.W.kitOne K (.ref (C 15)) (.type "OverflowError") = some true
  q_TooMany_ReachError : PySem.W.kitOne K (.ref (C 15)) (.ref (C 0)) = some false
  q_TooMany_RuntimeError : PySem.W.kitOne K (.ref (C 15)) (.type "RuntimeError") = some false
  q_TooMany_Sweeping : PySem.W.kitOne K (.ref (C 15)) (.ref (C 17)) = some false
  q_TooMany_TooMany : PySem.W.kitOne K (.ref (C 15)) (.ref (C 15)) = some true
  q_TooMany_ValueError : PySem.W.kitOne K (.ref (C 15)) (.type "ValueError") = some false
section
variable {P : Program} {w : World} {K : PySem.W.Frag} {mg : Str → Option Value} {base : Heap} {C A : Nat → Addr} {fd : Nat → FuncData}
theorem kq_Fault_h (T : Txt w K mg C A fd) : ∀ k b, kq_Fault k = some b → PySem.W.kitOne K (tkV C k) (.ref (C 10)) = some b := by
  intro k b h
  unfold kq_Fault at h
  split at h <;> cases h
  · exact T.q_ReachError_Fault
  · exact T.q_NoFields_Fault
  · exact T.q_NoBounds_Fault
  · exact T.q_NoOffset_Fault
  · exact T.q_NoAddress_Fault
  · exact T.q_NoWord_Fault
  · exact T.q_NoHands_Fault
  · exact T.q_NoRule_Fault
  · exact T.q_NoNumber_Fault
  · exact T.q_NoLine_Fault
  · exact T.q_Fault_Fault
  · exact T.q_NoRows_Fault
  · exact T.q_NoText_Fault
  · exact T.q_NoDeeds_Fault
  · exact T.q_NoCompartment_Fault
  · exact T.q_TooMany_Fault
  · exact T.q_NoName_Fault
  · exact T.q_Sweeping_Fault
  · exact T.q_NoSweep_Fault
theorem kq_Fault_x (T : Txt w K mg C A fd) : ∀ n b, kq_Fault (.inr n) = some b → ExcC K (C n) := by
  intro n b h
  unfold kq_Fault at h
  split at h
  · rename_i e; cases e; exact T.E_ReachError
  · rename_i e; cases e; exact T.E_NoFields
  · rename_i e; cases e; exact T.E_NoBounds
  · rename_i e; cases e; exact T.E_NoOffset
  · rename_i e; cases e; exact T.E_NoAddress
  · rename_i e; cases e; exact T.E_NoWord
  · rename_i e; cases e; exact T.E_NoHands
  · rename_i e; cases e; exact T.E_NoRule
  · rename_i e; cases e; exact T.E_NoNumber
  · rename_i e; cases e; exact T.E_NoLine
  · rename_i e; cases e; exact T.E_Fault
  · rename_i e; cases e; exact T.E_NoRows
  · rename_i e; cases e; exact T.E_NoText
  · rename_i e; cases e; exact T.E_NoDeeds
  · rename_i e; cases e; exact T.E_NoCompartment
  · rename_i e; cases e; exact T.E_TooMany
  · rename_i e; cases e; exact T.E_NoName
  · rename_i e; cases e; exact T.E_Sweeping
  · rename_i e; cases e; exact T.E_NoSweep
  · cases h
theorem kq_IndexError_h (T : Txt w K mg C A fd) : ∀ k b, kq_IndexError k = some b → PySem.W.kitOne K (tkV C k) (.type "IndexError") = some b := by
  intro k b h
  unfold kq_IndexError at h
  split at h <;> cases h
  · exact T.q_ReachError_IndexError
  · exact T.q_NoFields_IndexError
  · exact T.q_NoBounds_IndexError
  · exact T.q_NoOffset_IndexError
  · exact T.q_NoAddress_IndexError
  · exact T.q_NoWord_IndexError
  · exact T.q_NoHands_IndexError
  · exact T.q_NoRule_IndexError
  · exact T.q_NoNumber_IndexError
  · exact T.q_NoLine_IndexError
  · exact T.q_Fault_IndexError
  · exact T.q_NoRows_IndexError
  · exact T.q_NoText_IndexError
  · exact T.q_NoDeeds_IndexError
  · exact T.q_NoCompartment_IndexError
  · exact T.q_TooMany_IndexError
  · exact T.q_NoName_IndexError
  · exact T.q_Sweeping_IndexError
  · exact T.q_NoSweep_IndexError
theorem kq_IndexError_x (T : Txt w K mg C A fd) : ∀ n b, kq_IndexError (.inr n) = some b → ExcC K (C n) := by
  intro n b h
  unfold kq_IndexError at h
  split at h
  · rename_i e; cases e; exact T.E_ReachError
  · rename_i e; cases e; exact T.E_NoFields
  · rename_i e; cases e; exact T.E_NoBounds
  · rename_i e; cases e; exact T.E_NoOffset
  · rename_i e; cases e; exact T.E_NoAddress
  · rename_i e; cases e; exact T.E_NoWord
  · rename_i e; cases e; exact T.E_NoHands
  · rename_i e; cases e; exact T.E_NoRule
  · rename_i e; cases e; exact T.E_NoNumber
  · rename_i e; cases e; exact T.E_NoLine
  · rename_i e; cases e; exact T.E_Fault
  · rename_i e; cases e; exact T.E_NoRows
  · rename_i e; cases e; exact T.E_NoText
  · rename_i e; cases e; exact T.E_NoDeeds
  · rename_i e; cases e; exact T.E_NoCompartment
  · rename_i e; cases e; exact T.E_TooMany
  · rename_i e; cases e; exact T.E_NoName
  · rename_i e; cases e; exact T.E_Sweeping
  · rename_i e; cases e; exact T.E_NoSweep
  · cases h
theorem kq_KeyError_h (T : Txt w K mg C A fd) : ∀ k b, kq_KeyError k = some b → PySem.W.kitOne K (tkV C k) (.type "KeyError") = some b := by
  intro k b h
  unfold kq_KeyError at h
  split at h <;> cases h
  · exact T.q_ReachError_KeyError
  · exact T.q_NoFields_KeyError
  · exact T.q_NoBounds_KeyError
  · exact T.q_NoOffset_KeyError
  · exact T.q_NoAddress_KeyError
  · exact T.q_NoWord_KeyError
  · exact T.q_NoHands_KeyError
  · exact T.q_NoRule_KeyError
  · exact T.q_NoNumber_KeyError
  · exact T.q_NoLine_KeyError
  · exact T.q_Fault_KeyError
  · exact T.q_NoRows_KeyError
  · exact T.q_NoText_KeyError
  · exact T.q_NoDeeds_KeyError
  · exact T.q_NoCompartment_KeyError
  · exact T.q_TooMany_KeyError
  · exact T.q_NoName_KeyError
  · exact T.q_Sweeping_KeyError
  · exact T.q_NoSweep_KeyError
theorem kq_KeyError_x (T : Txt w K mg C A fd) : ∀ n b, kq_KeyError (.inr n) = some b → ExcC K (C n) := by
  intro n b h
  unfold kq_KeyError at h
  split at h
  · rename_i e; cases e; exact T.E_ReachError
  · rename_i e; cases e; exact T.E_NoFields
  · rename_i e; cases e; exact T.E_NoBounds
  · rename_i e; cases e; exact T.E_NoOffset
  · rename_i e; cases e; exact T.E_NoAddress
  · rename_i e; cases e; exact T.E_NoWord
  · rename_i e; cases e; exact T.E_NoHands
  · rename_i e; cases e; exact T.E_NoRule
  · rename_i e; cases e; exact T.E_NoNumber
  · rename_i e; cases e; exact T.E_NoLine
  · rename_i e; cases e; exact T.E_Fault
  · rename_i e; cases e; exact T.E_NoRows
  · rename_i e; cases e; exact T.E_NoText
  · rename_i e; cases e; exact T.E_NoDeeds
  · rename_i e; cases e; exact T.E_NoCompartment
  · rename_i e; cases e; exact T.E_TooMany
  · rename_i e; cases e; exact T.E_NoName
  · rename_i e; cases e; exact T.E_Sweeping
  · rename_i e; cases e; exact T.E_NoSweep
  · cases h
theorem kq_LookupError_h (T : Txt w K mg C A fd) : ∀ k b, kq_LookupError k = some b → PySem.W.kitOne K (tkV C k) (.type "LookupError") = some b := by
  intro k b h
  unfold kq_LookupError at h
  split at h <;> cases h
  · exact T.q_ReachError_LookupError
  · exact T.q_NoFields_LookupError
  · exact T.q_NoBounds_LookupError
  · exact T.q_NoOffset_LookupError
  · exact T.q_NoAddress_LookupError
  · exact T.q_NoWord_LookupError
  · exact T.q_NoHands_LookupError
  · exact T.q_NoRule_LookupError
  · exact T.q_NoNumber_LookupError
  · exact T.q_NoLine_LookupError
  · exact T.q_Fault_LookupError
  · exact T.q_NoRows_LookupError
  · exact T.q_NoText_LookupError
  · exact T.q_NoDeeds_LookupError
  · exact T.q_NoCompartment_LookupError
  · exact T.q_TooMany_LookupError
  · exact T.q_NoName_LookupError
  · exact T.q_Sweeping_LookupError
  · exact T.q_NoSweep_LookupError
theorem kq_LookupError_x (T : Txt w K mg C A fd) : ∀ n b, kq_LookupError (.inr n) = some b → ExcC K (C n) := by
  intro n b h
  unfold kq_LookupError at h
  split at h
  · rename_i e; cases e; exact T.E_ReachError
  · rename_i e; cases e; exact T.E_NoFields
  · rename_i e; cases e; exact T.E_NoBounds
  · rename_i e; cases e; exact T.E_NoOffset
  · rename_i e; cases e; exact T.E_NoAddress
  · rename_i e; cases e; exact T.E_NoWord
  · rename_i e; cases e; exact T.E_NoHands
  · rename_i e; cases e; exact T.E_NoRule
  · rename_i e; cases e; exact T.E_NoNumber
  · rename_i e; cases e; exact T.E_NoLine
  · rename_i e; cases e; exact T.E_Fault
  · rename_i e; cases e; exact T.E_NoRows
  · rename_i e; cases e; exact T.E_NoText
  · rename_i e; cases e; exact T.E_NoDeeds
  · rename_i e; cases e; exact T.E_NoCompartment
  · rename_i e; cases e; exact T.E_TooMany
  · rename_i e; cases e; exact T.E_NoName
  · rename_i e; cases e; exact T.E_Sweeping
  · rename_i e; cases e; exact T.E_NoSweep
  · cases h
theorem kq_NoAddress_h (T : Txt w K mg C A fd) : ∀ k b, kq_NoAddress k = some b → PySem.W.kitOne K (tkV C k) (.ref (C 4)) = some b := by
  intro k b h
  unfold kq_NoAddress at h
  split at h <;> cases h
  · exact T.q_ReachError_NoAddress
  · exact T.q_NoFields_NoAddress
  · exact T.q_NoBounds_NoAddress
  · exact T.q_NoOffset_NoAddress
  · exact T.q_NoAddress_NoAddress
  · exact T.q_NoWord_NoAddress
  · exact T.q_NoHands_NoAddress
  · exact T.q_NoRule_NoAddress
  · exact T.q_NoNumber_NoAddress
  · exact T.q_NoLine_NoAddress
  · exact T.q_Fault_NoAddress
  · exact T.q_NoRows_NoAddress
  · exact T.q_NoText_NoAddress
  · exact T.q_NoDeeds_NoAddress
  · exact T.q_NoCompartment_NoAddress
  · exact T.q_TooMany_NoAddress
  · exact T.q_NoName_NoAddress
  · exact T.q_Sweeping_NoAddress
  · exact T.q_NoSweep_NoAddress
theorem kq_NoAddress_x (T : Txt w K mg C A fd) : ∀ n b, kq_NoAddress (.inr n) = some b → ExcC K (C n) := by
  intro n b h
  unfold kq_NoAddress at h
  split at h
  · rename_i e; cases e; exact T.E_ReachError
  · rename_i e; cases e; exact T.E_NoFields
  · rename_i e; cases e; exact T.E_NoBounds
  · rename_i e; cases e; exact T.E_NoOffset
  · rename_i e; cases e; exact T.E_NoAddress
  · rename_i e; cases e; exact T.E_NoWord
  · rename_i e; cases e; exact T.E_NoHands
  · rename_i e; cases e; exact T.E_NoRule
  · rename_i e; cases e; exact T.E_NoNumber
  · rename_i e; cases e; exact T.E_NoLine
  · rename_i e; cases e; exact T.E_Fault
  · rename_i e; cases e; exact T.E_NoRows
  · rename_i e; cases e; exact T.E_NoText
  · rename_i e; cases e; exact T.E_NoDeeds
  · rename_i e; cases e; exact T.E_NoCompartment
  · rename_i e; cases e; exact T.E_TooMany
  · rename_i e; cases e; exact T.E_NoName
  · rename_i e; cases e; exact T.E_Sweeping
  · rename_i e; cases e; exact T.E_NoSweep
  · cases h
theorem kq_NoBounds_h (T : Txt w K mg C A fd) : ∀ k b, kq_NoBounds k = some b → PySem.W.kitOne K (tkV C k) (.ref (C 2)) = some b := by
  intro k b h
  unfold kq_NoBounds at h
  split at h <;> cases h
  · exact T.q_ReachError_NoBounds
  · exact T.q_NoFields_NoBounds
  · exact T.q_NoBounds_NoBounds
  · exact T.q_NoOffset_NoBounds
  · exact T.q_NoAddress_NoBounds
  · exact T.q_NoWord_NoBounds
  · exact T.q_NoHands_NoBounds
  · exact T.q_NoRule_NoBounds
  · exact T.q_NoNumber_NoBounds
  · exact T.q_NoLine_NoBounds
  · exact T.q_Fault_NoBounds
  · exact T.q_NoRows_NoBounds
  · exact T.q_NoText_NoBounds
  · exact T.q_NoDeeds_NoBounds
  · exact T.q_NoCompartment_NoBounds
  · exact T.q_TooMany_NoBounds
  · exact T.q_NoName_NoBounds
  · exact T.q_Sweeping_NoBounds
  · exact T.q_NoSweep_NoBounds
theorem kq_NoBounds_x (T : Txt w K mg C A fd) : ∀ n b, kq_NoBounds (.inr n) = some b → ExcC K (C n) := by
  intro n b h
  unfold kq_NoBounds at h
  split at h
  · rename_i e; cases e; exact T.E_ReachError
  · rename_i e; cases e; exact T.E_NoFields
  · rename_i e; cases e; exact T.E_NoBounds
  · rename_i e; cases e; exact T.E_NoOffset
  · rename_i e; cases e; exact T.E_NoAddress
  · rename_i e; cases e; exact T.E_NoWord
  · rename_i e; cases e; exact T.E_NoHands
  · rename_i e; cases e; exact T.E_NoRule
  · rename_i e; cases e; exact T.E_NoNumber
  · rename_i e; cases e; exact T.E_NoLine
  · rename_i e; cases e; exact T.E_Fault
  · rename_i e; cases e; exact T.E_NoRows
  · rename_i e; cases e; exact T.E_NoText
  · rename_i e; cases e; exact T.E_NoDeeds
  · rename_i e; cases e; exact T.E_NoCompartment
  · rename_i e; cases e; exact T.E_TooMany
  · rename_i e; cases e; exact T.E_NoName
  · rename_i e; cases e; exact T.E_Sweeping
  · rename_i e; cases e; exact T.E_NoSweep
  · cases h
theorem kq_NoCompartment_h (T : Txt w K mg C A fd) : ∀ k b, kq_NoCompartment k = some b → PySem.W.kitOne K (tkV C k) (.ref (C 14)) = some b := by
  intro k b h
  unfold kq_NoCompartment at h
  split at h <;> cases h
  · exact T.q_ReachError_NoCompartment
  · exact T.q_NoFields_NoCompartment
  · exact T.q_NoBounds_NoCompartment
  · exact T.q_NoOffset_NoCompartment
  · exact T.q_NoAddress_NoCompartment
  · exact T.q_NoWord_NoCompartment
  · exact T.q_NoHands_NoCompartment
  · exact T.q_NoRule_NoCompartment
  · exact T.q_NoNumber_NoCompartment
  · exact T.q_NoLine_NoCompartment
  · exact T.q_Fault_NoCompartment
  · exact T.q_NoRows_NoCompartment
  · exact T.q_NoText_NoCompartment
  · exact T.q_NoDeeds_NoCompartment
  · exact T.q_NoCompartment_NoCompartment
  · exact T.q_TooMany_NoCompartment
  · exact T.q_NoName_NoCompartment
  · exact T.q_Sweeping_NoCompartment
  · exact T.q_NoSweep_NoCompartment
theorem kq_NoCompartment_x (T : Txt w K mg C A fd) : ∀ n b, kq_NoCompartment (.inr n) = some b → ExcC K (C n) := by
  intro n b h
  unfold kq_NoCompartment at h
  split at h
  · rename_i e; cases e; exact T.E_ReachError
  · rename_i e; cases e; exact T.E_NoFields
  · rename_i e; cases e; exact T.E_NoBounds
  · rename_i e; cases e; exact T.E_NoOffset
  · rename_i e; cases e; exact T.E_NoAddress
  · rename_i e; cases e; exact T.E_NoWord
  · rename_i e; cases e; exact T.E_NoHands
  · rename_i e; cases e; exact T.E_NoRule
  · rename_i e; cases e; exact T.E_NoNumber
  · rename_i e; cases e; exact T.E_NoLine
  · rename_i e; cases e; exact T.E_Fault
  · rename_i e; cases e; exact T.E_NoRows
  · rename_i e; cases e; exact T.E_NoText
  · rename_i e; cases e; exact T.E_NoDeeds
  · rename_i e; cases e; exact T.E_NoCompartment
  · rename_i e; cases e; exact T.E_TooMany
  · rename_i e; cases e; exact T.E_NoName
  · rename_i e; cases e; exact T.E_Sweeping
  · rename_i e; cases e; exact T.E_NoSweep
  · cases h
theorem kq_NoDeeds_h (T : Txt w K mg C A fd) : ∀ k b, kq_NoDeeds k = some b → PySem.W.kitOne K (tkV C k) (.ref (C 13)) = some b := by
  intro k b h
  unfold kq_NoDeeds at h
  split at h <;> cases h
  · exact T.q_ReachError_NoDeeds
  · exact T.q_NoFields_NoDeeds
  · exact T.q_NoBounds_NoDeeds
  · exact T.q_NoOffset_NoDeeds
  · exact T.q_NoAddress_NoDeeds
  · exact T.q_NoWord_NoDeeds
  · exact T.q_NoHands_NoDeeds
  · exact T.q_NoRule_NoDeeds
  · exact T.q_NoNumber_NoDeeds
  · exact T.q_NoLine_NoDeeds
  · exact T.q_Fault_NoDeeds
  · exact T.q_NoRows_NoDeeds
  · exact T.q_NoText_NoDeeds
  · exact T.q_NoDeeds_NoDeeds
  · exact T.q_NoCompartment_NoDeeds
  · exact T.q_TooMany_NoDeeds
  · exact T.q_NoName_NoDeeds
  · exact T.q_Sweeping_NoDeeds
  · exact T.q_NoSweep_NoDeeds
theorem kq_NoDeeds_x (T : Txt w K mg C A fd) : ∀ n b, kq_NoDeeds (.inr n) = some b → ExcC K (C n) := by
  intro n b h
  unfold kq_NoDeeds at h
  split at h
  · rename_i e; cases e; exact T.E_ReachError
  · rename_i e; cases e; exact T.E_NoFields
  · rename_i e; cases e; exact T.E_NoBounds
  · rename_i e; cases e; exact T.E_NoOffset
  · rename_i e; cases e; exact T.E_NoAddress
  · rename_i e; cases e; exact T.E_NoWord
  · rename_i e; cases e; exact T.E_NoHands
  · rename_i e; cases e; exact T.E_NoRule
  · rename_i e; cases e; exact T.E_NoNumber
  · rename_i e; cases e; exact T.E_NoLine
  · rename_i e; cases e; exact T.E_Fault
  · rename_i e; cases e; exact T.E_NoRows
  · rename_i e; cases e; exact T.E_NoText
  · rename_i e; cases e; exact T.E_NoDeeds
  · rename_i e; cases e; exact T.E_NoCompartment
  · rename_i e; cases e; exact T.E_TooMany
  · rename_i e; cases e; exact T.E_NoName
  · rename_i e; cases e; exact T.E_Sweeping
  · rename_i e; cases e; exact T.E_NoSweep
  · cases h
theorem kq_NoFields_h (T : Txt w K mg C A fd) : ∀ k b, kq_NoFields k = some b → PySem.W.kitOne K (tkV C k) (.ref (C 1)) = some b := by
  intro k b h
  unfold kq_NoFields at h
  split at h <;> cases h
  · exact T.q_ReachError_NoFields
  · exact T.q_NoFields_NoFields
  · exact T.q_NoBounds_NoFields
  · exact T.q_NoOffset_NoFields
  · exact T.q_NoAddress_NoFields
  · exact T.q_NoWord_NoFields
  · exact T.q_NoHands_NoFields
  · exact T.q_NoRule_NoFields
  · exact T.q_NoNumber_NoFields
  · exact T.q_NoLine_NoFields
  · exact T.q_Fault_NoFields
  · exact T.q_NoRows_NoFields
  · exact T.q_NoText_NoFields
  · exact T.q_NoDeeds_NoFields
  · exact T.q_NoCompartment_NoFields
  · exact T.q_TooMany_NoFields
  · exact T.q_NoName_NoFields
  · exact T.q_Sweeping_NoFields
  · exact T.q_NoSweep_NoFields
theorem kq_NoFields_x (T : Txt w K mg C A fd) : ∀ n b, kq_NoFields (.inr n) = some b → ExcC K (C n) := by
  intro n b h
  unfold kq_NoFields at h
  split at h
  · rename_i e; cases e; exact T.E_ReachError
  · rename_i e; cases e; exact T.E_NoFields
  · rename_i e; cases e; exact T.E_NoBounds
  · rename_i e; cases e; exact T.E_NoOffset
  · rename_i e; cases e; exact T.E_NoAddress
  · rename_i e; cases e; exact T.E_NoWord
  · rename_i e; cases e; exact T.E_NoHands
  · rename_i e; cases e; exact T.E_NoRule
  · rename_i e; cases e; exact T.E_NoNumber
  · rename_i e; cases e; exact T.E_NoLine
  · rename_i e; cases e; exact T.E_Fault
  · rename_i e; cases e; exact T.E_NoRows
  · rename_i e; cases e; exact T.E_NoText
  · rename_i e; cases e; exact T.E_NoDeeds
  · rename_i e; cases e; exact T.E_NoCompartment
  · rename_i e; cases e; exact T.E_TooMany
  · rename_i e; cases e; exact T.E_NoName
  · rename_i e; cases e; exact T.E_Sweeping
  · rename_i e; cases e; exact T.E_NoSweep
  · cases h
theorem kq_NoHands_h (T : Txt w K mg C A fd) : ∀ k b, kq_NoHands k = some b → PySem.W.kitOne K (tkV C k) (.ref (C 6)) = some b := by
  intro k b h
  unfold kq_NoHands at h
  split at h <;> cases h
  · exact T.q_ReachError_NoHands
  · exact T.q_NoFields_NoHands
  · exact T.q_NoBounds_NoHands
  · exact T.q_NoOffset_NoHands
  · exact T.q_NoAddress_NoHands
  · exact T.q_NoWord_NoHands
  · exact T.q_NoHands_NoHands
  · exact T.q_NoRule_NoHands
  · exact T.q_NoNumber_NoHands
  · exact T.q_NoLine_NoHands
  · exact T.q_Fault_NoHands
  · exact T.q_NoRows_NoHands
  · exact T.q_NoText_NoHands
  · exact T.q_NoDeeds_NoHands
  · exact T.q_NoCompartment_NoHands
  · exact T.q_TooMany_NoHands
  · exact T.q_NoName_NoHands
  · exact T.q_Sweeping_NoHands
  · exact T.q_NoSweep_NoHands
theorem kq_NoHands_x (T : Txt w K mg C A fd) : ∀ n b, kq_NoHands (.inr n) = some b → ExcC K (C n) := by
  intro n b h
  unfold kq_NoHands at h
  split at h
  · rename_i e; cases e; exact T.E_ReachError
  · rename_i e; cases e; exact T.E_NoFields
  · rename_i e; cases e; exact T.E_NoBounds
  · rename_i e; cases e; exact T.E_NoOffset
  · rename_i e; cases e; exact T.E_NoAddress
  · rename_i e; cases e; exact T.E_NoWord
  · rename_i e; cases e; exact T.E_NoHands
  · rename_i e; cases e; exact T.E_NoRule
  · rename_i e; cases e; exact T.E_NoNumber
  · rename_i e; cases e; exact T.E_NoLine
  · rename_i e; cases e; exact T.E_Fault
  · rename_i e; cases e; exact T.E_NoRows
  · rename_i e; cases e; exact T.E_NoText
  · rename_i e; cases e; exact T.E_NoDeeds
  · rename_i e; cases e; exact T.E_NoCompartment
  · rename_i e; cases e; exact T.E_TooMany
  · rename_i e; cases e; exact T.E_NoName
  · rename_i e; cases e; exact T.E_Sweeping
  · rename_i e; cases e; exact T.E_NoSweep
  · cases h
theorem kq_NoLine_h (T : Txt w K mg C A fd) : ∀ k b, kq_NoLine k = some b → PySem.W.kitOne K (tkV C k) (.ref (C 9)) = some b := by
  intro k b h
  unfold kq_NoLine at h
  split at h <;> cases h
  · exact T.q_ReachError_NoLine
  · exact T.q_NoFields_NoLine
  · exact T.q_NoBounds_NoLine
  · exact T.q_NoOffset_NoLine
  · exact T.q_NoAddress_NoLine
  · exact T.q_NoWord_NoLine
  · exact T.q_NoHands_NoLine
  · exact T.q_NoRule_NoLine
  · exact T.q_NoNumber_NoLine
  · exact T.q_NoLine_NoLine
  · exact T.q_Fault_NoLine
  · exact T.q_NoRows_NoLine
  · exact T.q_NoText_NoLine
  · exact T.q_NoDeeds_NoLine
  · exact T.q_NoCompartment_NoLine
  · exact T.q_TooMany_NoLine
  · exact T.q_NoName_NoLine
  · exact T.q_Sweeping_NoLine
  · exact T.q_NoSweep_NoLine
theorem kq_NoLine_x (T : Txt w K mg C A fd) : ∀ n b, kq_NoLine (.inr n) = some b → ExcC K (C n) := by
  intro n b h
  unfold kq_NoLine at h
  split at h
  · rename_i e; cases e; exact T.E_ReachError
  · rename_i e; cases e; exact T.E_NoFields
  · rename_i e; cases e; exact T.E_NoBounds
  · rename_i e; cases e; exact T.E_NoOffset
  · rename_i e; cases e; exact T.E_NoAddress
  · rename_i e; cases e; exact T.E_NoWord
  · rename_i e; cases e; exact T.E_NoHands
  · rename_i e; cases e; exact T.E_NoRule
  · rename_i e; cases e; exact T.E_NoNumber
  · rename_i e; cases e; exact T.E_NoLine
  · rename_i e; cases e; exact T.E_Fault
  · rename_i e; cases e; exact T.E_NoRows
  · rename_i e; cases e; exact T.E_NoText
  · rename_i e; cases e; exact T.E_NoDeeds
  · rename_i e; cases e; exact T.E_NoCompartment
  · rename_i e; cases e; exact T.E_TooMany
  · rename_i e; cases e; exact T.E_NoName
  · rename_i e; cases e; exact T.E_Sweeping
  · rename_i e; cases e; exact T.E_NoSweep
  · cases h
theorem kq_NoName_h (T : Txt w K mg C A fd) : ∀ k b, kq_NoName k = some b → PySem.W.kitOne K (tkV C k) (.ref (C 16)) = some b := by
  intro k b h
  unfold kq_NoName at h
  split at h <;> cases h
  · exact T.q_ReachError_NoName
  · exact T.q_NoFields_NoName
  · exact T.q_NoBounds_NoName
  · exact T.q_NoOffset_NoName
  · exact T.q_NoAddress_NoName
  · exact T.q_NoWord_NoName
  · exact T.q_NoHands_NoName
  · exact T.q_NoRule_NoName
  · exact T.q_NoNumber_NoName
  · exact T.q_NoLine_NoName
  · exact T.q_Fault_NoName
  · exact T.q_NoRows_NoName
  · exact T.q_NoText_NoName
  · exact T.q_NoDeeds_NoName
  · exact T.q_NoCompartment_NoName
  · exact T.q_TooMany_NoName
  · exact T.q_NoName_NoName
  · exact T.q_Sweeping_NoName
  · exact T.q_NoSweep_NoName
theorem kq_NoName_x (T : Txt w K mg C A fd) : ∀ n b, kq_NoName (.inr n) = some b → ExcC K (C n) := by
  intro n b h
  unfold kq_NoName at h
  split at h
  · rename_i e; cases e; exact T.E_ReachError
  · rename_i e; cases e; exact T.E_NoFields
  · rename_i e; cases e; exact T.E_NoBounds
  · rename_i e; cases e; exact T.E_NoOffset
  · rename_i e; cases e; exact T.E_NoAddress
  · rename_i e; cases e; exact T.E_NoWord
  · rename_i e; cases e; exact T.E_NoHands
  · rename_i e; cases e; exact T.E_NoRule
  · rename_i e; cases e; exact T.E_NoNumber
  · rename_i e; cases e; exact T.E_NoLine
  · rename_i e; cases e; exact T.E_Fault
  · rename_i e; cases e; exact T.E_NoRows
  · rename_i e; cases e; exact T.E_NoText
  · rename_i e; cases e; exact T.E_NoDeeds
  · rename_i e; cases e; exact T.E_NoCompartment
  · rename_i e; cases e; exact T.E_TooMany
  · rename_i e; cases e; exact T.E_NoName
  · rename_i e; cases e; exact T.E_Sweeping
  · rename_i e; cases e; exact T.E_NoSweep
  · cases h
theorem kq_NoNumber_h (T : Txt w K mg C A fd) : ∀ k b, kq_NoNumber k = some b → PySem.W.kitOne K (tkV C k) (.ref (C 8)) = some b := by
  intro k b h
  unfold kq_NoNumber at h
  split at h <;> cases h
  · exact T.q_ReachError_NoNumber
  · exact T.q_NoFields_NoNumber
  · exact T.q_NoBounds_NoNumber
  · exact T.q_NoOffset_NoNumber
  · exact T.q_NoAddress_NoNumber
  · exact T.q_NoWord_NoNumber
  · exact T.q_NoHands_NoNumber
  · exact T.q_NoRule_NoNumber
  · exact T.q_NoNumber_NoNumber
  · exact T.q_NoLine_NoNumber
  · exact T.q_Fault_NoNumber
  · exact T.q_NoRows_NoNumber
  · exact T.q_NoText_NoNumber
  · exact T.q_NoDeeds_NoNumber
  · exact T.q_NoCompartment_NoNumber
  · exact T.q_TooMany_NoNumber
  · exact T.q_NoName_NoNumber
  · exact T.q_Sweeping_NoNumber
  · exact T.q_NoSweep_NoNumber
theorem kq_NoNumber_x (T : Txt w K mg C A fd) : ∀ n b, kq_NoNumber (.inr n) = some b → ExcC K (C n) := by
  intro n b h
  unfold kq_NoNumber at h
  split at h
  · rename_i e; cases e; exact T.E_ReachError
  · rename_i e; cases e; exact T.E_NoFields
  · rename_i e; cases e; exact T.E_NoBounds
  · rename_i e; cases e; exact T.E_NoOffset
  · rename_i e; cases e; exact T.E_NoAddress
  · rename_i e; cases e; exact T.E_NoWord
  · rename_i e; cases e; exact T.E_NoHands
  · rename_i e; cases e; exact T.E_NoRule
  · rename_i e; cases e; exact T.E_NoNumber
  · rename_i e; cases e; exact T.E_NoLine
  · rename_i e; cases e; exact T.E_Fault
  · rename_i e; cases e; exact T.E_NoRows
  · rename_i e; cases e; exact T.E_NoText
  · rename_i e; cases e; exact T.E_NoDeeds
  · rename_i e; cases e; exact T.E_NoCompartment
  · rename_i e; cases e; exact T.E_TooMany
  · rename_i e; cases e; exact T.E_NoName
  · rename_i e; cases e; exact T.E_Sweeping
  · rename_i e; cases e; exact T.E_NoSweep
  · cases h
theorem kq_NoOffset_h (T : Txt w K mg C A fd) : ∀ k b, kq_NoOffset k = some b → PySem.W.kitOne K (tkV C k) (.ref (C 3)) = some b := by
  intro k b h
  unfold kq_NoOffset at h
  split at h <;> cases h
  · exact T.q_ReachError_NoOffset
  · exact T.q_NoFields_NoOffset
  · exact T.q_NoBounds_NoOffset
  · exact T.q_NoOffset_NoOffset
  · exact T.q_NoAddress_NoOffset
  · exact T.q_NoWord_NoOffset
  · exact T.q_NoHands_NoOffset
  · exact T.q_NoRule_NoOffset
  · exact T.q_NoNumber_NoOffset
  · exact T.q_NoLine_NoOffset
  · exact T.q_Fault_NoOffset
  · exact T.q_NoRows_NoOffset
  · exact T.q_NoText_NoOffset
  · exact T.q_NoDeeds_NoOffset
  · exact T.q_NoCompartment_NoOffset
  · exact T.q_TooMany_NoOffset
  · exact T.q_NoName_NoOffset
  · exact T.q_Sweeping_NoOffset
  · exact T.q_NoSweep_NoOffset
theorem kq_NoOffset_x (T : Txt w K mg C A fd) : ∀ n b, kq_NoOffset (.inr n) = some b → ExcC K (C n) := by
  intro n b h
  unfold kq_NoOffset at h
  split at h
  · rename_i e; cases e; exact T.E_ReachError
  · rename_i e; cases e; exact T.E_NoFields
  · rename_i e; cases e; exact T.E_NoBounds
  · rename_i e; cases e; exact T.E_NoOffset
  · rename_i e; cases e; exact T.E_NoAddress
  · rename_i e; cases e; exact T.E_NoWord
  · rename_i e; cases e; exact T.E_NoHands
  · rename_i e; cases e; exact T.E_NoRule
  · rename_i e; cases e; exact T.E_NoNumber
  · rename_i e; cases e; exact T.E_NoLine
  · rename_i e; cases e; exact T.E_Fault
  · rename_i e; cases e; exact T.E_NoRows
  · rename_i e; cases e; exact T.E_NoText
  · rename_i e; cases e; exact T.E_NoDeeds
  · rename_i e; cases e; exact T.E_NoCompartment
  · rename_i e; cases e; exact T.E_TooMany
  · rename_i e; cases e; exact T.E_NoName
  · rename_i e; cases e; exact T.E_Sweeping
  · rename_i e; cases e; exact T.E_NoSweep
  · cases h
theorem kq_NoRows_h (T : Txt w K mg C A fd) : ∀ k b, kq_NoRows k = some b → PySem.W.kitOne K (tkV C k) (.ref (C 11)) = some b := by
  intro k b h
  unfold kq_NoRows at h
  split at h <;> cases h
  · exact T.q_ReachError_NoRows
  · exact T.q_NoFields_NoRows
  · exact T.q_NoBounds_NoRows
  · exact T.q_NoOffset_NoRows
  · exact T.q_NoAddress_NoRows
  · exact T.q_NoWord_NoRows
  · exact T.q_NoHands_NoRows
  · exact T.q_NoRule_NoRows
  · exact T.q_NoNumber_NoRows
  · exact T.q_NoLine_NoRows
  · exact T.q_Fault_NoRows
  · exact T.q_NoRows_NoRows
  · exact T.q_NoText_NoRows
  · exact T.q_NoDeeds_NoRows
  · exact T.q_NoCompartment_NoRows
  · exact T.q_TooMany_NoRows
  · exact T.q_NoName_NoRows
  · exact T.q_Sweeping_NoRows
  · exact T.q_NoSweep_NoRows
theorem kq_NoRows_x (T : Txt w K mg C A fd) : ∀ n b, kq_NoRows (.inr n) = some b → ExcC K (C n) := by
  intro n b h
  unfold kq_NoRows at h
  split at h
  · rename_i e; cases e; exact T.E_ReachError
  · rename_i e; cases e; exact T.E_NoFields
  · rename_i e; cases e; exact T.E_NoBounds
  · rename_i e; cases e; exact T.E_NoOffset
  · rename_i e; cases e; exact T.E_NoAddress
  · rename_i e; cases e; exact T.E_NoWord
  · rename_i e; cases e; exact T.E_NoHands
  · rename_i e; cases e; exact T.E_NoRule
  · rename_i e; cases e; exact T.E_NoNumber
  · rename_i e; cases e; exact T.E_NoLine
  · rename_i e; cases e; exact T.E_Fault
  · rename_i e; cases e; exact T.E_NoRows
  · rename_i e; cases e; exact T.E_NoText
  · rename_i e; cases e; exact T.E_NoDeeds
  · rename_i e; cases e; exact T.E_NoCompartment
  · rename_i e; cases e; exact T.E_TooMany
  · rename_i e; cases e; exact T.E_NoName
  · rename_i e; cases e; exact T.E_Sweeping
  · rename_i e; cases e; exact T.E_NoSweep
  · cases h
theorem kq_NoRule_h (T : Txt w K mg C A fd) : ∀ k b, kq_NoRule k = some b → PySem.W.kitOne K (tkV C k) (.ref (C 7)) = some b := by
  intro k b h
  unfold kq_NoRule at h
  split at h <;> cases h
  · exact T.q_ReachError_NoRule
  · exact T.q_NoFields_NoRule
  · exact T.q_NoBounds_NoRule
  · exact T.q_NoOffset_NoRule
  · exact T.q_NoAddress_NoRule
  · exact T.q_NoWord_NoRule
  · exact T.q_NoHands_NoRule
  · exact T.q_NoRule_NoRule
  · exact T.q_NoNumber_NoRule
  · exact T.q_NoLine_NoRule
  · exact T.q_Fault_NoRule
  · exact T.q_NoRows_NoRule
  · exact T.q_NoText_NoRule
  · exact T.q_NoDeeds_NoRule
  · exact T.q_NoCompartment_NoRule
  · exact T.q_TooMany_NoRule
  · exact T.q_NoName_NoRule
  · exact T.q_Sweeping_NoRule
  · exact T.q_NoSweep_NoRule
theorem kq_NoRule_x (T : Txt w K mg C A fd) : ∀ n b, kq_NoRule (.inr n) = some b → ExcC K (C n) := by
  intro n b h
  unfold kq_NoRule at h
  split at h
  · rename_i e; cases e; exact T.E_ReachError
  · rename_i e; cases e; exact T.E_NoFields
  · rename_i e; cases e; exact T.E_NoBounds
  · rename_i e; cases e; exact T.E_NoOffset
  · rename_i e; cases e; exact T.E_NoAddress
  · rename_i e; cases e; exact T.E_NoWord
  · rename_i e; cases e; exact T.E_NoHands
  · rename_i e; cases e; exact T.E_NoRule
  · rename_i e; cases e; exact T.E_NoNumber
  · rename_i e; cases e; exact T.E_NoLine
  · rename_i e; cases e; exact T.E_Fault
  · rename_i e; cases e; exact T.E_NoRows
  · rename_i e; cases e; exact T.E_NoText
  · rename_i e; cases e; exact T.E_NoDeeds
  · rename_i e; cases e; exact T.E_NoCompartment
  · rename_i e; cases e; exact T.E_TooMany
  · rename_i e; cases e; exact T.E_NoName
  · rename_i e; cases e; exact T.E_Sweeping
  · rename_i e; cases e; exact T.E_NoSweep
  · cases h
theorem kq_NoSweep_h (T : Txt w K mg C A fd) : ∀ k b, kq_NoSweep k = some b → PySem.W.kitOne K (tkV C k) (.ref (C 18)) = some b := by
  intro k b h
  unfold kq_NoSweep at h
  split at h <;> cases h
  · exact T.q_ReachError_NoSweep
  · exact T.q_NoFields_NoSweep
  · exact T.q_NoBounds_NoSweep
  · exact T.q_NoOffset_NoSweep
  · exact T.q_NoAddress_NoSweep
  · exact T.q_NoWord_NoSweep
  · exact T.q_NoHands_NoSweep
  · exact T.q_NoRule_NoSweep
  · exact T.q_NoNumber_NoSweep
  · exact T.q_NoLine_NoSweep
  · exact T.q_Fault_NoSweep
  · exact T.q_NoRows_NoSweep
  · exact T.q_NoText_NoSweep
  · exact T.q_NoDeeds_NoSweep
  · exact T.q_NoCompartment_NoSweep
  · exact T.q_TooMany_NoSweep
  · exact T.q_NoName_NoSweep
  · exact T.q_Sweeping_NoSweep
  · exact T.q_NoSweep_NoSweep
theorem kq_NoSweep_x (T : Txt w K mg C A fd) : ∀ n b, kq_NoSweep (.inr n) = some b → ExcC K (C n) := by
  intro n b h
  unfold kq_NoSweep at h
  split at h
  · rename_i e; cases e; exact T.E_ReachError
  · rename_i e; cases e; exact T.E_NoFields
  · rename_i e; cases e; exact T.E_NoBounds
  · rename_i e; cases e; exact T.E_NoOffset
  · rename_i e; cases e; exact T.E_NoAddress
  · rename_i e; cases e; exact T.E_NoWord
  · rename_i e; cases e; exact T.E_NoHands
  · rename_i e; cases e; exact T.E_NoRule
  · rename_i e; cases e; exact T.E_NoNumber
  · rename_i e; cases e; exact T.E_NoLine
  · rename_i e; cases e; exact T.E_Fault
  · rename_i e; cases e; exact T.E_NoRows
  · rename_i e; cases e; exact T.E_NoText
  · rename_i e; cases e; exact T.E_NoDeeds
  · rename_i e; cases e; exact T.E_NoCompartment
  · rename_i e; cases e; exact T.E_TooMany
  · rename_i e; cases e; exact T.E_NoName
  · rename_i e; cases e; exact T.E_Sweeping
  · rename_i e; cases e; exact T.E_NoSweep
  · cases h
theorem kq_NoText_h (T : Txt w K mg C A fd) : ∀ k b, kq_NoText k = some b → PySem.W.kitOne K (tkV C k) (.ref (C 12)) = some b := by
  intro k b h
  unfold kq_NoText at h
  split at h <;> cases h
  · exact T.q_ReachError_NoText
  · exact T.q_NoFields_NoText
  · exact T.q_NoBounds_NoText
  · exact T.q_NoOffset_NoText
  · exact T.q_NoAddress_NoText
  · exact T.q_NoWord_NoText
  · exact T.q_NoHands_NoText
  · exact T.q_NoRule_NoText
  · exact T.q_NoNumber_NoText
  · exact T.q_NoLine_NoText
  · exact T.q_Fault_NoText
  · exact T.q_NoRows_NoText
  · exact T.q_NoText_NoText
  · exact T.q_NoDeeds_NoText
  · exact T.q_NoCompartment_NoText
  · exact T.q_TooMany_NoText
  · exact T.q_NoName_NoText
  · exact T.q_Sweeping_NoText
  · exact T.q_NoSweep_NoText
theorem kq_NoText_x (T : Txt w K mg C A fd) : ∀ n b, kq_NoText (.inr n) = some b → ExcC K (C n) := by
  intro n b h
  unfold kq_NoText at h
  split at h
  · rename_i e; cases e; exact T.E_ReachError
  · rename_i e; cases e; exact T.E_NoFields
  · rename_i e; cases e; exact T.E_NoBounds
  · rename_i e; cases e; exact T.E_NoOffset
  · rename_i e; cases e; exact T.E_NoAddress
  · rename_i e; cases e; exact T.E_NoWord
  · rename_i e; cases e; exact T.E_NoHands
  · rename_i e; cases e; exact T.E_NoRule
  · rename_i e; cases e; exact T.E_NoNumber
  · rename_i e; cases e; exact T.E_NoLine
  · rename_i e; cases e; exact T.E_Fault
  · rename_i e; cases e; exact T.E_NoRows
  · rename_i e; cases e; exact T.E_NoText
  · rename_i e; cases e; exact T.E_NoDeeds
  · rename_i e; cases e; exact T.E_NoCompartment
  · rename_i e; cases e; exact T.E_TooMany
  · rename_i e; cases e; exact T.E_NoName
  · rename_i e; cases e; exact T.E_Sweeping
  · rename_i e; cases e; exact T.E_NoSweep
  · cases h
theorem kq_NoWord_h (T : Txt w K mg C A fd) : ∀ k b, kq_NoWord k = some b → PySem.W.kitOne K (tkV C k) (.ref (C 5)) = some b := by
  intro k b h
  unfold kq_NoWord at h
  split at h <;> cases h
  · exact T.q_ReachError_NoWord
  · exact T.q_NoFields_NoWord
  · exact T.q_NoBounds_NoWord
  · exact T.q_NoOffset_NoWord
  · exact T.q_NoAddress_NoWord
  · exact T.q_NoWord_NoWord
  · exact T.q_NoHands_NoWord
  · exact T.q_NoRule_NoWord
  · exact T.q_NoNumber_NoWord
  · exact T.q_NoLine_NoWord
  · exact T.q_Fault_NoWord
  · exact T.q_NoRows_NoWord
  · exact T.q_NoText_NoWord
  · exact T.q_NoDeeds_NoWord
  · exact T.q_NoCompartment_NoWord
  · exact T.q_TooMany_NoWord
  · exact T.q_NoName_NoWord
  · exact T.q_Sweeping_NoWord
  · exact T.q_NoSweep_NoWord
theorem kq_NoWord_x (T : Txt w K mg C A fd) : ∀ n b, kq_NoWord (.inr n) = some b → ExcC K (C n) := by
  intro n b h
  unfold kq_NoWord at h
  split at h
  · rename_i e; cases e; exact T.E_ReachError
  · rename_i e; cases e; exact T.E_NoFields
  · rename_i e; cases e; exact T.E_NoBounds
  · rename_i e; cases e; exact T.E_NoOffset
  · rename_i e; cases e; exact T.E_NoAddress
  · rename_i e; cases e; exact T.E_NoWord
  · rename_i e; cases e; exact T.E_NoHands
  · rename_i e; cases e; exact T.E_NoRule
  · rename_i e; cases e; exact T.E_NoNumber
  · rename_i e; cases e; exact T.E_NoLine
  · rename_i e; cases e; exact T.E_Fault
  · rename_i e; cases e; exact T.E_NoRows
  · rename_i e; cases e; exact T.E_NoText
  · rename_i e; cases e; exact T.E_NoDeeds
  · rename_i e; cases e; exact T.E_NoCompartment
  · rename_i e; cases e; exact T.E_TooMany
  · rename_i e; cases e; exact T.E_NoName
  · rename_i e; cases e; exact T.E_Sweeping
  · rename_i e; cases e; exact T.E_NoSweep
  · cases h
theorem kq_OverflowError_h (T : Txt w K mg C A fd) : ∀ k b, kq_OverflowError k = some b → PySem.W.kitOne K (tkV C k) (.type "OverflowError") = some b := by
  intro k b h
  unfold kq_OverflowError at h
  split at h <;> cases h
  · exact T.q_ReachError_OverflowError
  · exact T.q_NoFields_OverflowError
  · exact T.q_NoBounds_OverflowError
  · exact T.q_NoOffset_OverflowError
  · exact T.q_NoAddress_OverflowError
  · exact T.q_NoWord_OverflowError
  · exact T.q_NoHands_OverflowError
  · exact T.q_NoRule_OverflowError
  · exact T.q_NoNumber_OverflowError
  · exact T.q_NoLine_OverflowError
  · exact T.q_Fault_OverflowError
  · exact T.q_NoRows_OverflowError
  · exact T.q_NoText_OverflowError
  · exact T.q_NoDeeds_OverflowError
  · exact T.q_NoCompartment_OverflowError
  · exact T.q_TooMany_OverflowError
  · exact T.q_NoName_OverflowError
  · exact T.q_Sweeping_OverflowError
  · exact T.q_NoSweep_OverflowError
theorem kq_OverflowError_x (T : Txt w K mg C A fd) : ∀ n b, kq_OverflowError (.inr n) = some b → ExcC K (C n) := by
  intro n b h
  unfold kq_OverflowError at h
  split at h
  · rename_i e; cases e; exact T.E_ReachError
  · rename_i e; cases e; exact T.E_NoFields
  · rename_i e; cases e; exact T.E_NoBounds
  · rename_i e; cases e; exact T.E_NoOffset
  · rename_i e; cases e; exact T.E_NoAddress
  · rename_i e; cases e; exact T.E_NoWord
  · rename_i e; cases e; exact T.E_NoHands
  · rename_i e; cases e; exact T.E_NoRule
  · rename_i e; cases e; exact T.E_NoNumber
  · rename_i e; cases e; exact T.E_NoLine
  · rename_i e; cases e; exact T.E_Fault
  · rename_i e; cases e; exact T.E_NoRows
  · rename_i e; cases e; exact T.E_NoText
  · rename_i e; cases e; exact T.E_NoDeeds
  · rename_i e; cases e; exact T.E_NoCompartment
  · rename_i e; cases e; exact T.E_TooMany
  · rename_i e; cases e; exact T.E_NoName
  · rename_i e; cases e; exact T.E_Sweeping
  · rename_i e; cases e; exact T.E_NoSweep
  · cases h
theorem kq_ReachError_h (T : Txt w K mg C A fd) : ∀ k b, kq_ReachError k = some b → PySem.W.kitOne K (tkV C k) (.ref (C 0)) = some b := by
  intro k b h
  unfold kq_ReachError at h
  split at h <;> cases h
  · exact T.q_ReachError_ReachError
  · exact T.q_NoFields_ReachError
  · exact T.q_NoBounds_ReachError
  · exact T.q_NoOffset_ReachError
  · exact T.q_NoAddress_ReachError
  · exact T.q_NoWord_ReachError
  · exact T.q_NoHands_ReachError
  · exact T.q_NoRule_ReachError
  · exact T.q_NoNumber_ReachError
  · exact T.q_NoLine_ReachError
  · exact T.q_Fault_ReachError
  · exact T.q_NoRows_ReachError
  · exact T.q_NoText_ReachError
  · exact T.q_NoDeeds_ReachError
  · exact T.q_NoCompartment_ReachError
  · exact T.q_TooMany_ReachError
  · exact T.q_NoName_ReachError
  · exact T.q_Sweeping_ReachError
  · exact T.q_NoSweep_ReachError
theorem kq_ReachError_x (T : Txt w K mg C A fd) : ∀ n b, kq_ReachError (.inr n) = some b → ExcC K (C n) := by
  intro n b h
  unfold kq_ReachError at h
  split at h
  · rename_i e; cases e; exact T.E_ReachError
  · rename_i e; cases e; exact T.E_NoFields
  · rename_i e; cases e; exact T.E_NoBounds
  · rename_i e; cases e; exact T.E_NoOffset
  · rename_i e; cases e; exact T.E_NoAddress
  · rename_i e; cases e; exact T.E_NoWord
  · rename_i e; cases e; exact T.E_NoHands
  · rename_i e; cases e; exact T.E_NoRule
  · rename_i e; cases e; exact T.E_NoNumber
  · rename_i e; cases e; exact T.E_NoLine
  · rename_i e; cases e; exact T.E_Fault
  · rename_i e; cases e; exact T.E_NoRows
  · rename_i e; cases e; exact T.E_NoText
  · rename_i e; cases e; exact T.E_NoDeeds
  · rename_i e; cases e; exact T.E_NoCompartment
  · rename_i e; cases e; exact T.E_TooMany
  · rename_i e; cases e; exact T.E_NoName
  · rename_i e; cases e; exact T.E_Sweeping
  · rename_i e; cases e; exact T.E_NoSweep
  · cases h
theorem kq_RuntimeError_h (T : Txt w K mg C A fd) : ∀ k b, kq_RuntimeError k = some b → PySem.W.kitOne K (tkV C k) (.type "RuntimeError") = some b := by
  intro k b h
  unfold kq_RuntimeError at h
  split at h <;> cases h
  · exact T.q_ReachError_RuntimeError
  · exact T.q_NoFields_RuntimeError
  · exact T.q_NoBounds_RuntimeError
  · exact T.q_NoOffset_RuntimeError
  · exact T.q_NoAddress_RuntimeError
  · exact T.q_NoWord_RuntimeError
  · exact T.q_NoHands_RuntimeError
  · exact T.q_NoRule_RuntimeError
  · exact T.q_NoNumber_RuntimeError
  · exact T.q_NoLine_RuntimeError
  · exact T.q_Fault_RuntimeError
  · exact T.q_NoRows_RuntimeError
  · exact T.q_NoText_RuntimeError
  · exact T.q_NoDeeds_RuntimeError
  · exact T.q_NoCompartment_RuntimeError
  · exact T.q_TooMany_RuntimeError
  · exact T.q_NoName_RuntimeError
  · exact T.q_Sweeping_RuntimeError
  · exact T.q_NoSweep_RuntimeError
theorem kq_RuntimeError_x (T : Txt w K mg C A fd) : ∀ n b, kq_RuntimeError (.inr n) = some b → ExcC K (C n) := by
  intro n b h
  unfold kq_RuntimeError at h
  split at h
  · rename_i e; cases e; exact T.E_ReachError
  · rename_i e; cases e; exact T.E_NoFields
  · rename_i e; cases e; exact T.E_NoBounds
  · rename_i e; cases e; exact T.E_NoOffset
  · rename_i e; cases e; exact T.E_NoAddress
  · rename_i e; cases e; exact T.E_NoWord
  · rename_i e; cases e; exact T.E_NoHands
  · rename_i e; cases e; exact T.E_NoRule
  · rename_i e; cases e; exact T.E_NoNumber
  · rename_i e; cases e; exact T.E_NoLine
  · rename_i e; cases e; exact T.E_Fault
  · rename_i e; cases e; exact T.E_NoRows
  · rename_i e; cases e; exact T.E_NoText
  · rename_i e; cases e; exact T.E_NoDeeds
  · rename_i e; cases e; exact T.E_NoCompartment
  · rename_i e; cases e; exact T.E_TooMany
  · rename_i e; cases e; exact T.E_NoName
  · rename_i e; cases e; exact T.E_Sweeping
  · rename_i e; cases e; exact T.E_NoSweep
  · cases h
theorem kq_Sweeping_h (T : Txt w K mg C A fd) : ∀ k b, kq_Sweeping k = some b → PySem.W.kitOne K (tkV C k) (.ref (C 17)) = some b := by
  intro k b h
  unfold kq_Sweeping at h
  split at h <;> cases h
  · exact T.q_ReachError_Sweeping
  · exact T.q_NoFields_Sweeping
  · exact T.q_NoBounds_Sweeping
  · exact T.q_NoOffset_Sweeping
  · exact T.q_NoAddress_Sweeping
  · exact T.q_NoWord_Sweeping
  · exact T.q_NoHands_Sweeping
  · exact T.q_NoRule_Sweeping
  · exact T.q_NoNumber_Sweeping
  · exact T.q_NoLine_Sweeping
  · exact T.q_Fault_Sweeping
  · exact T.q_NoRows_Sweeping
  · exact T.q_NoText_Sweeping
  · exact T.q_NoDeeds_Sweeping
  · exact T.q_NoCompartment_Sweeping
  · exact T.q_TooMany_Sweeping
  · exact T.q_NoName_Sweeping
  · exact T.q_Sweeping_Sweeping
  · exact T.q_NoSweep_Sweeping
theorem kq_Sweeping_x (T : Txt w K mg C A fd) : ∀ n b, kq_Sweeping (.inr n) = some b → ExcC K (C n) := by
  intro n b h
  unfold kq_Sweeping at h
  split at h
  · rename_i e; cases e; exact T.E_ReachError
  · rename_i e; cases e; exact T.E_NoFields
  · rename_i e; cases e; exact T.E_NoBounds
  · rename_i e; cases e; exact T.E_NoOffset
  · rename_i e; cases e; exact T.E_NoAddress
  · rename_i e; cases e; exact T.E_NoWord
  · rename_i e; cases e; exact T.E_NoHands
  · rename_i e; cases e; exact T.E_NoRule
  · rename_i e; cases e; exact T.E_NoNumber
  · rename_i e; cases e; exact T.E_NoLine
  · rename_i e; cases e; exact T.E_Fault
  · rename_i e; cases e; exact T.E_NoRows
  · rename_i e; cases e; exact T.E_NoText
  · rename_i e; cases e; exact T.E_NoDeeds
  · rename_i e; cases e; exact T.E_NoCompartment
  · rename_i e; cases e; exact T.E_TooMany
  · rename_i e; cases e; exact T.E_NoName
  · rename_i e; cases e; exact T.E_Sweeping
  · rename_i e; cases e; exact T.E_NoSweep
  · cases h
theorem kq_TooMany_h (T : Txt w K mg C A fd) : ∀ k b, kq_TooMany k = some b → PySem.W.kitOne K (tkV C k) (.ref (C 15)) = some b := by
  intro k b h
  unfold kq_TooMany at h
  split at h <;> cases h
  · exact T.q_ReachError_TooMany
  · exact T.q_NoFields_TooMany
  · exact T.q_NoBounds_TooMany
  · exact T.q_NoOffset_TooMany
  · exact T.q_NoAddress_TooMany
  · exact T.q_NoWord_TooMany
  · exact T.q_NoHands_TooMany
  · exact T.q_NoRule_TooMany
  · exact T.q_NoNumber_TooMany
  · exact T.q_NoLine_TooMany
  · exact T.q_Fault_TooMany
  · exact T.q_NoRows_TooMany
  · exact T.q_NoText_TooMany
  · exact T.q_NoDeeds_TooMany
  · exact T.q_NoCompartment_TooMany
  · exact T.q_TooMany_TooMany
  · exact T.q_NoName_TooMany
  · exact T.q_Sweeping_TooMany
  · exact T.q_NoSweep_TooMany
theorem kq_TooMany_x (T : Txt w K mg C A fd) : ∀ n b, kq_TooMany (.inr n) = some b → ExcC K (C n) := by
  intro n b h
  unfold kq_TooMany at h
  split at h
  · rename_i e; cases e; exact T.E_ReachError
  · rename_i e; cases e; exact T.E_NoFields
  · rename_i e; cases e; exact T.E_NoBounds
  · rename_i e; cases e; exact T.E_NoOffset
  · rename_i e; cases e; exact T.E_NoAddress
  · rename_i e; cases e; exact T.E_NoWord
  · rename_i e; cases e; exact T.E_NoHands
  · rename_i e; cases e; exact T.E_NoRule
  · rename_i e; cases e; exact T.E_NoNumber
  · rename_i e; cases e; exact T.E_NoLine
  · rename_i e; cases e; exact T.E_Fault
  · rename_i e; cases e; exact T.E_NoRows
  · rename_i e; cases e; exact T.E_NoText
  · rename_i e; cases e; exact T.E_NoDeeds
  · rename_i e; cases e; exact T.E_NoCompartment
  · rename_i e; cases e; exact T.E_TooMany
  · rename_i e; cases e; exact T.E_NoName
  · rename_i e; cases e; exact T.E_Sweeping
  · rename_i e; cases e; exact T.E_NoSweep
  · cases h
theorem kq_ValueError_h (T : Txt w K mg C A fd) : ∀ k b, kq_ValueError k = some b → PySem.W.kitOne K (tkV C k) (.type "ValueError") = some b := by
  intro k b h
  unfold kq_ValueError at h
  split at h <;> cases h
  · exact T.q_ReachError_ValueError
  · exact T.q_NoFields_ValueError
  · exact T.q_NoBounds_ValueError
  · exact T.q_NoOffset_ValueError
  · exact T.q_NoAddress_ValueError
  · exact T.q_NoWord_ValueError
  · exact T.q_NoHands_ValueError
  · exact T.q_NoRule_ValueError
  · exact T.q_NoNumber_ValueError
  · exact T.q_NoLine_ValueError
  · exact T.q_Fault_ValueError
  · exact T.q_NoRows_ValueError
  · exact T.q_NoText_ValueError
  · exact T.q_NoDeeds_ValueError
  · exact T.q_NoCompartment_ValueError
  · exact T.q_TooMany_ValueError
  · exact T.q_NoName_ValueError
  · exact T.q_Sweeping_ValueError
  · exact T.q_NoSweep_ValueError
theorem kq_ValueError_x (T : Txt w K mg C A fd) : ∀ n b, kq_ValueError (.inr n) = some b → ExcC K (C n) := by
  intro n b h
  unfold kq_ValueError at h
  split at h
  · rename_i e; cases e; exact T.E_ReachError
  · rename_i e; cases e; exact T.E_NoFields
  · rename_i e; cases e; exact T.E_NoBounds
  · rename_i e; cases e; exact T.E_NoOffset
  · rename_i e; cases e; exact T.E_NoAddress
  · rename_i e; cases e; exact T.E_NoWord
  · rename_i e; cases e; exact T.E_NoHands
  · rename_i e; cases e; exact T.E_NoRule
  · rename_i e; cases e; exact T.E_NoNumber
  · rename_i e; cases e; exact T.E_NoLine
  · rename_i e; cases e; exact T.E_Fault
  · rename_i e; cases e; exact T.E_NoRows
  · rename_i e; cases e; exact T.E_NoText
  · rename_i e; cases e; exact T.E_NoDeeds
  · rename_i e; cases e; exact T.E_NoCompartment
  · rename_i e; cases e; exact T.E_TooMany
  · rename_i e; cases e; exact T.E_NoName
  · rename_i e; cases e; exact T.E_Sweeping
  · rename_i e; cases e; exact T.E_NoSweep
  · cases h
theorem fk_name_h (T : Txt w K mg C A fd) : ∀ c, fk_name c = true → XfC K (C c) ∧ PySem.W.findIn K (.ref (C c)) "name" = some none := by
  intro c h
  unfold fk_name at h
  split at h
  · exact T.X_NoName_name
  · cases h
theorem fk_number_h (T : Txt w K mg C A fd) : ∀ c, fk_number c = true → XfC K (C c) ∧ PySem.W.findIn K (.ref (C c)) "number" = some none := by
  intro c h
  unfold fk_number at h
  split at h
  · exact T.X_NoRows_number
  · exact T.X_NoText_number
  · exact T.X_NoDeeds_number
  · exact T.X_NoCompartment_number
  · cases h
theorem fk_part_h (T : Txt w K mg C A fd) : ∀ c, fk_part c = true → XfC K (C c) ∧ PySem.W.findIn K (.ref (C c)) "part" = some none := by
  intro c h
  unfold fk_part at h
  split at h
  · exact T.X_NoCompartment_part
  · cases h
theorem fk_size_h (T : Txt w K mg C A fd) : ∀ c, fk_size c = true → XfC K (C c) ∧ PySem.W.findIn K (.ref (C c)) "size" = some none := by
  intro c h
  unfold fk_size at h
  split at h
  · exact T.X_TooMany_size
  · cases h
theorem fk_word_h (T : Txt w K mg C A fd) : ∀ c, fk_word c = true → XfC K (C c) ∧ PySem.W.findIn K (.ref (C c)) "word" = some none := by
  intro c h
  unfold fk_word at h
  split at h
  · exact T.X_Fault_word
  · cases h
theorem initB_Fault (T : Txt w K mg C A fd) : FnOk P w K mg base (L2N.CX P w) 1 (A 910) (fd 910) ["self", "word"] (spB K (C 10) "ValueError.__init__" ["word"]) :=
  init1B_ok T.fj_Fault sci_Fault T.tb_Fault fun cdv Ar outer s H E => pss_cons (ps_expr (pe_ownIniB rfl T.k_ReachError T.bB_ReachError (pa_cons (pvx 0) (pa_cons pe_str pa_nil)))) (pss_one (ps_osB (pvx 0) (pvx 1)))
theorem initB_NoRows (T : Txt w K mg C A fd) : FnOk P w K mg base (L2N.CX P w) 1 (A 911) (fd 911) ["self", "number"] (spB K (C 11) "ValueError.__init__" ["number"]) :=
  init1B_ok T.fj_NoRows sci_NoRows T.tb_NoRows fun cdv Ar outer s H E => pss_cons (ps_expr (pe_ownIniB rfl T.k_ReachError T.bB_ReachError (pa_cons (pvx 0) (pa_cons pe_str pa_nil)))) (pss_one (ps_osB (pvx 0) (pvx 1)))
theorem initB_NoText (T : Txt w K mg C A fd) : FnOk P w K mg base (L2N.CX P w) 1 (A 912) (fd 912) ["self", "number"] (spB K (C 12) "ValueError.__init__" ["number"]) :=
  init1B_ok T.fj_NoText sci_NoText T.tb_NoText fun cdv Ar outer s H E => pss_cons (ps_expr (pe_ownIniB rfl T.k_ReachError T.bB_ReachError (pa_cons (pvx 0) (pa_cons pe_str pa_nil)))) (pss_one (ps_osB (pvx 0) (pvx 1)))
theorem initB_NoDeeds (T : Txt w K mg C A fd) : FnOk P w K mg base (L2N.CX P w) 1 (A 913) (fd 913) ["self", "number"] (spB K (C 13) "ValueError.__init__" ["number"]) :=
  init1B_ok T.fj_NoDeeds sci_NoDeeds T.tb_NoDeeds fun cdv Ar outer s H E => pss_cons (ps_expr (pe_ownIniB rfl T.k_ReachError T.bB_ReachError (pa_cons (pvx 0) (pa_cons pe_str pa_nil)))) (pss_one (ps_osB (pvx 0) (pvx 1)))
theorem initB_NoCompartment (T : Txt w K mg C A fd) : FnOk P w K mg base (L2N.CX P w) 1 (A 914) (fd 914) ["self", "number", "part"] (spB K (C 14) "ValueError.__init__" ["number", "part"]) :=
  init2B_ok T.fj_NoCompartment sci_NoCompartment T.tb_NoCompartment fun cdv Ar outer s H E => pss_cons (ps_expr (pe_ownIniB rfl T.k_ReachError T.bB_ReachError (pa_cons (pvx 0) (pa_cons pe_str pa_nil)))) (pss_cons (ps_osB (pvx 0) (pvx 1)) (pss_one (ps_osB (pvx 0) (pvx 2))))
theorem initB_TooMany (T : Txt w K mg C A fd) : FnOk P w K mg base (L2N.CX P w) 1 (A 915) (fd 915) ["self", "size"] (spB K (C 15) "OverflowError.__init__" ["size"]) :=
  init1B_ok T.fj_TooMany sci_TooMany T.tb_TooMany fun cdv Ar outer s H E => pss_cons (ps_expr (pe_iniB rfl T.z_OverflowError PyProof.Rows.Boot.«OverflowError» PySem.XOB.typ_OE T.vB_OverflowError (pa_cons (pvx 0) (pa_cons pe_str pa_nil)))) (pss_one (ps_osB (pvx 0) (pvx 1)))
theorem initB_NoName (T : Txt w K mg C A fd) : FnOk P w K mg base (L2N.CX P w) 1 (A 916) (fd 916) ["self", "name"] (spB K (C 16) "KeyError.__init__" ["name"]) :=
  init1B_ok T.fj_NoName sci_NoName T.tb_NoName fun cdv Ar outer s H E => pss_cons (ps_expr (pe_iniB rfl T.z_KeyError PyProof.Rows.Boot.«KeyError» PySem.XOB.typ_KE T.vB_KeyError (pa_cons (pvx 0) (pa_cons pe_str pa_nil)))) (pss_one (ps_osB (pvx 0) (pvx 1)))
theorem ok_law_pool (T : Txt w K mg C A fd) : FnOk P w K mg base (L2N.CX P w) 1 (A 0) (fd 0) ["_law_script", "_law_k"] (spOf K C 2 g_law_pool) :=
  fn_ev T.f_law_pool sc_law_pool fun cdv Ar outer s H E hr tk po =>
    (es_cons (s_set 2 sc_law_pool.nd (ee_op addD_ok (ee_op mulD_ok ee_int (ee_callB (sumD_ok rfl) rfl T.z_sum (by decide +kernel) (ea_cons (ee_sl (ee_var 0) eo_none (eo_some ee_int)) ea_nil))) (ee_var 1)))
    (es_cons (s_if (et_cmp ltD_ok (ee_var 1) (ee_callB lenD_ok rfl T.z_len (by decide +kernel) (ea_cons (ee_var 0) ea_nil)) (nomark _))
    (es_one (s_set 2 sc_law_pool.nd (ee_ix (ee_var 0) (ee_var 1))))
    es_nil)
    (es_cons (s_set 3 sc_law_pool.nd (ee_callB absD_ok rfl T.z_abs (by decide +kernel) (ea_cons (ee_var 2) ea_nil)))
    (es_cons (s_set 4 sc_law_pool.nd (ee_op modD_ok (ee_op mulD_ok (ee_op addD_ok (ee_op addD_ok (ee_op addD_ok (ee_op modD_ok (ee_var 3) ee_int) (ee_op mulD_ok (ee_op mulD_ok ee_int (ee_var 1)) (ee_var 1))) (ee_op mulD_ok ee_int (ee_var 1))) ee_int) ee_int) ee_int))
    (es_one (s_ret (ee_lstM (ea_cons (ee_op mulD_ok (ee_var 3) (ee_callTy intD_ok rfl T.z_int (by decide +kernel) (ea_cons (ee_cmp geD_ok (ee_var 3) (ee_op powD_ok ee_int ee_int) (nomark _)) ea_nil))) (ea_cons (ee_op modD_ok (ee_op mulD_ok (ee_var 4) (ee_var 4)) ee_int) ea_nil)) (al_cons (al_cons al_nil)))))))))
theorem ok_law_take (T : Txt w K mg C A fd) : FnOk P w K mg base (L2N.CX P w) 1 (A 1) (fd 1) ["_law_pool_here", "_law_many"] (spOf K C 2 g_law_take) :=
  fn_ev T.f_law_take sc_law_take fun cdv Ar outer s H E hr tk po =>
    (es_cons (s_if (et_cmp gtD_ok (ee_ix (ee_var 0) ee_int) ee_int (nomark _))
    (es_cons (s_set 2 sc_law_take.nd (ee_op modD_ok (ee_ix (ee_var 0) ee_int) (ee_var 1)))
    (es_cons (s_putIx (ee_op divD_ok (ee_ix (ee_var 0) ee_int) (ee_var 1)) (ee_var 0) ee_int)
    (es_one (s_ret (ee_var 2)))))
    es_nil)
    (es_cons (s_putIx (ee_op modD_ok (ee_op addD_ok (ee_op mulD_ok (ee_ix (ee_var 0) ee_int) ee_int) ee_int) ee_int) (ee_var 0) ee_int)
    (es_one (s_ret (ee_op modD_ok (ee_op divD_ok (ee_op modD_ok (ee_op mulD_ok (ee_ix (ee_var 0) ee_int) (ee_ix (ee_var 0) ee_int)) ee_int) ee_int) (ee_var 1))))))
theorem ok_law_kinds (T : Txt w K mg C A fd) : FnOk P w K mg base (L2N.CX P w) 1 (A 2) (fd 2) ["_law_e"] (spOf K C 1 g_law_kinds) :=
  fn_ev T.f_law_kinds sc_law_kinds fun cdv Ar outer s H E hr tk po =>
    (es_cons (s_set 1 sc_law_kinds.nd (ee_lst (ea_cons (ee_isiQ (ee_var 0) rfl T.z_isinstance (pe_glob (v := .ref (C 1)) rfl T.k_NoFields rfl) (.own _) (kq_NoFields_h T) (kq_NoFields_x T)) (ea_cons (ee_isiQ (ee_var 0) rfl T.z_isinstance (pe_glob (v := .ref (C 2)) rfl T.k_NoBounds rfl) (.own _) (kq_NoBounds_h T) (kq_NoBounds_x T)) (ea_cons (ee_isiQ (ee_var 0) rfl T.z_isinstance (pe_glob (v := .ref (C 3)) rfl T.k_NoOffset rfl) (.own _) (kq_NoOffset_h T) (kq_NoOffset_x T)) (ea_cons (ee_isiQ (ee_var 0) rfl T.z_isinstance (pe_glob (v := .ref (C 4)) rfl T.k_NoAddress rfl) (.own _) (kq_NoAddress_h T) (kq_NoAddress_x T)) ea_nil)))) (al_cons (al_cons (al_cons (al_cons al_nil))))))
    (es_cons (s_set 1 sc_law_kinds.nd (ee_op addD_ok (ee_var 1) (ee_lst (ea_cons (ee_isiQ (ee_var 0) rfl T.z_isinstance (pe_glob (v := .ref (C 5)) rfl T.k_NoWord rfl) (.own _) (kq_NoWord_h T) (kq_NoWord_x T)) (ea_cons (ee_isiQ (ee_var 0) rfl T.z_isinstance (pe_glob (v := .ref (C 6)) rfl T.k_NoHands rfl) (.own _) (kq_NoHands_h T) (kq_NoHands_x T)) (ea_cons (ee_isiQ (ee_var 0) rfl T.z_isinstance (pe_glob (v := .ref (C 7)) rfl T.k_NoRule rfl) (.own _) (kq_NoRule_h T) (kq_NoRule_x T)) (ea_cons (ee_isiQ (ee_var 0) rfl T.z_isinstance (pe_glob (v := .ref (C 8)) rfl T.k_NoNumber rfl) (.own _) (kq_NoNumber_h T) (kq_NoNumber_x T)) ea_nil)))) (al_cons (al_cons (al_cons (al_cons al_nil)))))))
    (es_cons (s_set 1 sc_law_kinds.nd (ee_op addD_ok (ee_var 1) (ee_lst (ea_cons (ee_isiQ (ee_var 0) rfl T.z_isinstance (pe_glob (v := .ref (C 9)) rfl T.k_NoLine rfl) (.own _) (kq_NoLine_h T) (kq_NoLine_x T)) (ea_cons (ee_isiQ (ee_var 0) rfl T.z_isinstance (pe_glob (v := .ref (C 17)) rfl T.k_Sweeping rfl) (.own _) (kq_Sweeping_h T) (kq_Sweeping_x T)) (ea_cons (ee_isiQ (ee_var 0) rfl T.z_isinstance (pe_glob (v := .ref (C 18)) rfl T.k_NoSweep rfl) (.own _) (kq_NoSweep_h T) (kq_NoSweep_x T)) (ea_cons (ee_isiQ (ee_var 0) rfl T.z_isinstance (pe_glob (v := .ref (C 10)) rfl T.k_Fault rfl) (.own _) (kq_Fault_h T) (kq_Fault_x T)) ea_nil)))) (al_cons (al_cons (al_cons (al_cons al_nil)))))))
    (es_cons (s_set 1 sc_law_kinds.nd (ee_op addD_ok (ee_var 1) (ee_lst (ea_cons (ee_isiQ (ee_var 0) rfl T.z_isinstance (pe_glob (v := .ref (C 11)) rfl T.k_NoRows rfl) (.own _) (kq_NoRows_h T) (kq_NoRows_x T)) (ea_cons (ee_isiQ (ee_var 0) rfl T.z_isinstance (pe_glob (v := .ref (C 12)) rfl T.k_NoText rfl) (.own _) (kq_NoText_h T) (kq_NoText_x T)) (ea_cons (ee_isiQ (ee_var 0) rfl T.z_isinstance (pe_glob (v := .ref (C 13)) rfl T.k_NoDeeds rfl) (.own _) (kq_NoDeeds_h T) (kq_NoDeeds_x T)) (ea_cons (ee_isiQ (ee_var 0) rfl T.z_isinstance (pe_glob (v := .ref (C 16)) rfl T.k_NoName rfl) (.own _) (kq_NoName_h T) (kq_NoName_x T)) ea_nil)))) (al_cons (al_cons (al_cons (al_cons al_nil)))))))
    (es_one (s_ret (ee_op addD_ok (ee_var 1) (ee_lst (ea_cons (ee_isiQ (ee_var 0) rfl T.z_isinstance (pe_glob (v := .ref (C 15)) rfl T.k_TooMany rfl) (.own _) (kq_TooMany_h T) (kq_TooMany_x T)) (ea_cons (ee_isiQ (ee_var 0) rfl T.z_isinstance (pe_glob (v := .ref (C 14)) rfl T.k_NoCompartment rfl) (.own _) (kq_NoCompartment_h T) (kq_NoCompartment_x T)) ea_nil)) (al_cons (al_cons al_nil))))))))))
theorem ok_law_bases (T : Txt w K mg C A fd) : FnOk P w K mg base (L2N.CX P w) 1 (A 3) (fd 3) ["_law_e"] (spOf K C 1 g_law_bases) :=
  fn_ev T.f_law_bases sc_law_bases fun cdv Ar outer s H E hr tk po =>
    (es_cons (s_set 1 sc_law_bases.nd (ee_lst (ea_cons (ee_isiQ (ee_var 0) rfl T.z_isinstance (pe_glob (v := .ref (C 0)) rfl T.k_ReachError rfl) (.own _) (kq_ReachError_h T) (kq_ReachError_x T)) (ea_cons (ee_isiQ (ee_var 0) rfl T.z_isinstance (pe_bltn (v := .ty "ValueError") rfl T.z_ValueError (by decide +kernel) rfl) (.ty _) (kq_ValueError_h T) (kq_ValueError_x T)) (ea_cons (ee_isiQ (ee_var 0) rfl T.z_isinstance (pe_bltn (v := .ty "OverflowError") rfl T.z_OverflowError (by decide +kernel) rfl) (.ty _) (kq_OverflowError_h T) (kq_OverflowError_x T)) ea_nil))) (al_cons (al_cons (al_cons al_nil)))))
    (es_cons (s_set 1 sc_law_bases.nd (ee_op addD_ok (ee_var 1) (ee_lst (ea_cons (ee_isiQ (ee_var 0) rfl T.z_isinstance (pe_bltn (v := .ty "KeyError") rfl T.z_KeyError (by decide +kernel) rfl) (.ty _) (kq_KeyError_h T) (kq_KeyError_x T)) (ea_cons (ee_isiQ (ee_var 0) rfl T.z_isinstance (pe_bltn (v := .ty "LookupError") rfl T.z_LookupError (by decide +kernel) rfl) (.ty _) (kq_LookupError_h T) (kq_LookupError_x T)) (ea_cons (ee_isiQ (ee_var 0) rfl T.z_isinstance (pe_bltn (v := .ty "RuntimeError") rfl T.z_RuntimeError (by decide +kernel) rfl) (.ty _) (kq_RuntimeError_h T) (kq_RuntimeError_x T)) ea_nil))) (al_cons (al_cons (al_cons al_nil))))))
    (es_one (s_ret (ee_op addD_ok (ee_var 1) (ee_lst (ea_cons (ee_isiQ (ee_var 0) rfl T.z_isinstance (pe_bltn (v := .ty "IndexError") rfl T.z_IndexError (by decide +kernel) rfl) (.ty _) (kq_IndexError_h T) (kq_IndexError_x T)) ea_nil) (al_cons al_nil)))))))
theorem ok_law_made (T : Txt w K mg C A fd) : FnOk P w K mg base (L2N.CX P w) 3 (A 4) (fd 4) ["_law_which", "_law_one", "_law_other"] (spOf K C 3 g_law_made) :=
  fn_ev T.f_law_made sc_law_made fun cdv Ar outer s H E hr tk po =>
    (es_cons (s_set 3 sc_law_made.nd (ee_lst (ea_cons (ee_mkE0 cl_NoFields PySem.F.excBase_ValueError T.x_NoFields T.k_NoFields T.p_NoFields rfl ee_str) (ea_cons (ee_mkE0 cl_NoBounds PySem.F.excBase_ValueError T.x_NoBounds T.k_NoBounds T.p_NoBounds rfl ee_str) (ea_cons (ee_mkE0 cl_NoOffset PySem.F.excBase_ValueError T.x_NoOffset T.k_NoOffset T.p_NoOffset rfl ee_str) (ea_cons (ee_mkE0 cl_NoAddress PySem.F.excBase_ValueError T.x_NoAddress T.k_NoAddress T.p_NoAddress rfl ee_str) (ea_cons (ee_mkE0 cl_NoWord PySem.F.excBase_ValueError T.x_NoWord T.k_NoWord T.p_NoWord rfl ee_str) (ea_cons (ee_mkE0 cl_NoHands PySem.F.excBase_ValueError T.x_NoHands T.k_NoHands T.p_NoHands rfl ee_str) (ea_cons (ee_mkE0 cl_NoRule PySem.F.excBase_ValueError T.x_NoRule T.k_NoRule T.p_NoRule rfl ee_str) ea_nil))))))) (al_cons (al_cons (al_cons (al_cons (al_cons (al_cons (al_cons al_nil)))))))))
    (es_cons (s_set 3 sc_law_made.nd (ee_op addD_ok (ee_var 3) (ee_lst (ea_cons (ee_mkE0 cl_NoNumber PySem.F.excBase_ValueError T.x_NoNumber T.k_NoNumber T.p_NoNumber rfl ee_str) (ea_cons (ee_mkE0 cl_NoLine PySem.F.excBase_ValueError T.x_NoLine T.k_NoLine T.p_NoLine rfl ee_str) (ea_cons (ee_mkE0 cl_Sweeping PySem.F.excBase_RuntimeError T.x_Sweeping T.k_Sweeping T.p_Sweeping rfl ee_str) (ea_cons (ee_mkE0 cl_NoSweep PySem.F.excBase_LookupError T.x_NoSweep T.k_NoSweep T.p_NoSweep rfl ee_str) (ea_cons (ee_mkE cl_Fault T.tb_Fault (initB_Fault T) (hr.mono (by decide)) T.bj_Fault (by decide) T.k_Fault rfl (ea_cons (ee_var 1) ea_nil)) (ea_cons (ee_mkE cl_NoRows T.tb_NoRows (initB_NoRows T) (hr.mono (by decide)) T.bj_NoRows (by decide) T.k_NoRows rfl (ea_cons (ee_var 1) ea_nil)) (ea_cons (ee_mkE cl_NoText T.tb_NoText (initB_NoText T) (hr.mono (by decide)) T.bj_NoText (by decide) T.k_NoText rfl (ea_cons (ee_var 1) ea_nil)) ea_nil))))))) (al_cons (al_cons (al_cons (al_cons (al_cons (al_cons (al_cons al_nil))))))))))
    (es_one (s_ret (ee_ix (ee_op addD_ok (ee_var 3) (ee_lst (ea_cons (ee_mkE cl_NoDeeds T.tb_NoDeeds (initB_NoDeeds T) (hr.mono (by decide)) T.bj_NoDeeds (by decide) T.k_NoDeeds rfl (ea_cons (ee_var 1) ea_nil)) (ea_cons (ee_mkE cl_NoName T.tb_NoName (initB_NoName T) (hr.mono (by decide)) T.bj_NoName (by decide) T.k_NoName rfl (ea_cons (ee_var 1) ea_nil)) (ea_cons (ee_mkE cl_TooMany T.tb_TooMany (initB_TooMany T) (hr.mono (by decide)) T.bj_TooMany (by decide) T.k_TooMany rfl (ea_cons (ee_var 1) ea_nil)) (ea_cons (ee_mkE cl_NoCompartment T.tb_NoCompartment (initB_NoCompartment T) (hr.mono (by decide)) T.bj_NoCompartment (by decide) T.k_NoCompartment rfl (ea_cons (ee_var 1) (ea_cons (ee_var 2) ea_nil))) ea_nil)))) (al_cons (al_cons (al_cons (al_cons al_nil)))))) (ee_var 0))))))
theorem ok_law_values (T : Txt w K mg C A fd) : FnOk P w K mg base (L2N.CX P w) 1 (A 5) (fd 5) ["_law_which", "_law_e"] (spOf K C 2 g_law_values) :=
  fn_ev T.f_law_values sc_law_values fun cdv Ar outer s H E hr tk po =>
    (es_cons (s_if (et_cmp ltD_ok (ee_var 0) ee_int (nomark _))
    (es_one (s_ret (ee_lst ea_nil al_nil)))
    es_nil)
    (es_cons (s_if (et_cmp (eqD_ok hr.units) (ee_var 0) ee_int (nomark _))
    (es_one (s_ret (ee_lst (ea_cons (ee_fld (ee_var 1) (fk_word_h T)) ea_nil) (al_cons al_nil))))
    es_nil)
    (es_cons (s_if (et_cmp ltD_ok (ee_var 0) ee_int (nomark _))
    (es_one (s_ret (ee_lst (ea_cons (ee_fld (ee_var 1) (fk_number_h T)) ea_nil) (al_cons al_nil))))
    es_nil)
    (es_cons (s_if (et_cmp (eqD_ok hr.units) (ee_var 0) ee_int (nomark _))
    (es_one (s_ret (ee_lst (ea_cons (ee_fld (ee_var 1) (fk_name_h T)) ea_nil) (al_cons al_nil))))
    es_nil)
    (es_one (s_ret (ee_if (et_cmp (eqD_ok hr.units) (ee_var 0) ee_int (nomark _)) (ee_lst (ea_cons (ee_fld (ee_var 1) (fk_size_h T)) ea_nil) (al_cons al_nil)) (ee_lst (ea_cons (ee_fld (ee_var 1) (fk_number_h T)) (ea_cons (ee_fld (ee_var 1) (fk_part_h T)) ea_nil)) (al_cons (al_cons al_nil))))))))))
theorem ok_law_due_bases (T : Txt w K mg C A fd) : FnOk P w K mg base (L2N.CX P w) 1 (A 6) (fd 6) ["_law_which"] (spOf K C 1 g_law_due_bases) :=
  fn_ev T.f_law_due_bases sc_law_due_bases fun cdv Ar outer s H E hr tk po =>
    (es_cons (s_if (et_cmp (eqD_ok hr.units) (ee_var 0) ee_int (nomark _))
    (es_one (s_ret (ee_lst (ea_cons ee_bl (ea_cons ee_bl (ea_cons ee_bl (ea_cons ee_bl (ea_cons ee_bl (ea_cons ee_bl (ea_cons ee_bl ea_nil))))))) (al_cons (al_cons (al_cons (al_cons (al_cons (al_cons (al_cons al_nil))))))))))
    es_nil)
    (es_cons (s_if (et_cmp (eqD_ok hr.units) (ee_var 0) ee_int (nomark _))
    (es_one (s_ret (ee_lst (ea_cons ee_bl (ea_cons ee_bl (ea_cons ee_bl (ea_cons ee_bl (ea_cons ee_bl (ea_cons ee_bl (ea_cons ee_bl ea_nil))))))) (al_cons (al_cons (al_cons (al_cons (al_cons (al_cons (al_cons al_nil))))))))))
    es_nil)
    (es_cons (s_if (et_cmp (eqD_ok hr.units) (ee_var 0) ee_int (nomark _))
    (es_one (s_ret (ee_lst (ea_cons ee_bl (ea_cons ee_bl (ea_cons ee_bl (ea_cons ee_bl (ea_cons ee_bl (ea_cons ee_bl (ea_cons ee_bl ea_nil))))))) (al_cons (al_cons (al_cons (al_cons (al_cons (al_cons (al_cons al_nil))))))))))
    es_nil)
    (es_cons (s_if (et_cmp (eqD_ok hr.units) (ee_var 0) ee_int (nomark _))
    (es_one (s_ret (ee_lst (ea_cons ee_bl (ea_cons ee_bl (ea_cons ee_bl (ea_cons ee_bl (ea_cons ee_bl (ea_cons ee_bl (ea_cons ee_bl ea_nil))))))) (al_cons (al_cons (al_cons (al_cons (al_cons (al_cons (al_cons al_nil))))))))))
    es_nil)
    (es_one (s_ret (ee_lst (ea_cons ee_bl (ea_cons ee_bl (ea_cons ee_bl (ea_cons ee_bl (ea_cons ee_bl (ea_cons ee_bl (ea_cons ee_bl ea_nil))))))) (al_cons (al_cons (al_cons (al_cons (al_cons (al_cons (al_cons al_nil))))))))))))))
theorem ok_law (T : Txt w K mg C A fd) : FnG P w K mg base (L2N.CX P w) 4 (A 7) (fd 7) ["_law_script"] (spOf K C 1 g_law) :=
  fnG_ev T.f_law sc_law fun cdv Ar outer s H E hr tk po =>
    (es_cons (s_for po rfl (ei_range1 rfl T.z_range (ea_cons (ee_callB (maxD2_ok rfl) rfl T.z_max (by decide +kernel) (ea_cons ee_int (ea_cons (ee_callB (minD2_ok rfl) rfl T.z_min (by decide +kernel) (ea_cons (ee_callB lenD_ok rfl T.z_len (by decide +kernel) (ea_cons (ee_var 0) ea_nil)) (ea_cons ee_int ea_nil))) ea_nil))) ea_nil)) (g_nm 1 sc_law.nd)
    (es_cons (s_set 2 sc_law.nd (ee_callC (Cal.ok (ok_law_pool T) (hr.room.mono (by decide))) rfl T.g_law_pool T.f_law_pool.kp T.b_law_pool tk (ea_cons (ee_var 0) (ea_cons (ee_var 1) ea_nil)) (al_cons (al_cons al_nil))))
    (es_cons (s_set 3 sc_law.nd (ee_lst (ea_cons ee_non (ea_cons ee_int (ea_cons ee_str (ea_cons ee_bl (ea_cons (ee_lst (ea_cons ee_int ea_nil) (al_cons al_nil)) (ea_cons (ee_tup (ea_cons ee_int (ea_cons ee_str ea_nil)) (al_cons (al_cons al_nil))) (ea_cons ee_dct0 (ea_cons ee_int (ea_cons (ee_un negD_ok ee_int) (ea_cons ee_str (ea_cons (ee_op powD_ok ee_int ee_int) ea_nil))))))))))) (al_cons (al_cons (al_cons (al_cons (al_cons (al_cons (al_cons (al_cons (al_cons (al_cons (al_cons al_nil)))))))))))))
    (es_cons (s_par2 4 5 rfl sc_law.nd (ea_cons (ee_ix (ee_var 3) (ee_callC (Cal.ok (ok_law_take T) (hr.room.mono (by decide))) rfl T.g_law_take T.f_law_take.kp T.b_law_take tk (ea_cons (ee_var 2) (ea_cons ee_int ea_nil)) (al_cons (al_cons al_nil)))) (ea_cons (ee_ix (ee_var 3) (ee_callC (Cal.ok (ok_law_take T) (hr.room.mono (by decide))) rfl T.g_law_take T.f_law_take.kp T.b_law_take tk (ea_cons (ee_var 2) (ea_cons ee_int ea_nil)) (al_cons (al_cons al_nil)))) ea_nil)))
    (es_one (s_for po rfl (ei_range1 rfl T.z_range (ea_cons ee_int ea_nil)) (g_nm 6 sc_law.nd)
    (es_cons (s_par2 7 8 rfl sc_law.nd (ea_cons (ee_callC (Cal.ok (ok_law_made T) (hr.room.mono (by decide))) rfl T.g_law_made T.f_law_made.kp T.b_law_made tk (ea_cons (ee_var 6) (ea_cons (ee_var 4) (ea_cons (ee_var 5) ea_nil))) (al_cons (al_cons (al_cons al_nil)))) (ea_cons (ee_callC (Cal.ok (ok_law_made T) (hr.room.mono (by decide))) rfl T.g_law_made T.f_law_made.kp T.b_law_made tk (ea_cons (ee_var 6) (ea_cons (ee_var 5) (ea_cons (ee_var 4) ea_nil))) (al_cons (al_cons (al_cons al_nil)))) ea_nil)))
    (es_cons (s_setLc 9 frzL_ok rfl sc_law.nd (sw_true rfl rfl rfl (by decide +kernel)) (ei_enum rfl T.z_enumerate (ea_cons (ee_callC (Cal.ok (ok_law_kinds T) (hr.room.mono (by decide))) rfl T.g_law_kinds T.f_law_kinds.kp T.b_law_kinds tk (ea_cons (ee_var 7) ea_nil) (al_cons al_nil)) ea_nil)) (blkOk_by (N := ["_law_script", "_law_k", "_law_pool_here", "_law_some", "_law_one", "_law_other", "_law_which", "_law_made_here", "_law_second", "_law_kinds_here", "_law_at", "_law_own", "_law_found"]) (sc := defScope s_law) (own := [("_law_at", 10), ("_law_own", 11)]) (by first | decide +kernel | rfl)) rfl (by decide) (fun _ _ _ _ _ => (g_tp rfl (gs_cons 10 sc_law.nd (gs_cons 11 sc_law.nd gs_nil)))) (fun _ _ _ _ _ => (et_if1 (et_val (ee_var 11)))) (fun _ _ _ _ _ => (ee_var 10)))
    (es_cons (s_if (PW.pt (et_or (et_cmp (neD_ok hr.room.units) (ee_var 9) (ee_lst (ea_cons (ee_var 6) ea_nil) (al_cons al_nil)) (nomark _)) (et_or (et_cmp (neD_ok hr.room.units) (ee_callC (Cal.ok (ok_law_kinds T) (hr.room.mono (by decide))) rfl T.g_law_kinds T.f_law_kinds.kp T.b_law_kinds tk (ea_cons (ee_var 8) ea_nil) (al_cons al_nil)) (ee_callC (Cal.ok (ok_law_kinds T) (hr.room.mono (by decide))) rfl T.g_law_kinds T.f_law_kinds.kp T.b_law_kinds tk (ea_cons (ee_var 7) ea_nil) (al_cons al_nil)) (nomark _)) (et_or1 (et_cmp (neD_ok hr.room.units) (ee_callC (Cal.ok (ok_law_bases T) (hr.room.mono (by decide))) rfl T.g_law_bases T.f_law_bases.kp T.b_law_bases tk (ea_cons (ee_var 7) ea_nil) (al_cons al_nil)) (ee_callC (Cal.ok (ok_law_due_bases T) (hr.room.mono (by decide))) rfl T.g_law_due_bases T.f_law_due_bases.kp T.b_law_due_bases tk (ea_cons (ee_var 6) ea_nil) (al_cons al_nil)) (nomark _))))))
    (es_one (s_ret ee_bl))
    es_nil)
    (es_cons (s_set 12 sc_law.nd (ee_callC (Cal.ok (ok_law_values T) (hr.room.mono (by decide))) rfl T.g_law_values T.f_law_values.kp T.b_law_values tk (ea_cons (ee_var 6) (ea_cons (ee_var 7) ea_nil)) (al_cons (al_cons al_nil))))
    (es_cons (s_if (et_cmp (neD_ok hr.room.units) (ee_callB (reprE_ok hr.room.units hr.gd) rfl T.z_repr (by decide +kernel) (ea_cons (ee_var 12) ea_nil)) (ee_callB (reprE_ok hr.room.units hr.gd) rfl T.z_repr (by decide +kernel) (ea_cons (ee_sl (ee_lst (ea_cons (ee_var 4) (ea_cons (ee_var 5) ea_nil)) (al_cons (al_cons al_nil))) eo_none (eo_some (ee_callB lenD_ok rfl T.z_len (by decide +kernel) (ea_cons (ee_var 12) ea_nil)))) ea_nil)) (nomark _))
    (es_one (s_ret ee_bl))
    es_nil)
    (es_one (s_if (et_cmp (neD_ok hr.room.units) (ee_callB (reprE_ok hr.room.units hr.gd) rfl T.z_repr (by decide +kernel) (ea_cons (ee_callC (Cal.ok (ok_law_values T) (hr.room.mono (by decide))) rfl T.g_law_values T.f_law_values.kp T.b_law_values tk (ea_cons (ee_var 6) (ea_cons (ee_var 8) ea_nil)) (al_cons (al_cons al_nil))) ea_nil)) (ee_callB (reprE_ok hr.room.units hr.gd) rfl T.z_repr (by decide +kernel) (ea_cons (ee_sl (ee_lst (ea_cons (ee_var 5) (ea_cons (ee_var 4) ea_nil)) (al_cons (al_cons al_nil))) eo_none (eo_some (ee_callB lenD_ok rfl T.z_len (by decide +kernel) (ea_cons (ee_var 12) ea_nil)))) ea_nil)) (nomark _))
    (es_one (s_ret ee_bl))
    es_nil)))))))))))))
    (es_one (s_ret ee_bl)))
end
theorem all_mk {l : PySem.W.OpenLaw} {w : World} {K : PySem.W.Frag} {h : Heap} {mg : Str → Option Value} {fa f0 f1 f2 f3 f4 f5 f6 f7 g10 g11 g12 g13 g14 g15 g16 c0 c1 c2 c3 c4 c5 c6 c7 c8 c9 c10 c11 c12 c13 c14 c15 c16 c17 c18 : Addr} (X : K.In h) (G : h.Ns mainGlobals mg) (hfa : mg "law" = some (.ref fa))
    {od0 an0 : Option Addr} {sl0 : Array (Option Value)} {oc0 kV0 dc0 pm0 cd0 ct0 : Value}
    {od1 an1 : Option Addr} {sl1 : Array (Option Value)} {oc1 kV1 dc1 pm1 cd1 ct1 : Value}
    {od2 an2 : Option Addr} {sl2 : Array (Option Value)} {oc2 kV2 dc2 pm2 cd2 ct2 : Value}
    {od3 an3 : Option Addr} {sl3 : Array (Option Value)} {oc3 kV3 dc3 pm3 cd3 ct3 : Value}
    {od4 an4 : Option Addr} {sl4 : Array (Option Value)} {oc4 kV4 dc4 pm4 cd4 ct4 : Value}
    {od5 an5 : Option Addr} {sl5 : Array (Option Value)} {oc5 kV5 dc5 pm5 cd5 ct5 : Value}
    {od6 an6 : Option Addr} {sl6 : Array (Option Value)} {oc6 kV6 dc6 pm6 cd6 ct6 : Value}
    {od7 an7 : Option Addr} {sl7 : Array (Option Value)} {oc7 kV7 dc7 pm7 cd7 ct7 : Value}
    {nm10 q10 : Str} {N10 : Addr} {bs10 : List Value} {sn10 : List Str} {sub10 : List Value} {ab10 : Bool} {col10 : Option Bool} {dd10 : Option Addr} {m010 m110 m210 m310 m510 : Option Value}
    {iod10 ian10 : Option Addr} {isl10 : Array (Option Value)} {ioc10 ikV10 idc10 ipm10 icd10 ict10 : Value}
    {nm11 q11 : Str} {N11 : Addr} {bs11 : List Value} {sn11 : List Str} {sub11 : List Value} {ab11 : Bool} {col11 : Option Bool} {dd11 : Option Addr} {m011 m111 m211 m311 m511 : Option Value}
    {iod11 ian11 : Option Addr} {isl11 : Array (Option Value)} {ioc11 ikV11 idc11 ipm11 icd11 ict11 : Value}
    {nm12 q12 : Str} {N12 : Addr} {bs12 : List Value} {sn12 : List Str} {sub12 : List Value} {ab12 : Bool} {col12 : Option Bool} {dd12 : Option Addr} {m012 m112 m212 m312 m512 : Option Value}
    {iod12 ian12 : Option Addr} {isl12 : Array (Option Value)} {ioc12 ikV12 idc12 ipm12 icd12 ict12 : Value}
    {nm13 q13 : Str} {N13 : Addr} {bs13 : List Value} {sn13 : List Str} {sub13 : List Value} {ab13 : Bool} {col13 : Option Bool} {dd13 : Option Addr} {m013 m113 m213 m313 m513 : Option Value}
    {iod13 ian13 : Option Addr} {isl13 : Array (Option Value)} {ioc13 ikV13 idc13 ipm13 icd13 ict13 : Value}
    {nm14 q14 : Str} {N14 : Addr} {bs14 : List Value} {sn14 : List Str} {sub14 : List Value} {ab14 : Bool} {col14 : Option Bool} {dd14 : Option Addr} {m014 m114 m214 m314 m514 : Option Value}
    {iod14 ian14 : Option Addr} {isl14 : Array (Option Value)} {ioc14 ikV14 idc14 ipm14 icd14 ict14 : Value}
    {nm15 q15 : Str} {N15 : Addr} {bs15 : List Value} {sn15 : List Str} {sub15 : List Value} {ab15 : Bool} {col15 : Option Bool} {dd15 : Option Addr} {m015 m115 m215 m315 m515 : Option Value}
    {iod15 ian15 : Option Addr} {isl15 : Array (Option Value)} {ioc15 ikV15 idc15 ipm15 icd15 ict15 : Value}
    {nm16 q16 : Str} {N16 : Addr} {bs16 : List Value} {sn16 : List Str} {sub16 : List Value} {ab16 : Bool} {col16 : Option Bool} {dd16 : Option Addr} {m016 m116 m216 m316 m516 : Option Value}
    {iod16 ian16 : Option Addr} {isl16 : Array (Option Value)} {ioc16 ikV16 idc16 ipm16 icd16 ict16 : Value}
    (a0 : PySem.W.nsIn K mainGlobals "_law_pool" = some (some (.ref f0)))
    (l0 : K.lookup f0 = some ⟨oc0, od0, .func (PySem.W.fnOf "_law_pool" "_law_pool" (defArgs s_law_pool) (defBody s_law_pool) (defScope s_law_pool) .none kV0 dc0 pm0 an0 cd0 ct0), sl0⟩)
    (o0 : PySem.W.codeIn K cd0 "_law_pool" = true)
    (p0 : PySem.W.keepIn K (.ref f0) = true)
    (a1 : PySem.W.nsIn K mainGlobals "_law_take" = some (some (.ref f1)))
    (l1 : K.lookup f1 = some ⟨oc1, od1, .func (PySem.W.fnOf "_law_take" "_law_take" (defArgs s_law_take) (defBody s_law_take) (defScope s_law_take) .none kV1 dc1 pm1 an1 cd1 ct1), sl1⟩)
    (o1 : PySem.W.codeIn K cd1 "_law_take" = true)
    (p1 : PySem.W.keepIn K (.ref f1) = true)
    (a2 : PySem.W.nsIn K mainGlobals "_law_kinds" = some (some (.ref f2)))
    (l2 : K.lookup f2 = some ⟨oc2, od2, .func (PySem.W.fnOf "_law_kinds" "_law_kinds" (defArgs s_law_kinds) (defBody s_law_kinds) (defScope s_law_kinds) .none kV2 dc2 pm2 an2 cd2 ct2), sl2⟩)
    (o2 : PySem.W.codeIn K cd2 "_law_kinds" = true)
    (p2 : PySem.W.keepIn K (.ref f2) = true)
    (a3 : PySem.W.nsIn K mainGlobals "_law_bases" = some (some (.ref f3)))
    (l3 : K.lookup f3 = some ⟨oc3, od3, .func (PySem.W.fnOf "_law_bases" "_law_bases" (defArgs s_law_bases) (defBody s_law_bases) (defScope s_law_bases) .none kV3 dc3 pm3 an3 cd3 ct3), sl3⟩)
    (o3 : PySem.W.codeIn K cd3 "_law_bases" = true)
    (p3 : PySem.W.keepIn K (.ref f3) = true)
    (a4 : PySem.W.nsIn K mainGlobals "_law_made" = some (some (.ref f4)))
    (l4 : K.lookup f4 = some ⟨oc4, od4, .func (PySem.W.fnOf "_law_made" "_law_made" (defArgs s_law_made) (defBody s_law_made) (defScope s_law_made) .none kV4 dc4 pm4 an4 cd4 ct4), sl4⟩)
    (o4 : PySem.W.codeIn K cd4 "_law_made" = true)
    (p4 : PySem.W.keepIn K (.ref f4) = true)
    (a5 : PySem.W.nsIn K mainGlobals "_law_values" = some (some (.ref f5)))
    (l5 : K.lookup f5 = some ⟨oc5, od5, .func (PySem.W.fnOf "_law_values" "_law_values" (defArgs s_law_values) (defBody s_law_values) (defScope s_law_values) .none kV5 dc5 pm5 an5 cd5 ct5), sl5⟩)
    (o5 : PySem.W.codeIn K cd5 "_law_values" = true)
    (p5 : PySem.W.keepIn K (.ref f5) = true)
    (a6 : PySem.W.nsIn K mainGlobals "_law_due_bases" = some (some (.ref f6)))
    (l6 : K.lookup f6 = some ⟨oc6, od6, .func (PySem.W.fnOf "_law_due_bases" "_law_due_bases" (defArgs s_law_due_bases) (defBody s_law_due_bases) (defScope s_law_due_bases) .none kV6 dc6 pm6 an6 cd6 ct6), sl6⟩)
    (o6 : PySem.W.codeIn K cd6 "_law_due_bases" = true)
    (p6 : PySem.W.keepIn K (.ref f6) = true)
    (a7 : PySem.W.nsIn K mainGlobals "law" = some (some (.ref f7)))
    (l7 : K.lookup f7 = some ⟨oc7, od7, .func (PySem.W.fnOf "law" "law" (defArgs s_law) (defBody s_law) (defScope s_law) .none kV7 dc7 pm7 an7 cd7 ct7), sl7⟩)
    (o7 : PySem.W.codeIn K cd7 "law" = true)
    (p7 : PySem.W.keepIn K (.ref f7) = true)
    (z_IndexError : PySem.W.nsIn K mainGlobals "IndexError" = some none)
    (z_KeyError : PySem.W.nsIn K mainGlobals "KeyError" = some none)
    (z_LookupError : PySem.W.nsIn K mainGlobals "LookupError" = some none)
    (z_OverflowError : PySem.W.nsIn K mainGlobals "OverflowError" = some none)
    (z_RuntimeError : PySem.W.nsIn K mainGlobals "RuntimeError" = some none)
    (z_ValueError : PySem.W.nsIn K mainGlobals "ValueError" = some none)
    (z_abs : PySem.W.nsIn K mainGlobals "abs" = some none)
    (z_enumerate : PySem.W.nsIn K mainGlobals "enumerate" = some none)
    (z_int : PySem.W.nsIn K mainGlobals "int" = some none)
    (z_isinstance : PySem.W.nsIn K mainGlobals "isinstance" = some none)
    (z_len : PySem.W.nsIn K mainGlobals "len" = some none)
    (z_max : PySem.W.nsIn K mainGlobals "max" = some none)
    (z_min : PySem.W.nsIn K mainGlobals "min" = some none)
    (z_range : PySem.W.nsIn K mainGlobals "range" = some none)
    (z_repr : PySem.W.nsIn K mainGlobals "repr" = some none)
    (z_sum : PySem.W.nsIn K mainGlobals "sum" = some none)
    (g_ReachError : PySem.W.nsIn K mainGlobals "ReachError" = some (some (.ref c0)))
    (E1_ReachError : PySem.W.findIn K (.ref c0) "__getattribute__" = some (some (.builtin "BaseException.__getattribute__")))
    (E2_ReachError : PySem.W.findIn K (.ref c0) "__getattr__" = some none)
    (E3_ReachError : PySem.W.subIn K (.ref c0) (.type "BaseException") = some true)
    (E4_ReachError : PySem.W.hasDictIn K c0 = true)
    (E5_ReachError : PySem.W.findIn K (.ref c0) "__class__" = some (some (.builtin "object.__class__")))
    (E8_ReachError : PySem.W.mroIn K c0 (.type "object") = some true)
    (g_NoFields : PySem.W.nsIn K mainGlobals "NoFields" = some (some (.ref c1)))
    (E1_NoFields : PySem.W.findIn K (.ref c1) "__getattribute__" = some (some (.builtin "BaseException.__getattribute__")))
    (E2_NoFields : PySem.W.findIn K (.ref c1) "__getattr__" = some none)
    (E3_NoFields : PySem.W.subIn K (.ref c1) (.type "BaseException") = some true)
    (E4_NoFields : PySem.W.hasDictIn K c1 = true)
    (E5_NoFields : PySem.W.findIn K (.ref c1) "__class__" = some (some (.builtin "object.__class__")))
    (E8_NoFields : PySem.W.mroIn K c1 (.type "object") = some true)
    (g_NoBounds : PySem.W.nsIn K mainGlobals "NoBounds" = some (some (.ref c2)))
    (E1_NoBounds : PySem.W.findIn K (.ref c2) "__getattribute__" = some (some (.builtin "BaseException.__getattribute__")))
    (E2_NoBounds : PySem.W.findIn K (.ref c2) "__getattr__" = some none)
    (E3_NoBounds : PySem.W.subIn K (.ref c2) (.type "BaseException") = some true)
    (E4_NoBounds : PySem.W.hasDictIn K c2 = true)
    (E5_NoBounds : PySem.W.findIn K (.ref c2) "__class__" = some (some (.builtin "object.__class__")))
    (E8_NoBounds : PySem.W.mroIn K c2 (.type "object") = some true)
    (g_NoOffset : PySem.W.nsIn K mainGlobals "NoOffset" = some (some (.ref c3)))
    (E1_NoOffset : PySem.W.findIn K (.ref c3) "__getattribute__" = some (some (.builtin "BaseException.__getattribute__")))
    (E2_NoOffset : PySem.W.findIn K (.ref c3) "__getattr__" = some none)
    (E3_NoOffset : PySem.W.subIn K (.ref c3) (.type "BaseException") = some true)
    (E4_NoOffset : PySem.W.hasDictIn K c3 = true)
    (E5_NoOffset : PySem.W.findIn K (.ref c3) "__class__" = some (some (.builtin "object.__class__")))
    (E8_NoOffset : PySem.W.mroIn K c3 (.type "object") = some true)
    (g_NoAddress : PySem.W.nsIn K mainGlobals "NoAddress" = some (some (.ref c4)))
    (E1_NoAddress : PySem.W.findIn K (.ref c4) "__getattribute__" = some (some (.builtin "BaseException.__getattribute__")))
    (E2_NoAddress : PySem.W.findIn K (.ref c4) "__getattr__" = some none)
    (E3_NoAddress : PySem.W.subIn K (.ref c4) (.type "BaseException") = some true)
    (E4_NoAddress : PySem.W.hasDictIn K c4 = true)
    (E5_NoAddress : PySem.W.findIn K (.ref c4) "__class__" = some (some (.builtin "object.__class__")))
    (E8_NoAddress : PySem.W.mroIn K c4 (.type "object") = some true)
    (g_NoWord : PySem.W.nsIn K mainGlobals "NoWord" = some (some (.ref c5)))
    (E1_NoWord : PySem.W.findIn K (.ref c5) "__getattribute__" = some (some (.builtin "BaseException.__getattribute__")))
    (E2_NoWord : PySem.W.findIn K (.ref c5) "__getattr__" = some none)
    (E3_NoWord : PySem.W.subIn K (.ref c5) (.type "BaseException") = some true)
    (E4_NoWord : PySem.W.hasDictIn K c5 = true)
    (E5_NoWord : PySem.W.findIn K (.ref c5) "__class__" = some (some (.builtin "object.__class__")))
    (E8_NoWord : PySem.W.mroIn K c5 (.type "object") = some true)
    (g_NoHands : PySem.W.nsIn K mainGlobals "NoHands" = some (some (.ref c6)))
    (E1_NoHands : PySem.W.findIn K (.ref c6) "__getattribute__" = some (some (.builtin "BaseException.__getattribute__")))
    (E2_NoHands : PySem.W.findIn K (.ref c6) "__getattr__" = some none)
    (E3_NoHands : PySem.W.subIn K (.ref c6) (.type "BaseException") = some true)
    (E4_NoHands : PySem.W.hasDictIn K c6 = true)
    (E5_NoHands : PySem.W.findIn K (.ref c6) "__class__" = some (some (.builtin "object.__class__")))
    (E8_NoHands : PySem.W.mroIn K c6 (.type "object") = some true)
    (g_NoRule : PySem.W.nsIn K mainGlobals "NoRule" = some (some (.ref c7)))
    (E1_NoRule : PySem.W.findIn K (.ref c7) "__getattribute__" = some (some (.builtin "BaseException.__getattribute__")))
    (E2_NoRule : PySem.W.findIn K (.ref c7) "__getattr__" = some none)
    (E3_NoRule : PySem.W.subIn K (.ref c7) (.type "BaseException") = some true)
    (E4_NoRule : PySem.W.hasDictIn K c7 = true)
    (E5_NoRule : PySem.W.findIn K (.ref c7) "__class__" = some (some (.builtin "object.__class__")))
    (E8_NoRule : PySem.W.mroIn K c7 (.type "object") = some true)
    (g_NoNumber : PySem.W.nsIn K mainGlobals "NoNumber" = some (some (.ref c8)))
    (E1_NoNumber : PySem.W.findIn K (.ref c8) "__getattribute__" = some (some (.builtin "BaseException.__getattribute__")))
    (E2_NoNumber : PySem.W.findIn K (.ref c8) "__getattr__" = some none)
    (E3_NoNumber : PySem.W.subIn K (.ref c8) (.type "BaseException") = some true)
    (E4_NoNumber : PySem.W.hasDictIn K c8 = true)
    (E5_NoNumber : PySem.W.findIn K (.ref c8) "__class__" = some (some (.builtin "object.__class__")))
    (E8_NoNumber : PySem.W.mroIn K c8 (.type "object") = some true)
    (g_NoLine : PySem.W.nsIn K mainGlobals "NoLine" = some (some (.ref c9)))
    (E1_NoLine : PySem.W.findIn K (.ref c9) "__getattribute__" = some (some (.builtin "BaseException.__getattribute__")))
    (E2_NoLine : PySem.W.findIn K (.ref c9) "__getattr__" = some none)
    (E3_NoLine : PySem.W.subIn K (.ref c9) (.type "BaseException") = some true)
    (E4_NoLine : PySem.W.hasDictIn K c9 = true)
    (E5_NoLine : PySem.W.findIn K (.ref c9) "__class__" = some (some (.builtin "object.__class__")))
    (E8_NoLine : PySem.W.mroIn K c9 (.type "object") = some true)
    (g_Fault : PySem.W.nsIn K mainGlobals "Fault" = some (some (.ref c10)))
    (E1_Fault : PySem.W.findIn K (.ref c10) "__getattribute__" = some (some (.builtin "BaseException.__getattribute__")))
    (E2_Fault : PySem.W.findIn K (.ref c10) "__getattr__" = some none)
    (E3_Fault : PySem.W.subIn K (.ref c10) (.type "BaseException") = some true)
    (E4_Fault : PySem.W.hasDictIn K c10 = true)
    (E5_Fault : PySem.W.findIn K (.ref c10) "__class__" = some (some (.builtin "object.__class__")))
    (E8_Fault : PySem.W.mroIn K c10 (.type "object") = some true)
    (g_NoRows : PySem.W.nsIn K mainGlobals "NoRows" = some (some (.ref c11)))
    (E1_NoRows : PySem.W.findIn K (.ref c11) "__getattribute__" = some (some (.builtin "BaseException.__getattribute__")))
    (E2_NoRows : PySem.W.findIn K (.ref c11) "__getattr__" = some none)
    (E3_NoRows : PySem.W.subIn K (.ref c11) (.type "BaseException") = some true)
    (E4_NoRows : PySem.W.hasDictIn K c11 = true)
    (E5_NoRows : PySem.W.findIn K (.ref c11) "__class__" = some (some (.builtin "object.__class__")))
    (E8_NoRows : PySem.W.mroIn K c11 (.type "object") = some true)
    (g_NoText : PySem.W.nsIn K mainGlobals "NoText" = some (some (.ref c12)))
    (E1_NoText : PySem.W.findIn K (.ref c12) "__getattribute__" = some (some (.builtin "BaseException.__getattribute__")))
    (E2_NoText : PySem.W.findIn K (.ref c12) "__getattr__" = some none)
    (E3_NoText : PySem.W.subIn K (.ref c12) (.type "BaseException") = some true)
    (E4_NoText : PySem.W.hasDictIn K c12 = true)
    (E5_NoText : PySem.W.findIn K (.ref c12) "__class__" = some (some (.builtin "object.__class__")))
    (E8_NoText : PySem.W.mroIn K c12 (.type "object") = some true)
    (g_NoDeeds : PySem.W.nsIn K mainGlobals "NoDeeds" = some (some (.ref c13)))
    (E1_NoDeeds : PySem.W.findIn K (.ref c13) "__getattribute__" = some (some (.builtin "BaseException.__getattribute__")))
    (E2_NoDeeds : PySem.W.findIn K (.ref c13) "__getattr__" = some none)
    (E3_NoDeeds : PySem.W.subIn K (.ref c13) (.type "BaseException") = some true)
    (E4_NoDeeds : PySem.W.hasDictIn K c13 = true)
    (E5_NoDeeds : PySem.W.findIn K (.ref c13) "__class__" = some (some (.builtin "object.__class__")))
    (E8_NoDeeds : PySem.W.mroIn K c13 (.type "object") = some true)
    (g_NoCompartment : PySem.W.nsIn K mainGlobals "NoCompartment" = some (some (.ref c14)))
    (E1_NoCompartment : PySem.W.findIn K (.ref c14) "__getattribute__" = some (some (.builtin "BaseException.__getattribute__")))
    (E2_NoCompartment : PySem.W.findIn K (.ref c14) "__getattr__" = some none)
    (E3_NoCompartment : PySem.W.subIn K (.ref c14) (.type "BaseException") = some true)
    (E4_NoCompartment : PySem.W.hasDictIn K c14 = true)
    (E5_NoCompartment : PySem.W.findIn K (.ref c14) "__class__" = some (some (.builtin "object.__class__")))
    (E8_NoCompartment : PySem.W.mroIn K c14 (.type "object") = some true)
    (g_TooMany : PySem.W.nsIn K mainGlobals "TooMany" = some (some (.ref c15)))
    (E1_TooMany : PySem.W.findIn K (.ref c15) "__getattribute__" = some (some (.builtin "BaseException.__getattribute__")))
    (E2_TooMany : PySem.W.findIn K (.ref c15) "__getattr__" = some none)
    (E3_TooMany : PySem.W.subIn K (.ref c15) (.type "BaseException") = some true)
    (E4_TooMany : PySem.W.hasDictIn K c15 = true)
    (E5_TooMany : PySem.W.findIn K (.ref c15) "__class__" = some (some (.builtin "object.__class__")))
    (E8_TooMany : PySem.W.mroIn K c15 (.type "object") = some true)
    (g_NoName : PySem.W.nsIn K mainGlobals "NoName" = some (some (.ref c16)))
    (E1_NoName : PySem.W.findIn K (.ref c16) "__getattribute__" = some (some (.builtin "BaseException.__getattribute__")))
    (E2_NoName : PySem.W.findIn K (.ref c16) "__getattr__" = some none)
    (E3_NoName : PySem.W.subIn K (.ref c16) (.type "BaseException") = some true)
    (E4_NoName : PySem.W.hasDictIn K c16 = true)
    (E5_NoName : PySem.W.findIn K (.ref c16) "__class__" = some (some (.builtin "object.__class__")))
    (E8_NoName : PySem.W.mroIn K c16 (.type "object") = some true)
    (g_Sweeping : PySem.W.nsIn K mainGlobals "Sweeping" = some (some (.ref c17)))
    (E1_Sweeping : PySem.W.findIn K (.ref c17) "__getattribute__" = some (some (.builtin "BaseException.__getattribute__")))
    (E2_Sweeping : PySem.W.findIn K (.ref c17) "__getattr__" = some none)
    (E3_Sweeping : PySem.W.subIn K (.ref c17) (.type "BaseException") = some true)
    (E4_Sweeping : PySem.W.hasDictIn K c17 = true)
    (E5_Sweeping : PySem.W.findIn K (.ref c17) "__class__" = some (some (.builtin "object.__class__")))
    (E8_Sweeping : PySem.W.mroIn K c17 (.type "object") = some true)
    (g_NoSweep : PySem.W.nsIn K mainGlobals "NoSweep" = some (some (.ref c18)))
    (E1_NoSweep : PySem.W.findIn K (.ref c18) "__getattribute__" = some (some (.builtin "BaseException.__getattribute__")))
    (E2_NoSweep : PySem.W.findIn K (.ref c18) "__getattr__" = some none)
    (E3_NoSweep : PySem.W.subIn K (.ref c18) (.type "BaseException") = some true)
    (E4_NoSweep : PySem.W.hasDictIn K c18 = true)
    (E5_NoSweep : PySem.W.findIn K (.ref c18) "__class__" = some (some (.builtin "object.__class__")))
    (E8_NoSweep : PySem.W.mroIn K c18 (.type "object") = some true)
    (E6 : PySem.W.specialIn K (.builtin "object.__class__") "__get__" = some (some (.builtin "getset_descriptor.__get__")))
    (E7 : PySem.W.takesIn K (.builtin "object.__class__") = some true)
    (vB_KeyError : PySem.W.findCls K (.type "KeyError") (.type "type") "__init__" = some (.val (.builtin "KeyError.__init__")))
    (vB_OverflowError : PySem.W.findCls K (.type "OverflowError") (.type "type") "__init__" = some (.val (.builtin "OverflowError.__init__")))
    (sp_ReachError : PySem.W.specialIn K (.ref c0) "__getattribute__" = some (some (.builtin "type.__getattribute__")))
    (rd_ReachError : PySem.W.readsIn K c0 (.type "type") = true)
    (vl_ReachError : PySem.W.findCls K (.ref c0) (.type "type") "__init__" = some (.val (.builtin "ValueError.__init__")))
    (xL_Fault : K.lookup c10 = some (excClassObj nm10 q10 c10 N10 bs10 [.ref c0, .type "ValueError", .type "Exception", .type "BaseException", .type "object"] true sn10 sub10 ab10 col10 dd10 m010 m110 m210 m310 m510 "ValueError.__new__"))
    (sa_Fault : PySem.W.findIn K (.ref c10) "__setattr__" = some (some (.builtin "object.__setattr__")))
    (iC_Fault : PySem.W.findIn K (.ref c10) "__init__" = some (some (.ref g10)))
    (tI_Fault : PySem.W.typeIn K (.ref g10) = some (.type "function"))
    (li_Fault : K.lookup g10 = some ⟨ioc10, iod10, .func (PySem.W.fnOf "__init__" "Fault.__init__" (defArgs si_Fault) (defBody si_Fault) (defScope si_Fault) .none ikV10 idc10 ipm10 ian10 icd10 ict10), isl10⟩)
    (oi_Fault : PySem.W.codeIn K icd10 "Fault.__init__" = true)
    (pi_Fault : PySem.W.keepIn K (.ref g10) = true)
    (p_Fault : PySem.W.keepIn K (.ref c10) = true)
    (u_Fault : PySem.W.subIn K (.ref c10) (.type "BaseException") = some true)
    (y_Fault : PySem.W.typeIn K (.ref c10) = some (.type "type"))
    (xL_NoRows : K.lookup c11 = some (excClassObj nm11 q11 c11 N11 bs11 [.ref c0, .type "ValueError", .type "Exception", .type "BaseException", .type "object"] true sn11 sub11 ab11 col11 dd11 m011 m111 m211 m311 m511 "ValueError.__new__"))
    (sa_NoRows : PySem.W.findIn K (.ref c11) "__setattr__" = some (some (.builtin "object.__setattr__")))
    (iC_NoRows : PySem.W.findIn K (.ref c11) "__init__" = some (some (.ref g11)))
    (tI_NoRows : PySem.W.typeIn K (.ref g11) = some (.type "function"))
    (li_NoRows : K.lookup g11 = some ⟨ioc11, iod11, .func (PySem.W.fnOf "__init__" "NoRows.__init__" (defArgs si_NoRows) (defBody si_NoRows) (defScope si_NoRows) .none ikV11 idc11 ipm11 ian11 icd11 ict11), isl11⟩)
    (oi_NoRows : PySem.W.codeIn K icd11 "NoRows.__init__" = true)
    (pi_NoRows : PySem.W.keepIn K (.ref g11) = true)
    (p_NoRows : PySem.W.keepIn K (.ref c11) = true)
    (u_NoRows : PySem.W.subIn K (.ref c11) (.type "BaseException") = some true)
    (y_NoRows : PySem.W.typeIn K (.ref c11) = some (.type "type"))
    (xL_NoText : K.lookup c12 = some (excClassObj nm12 q12 c12 N12 bs12 [.ref c0, .type "ValueError", .type "Exception", .type "BaseException", .type "object"] true sn12 sub12 ab12 col12 dd12 m012 m112 m212 m312 m512 "ValueError.__new__"))
    (sa_NoText : PySem.W.findIn K (.ref c12) "__setattr__" = some (some (.builtin "object.__setattr__")))
    (iC_NoText : PySem.W.findIn K (.ref c12) "__init__" = some (some (.ref g12)))
    (tI_NoText : PySem.W.typeIn K (.ref g12) = some (.type "function"))
    (li_NoText : K.lookup g12 = some ⟨ioc12, iod12, .func (PySem.W.fnOf "__init__" "NoText.__init__" (defArgs si_NoText) (defBody si_NoText) (defScope si_NoText) .none ikV12 idc12 ipm12 ian12 icd12 ict12), isl12⟩)
    (oi_NoText : PySem.W.codeIn K icd12 "NoText.__init__" = true)
    (pi_NoText : PySem.W.keepIn K (.ref g12) = true)
    (p_NoText : PySem.W.keepIn K (.ref c12) = true)
    (u_NoText : PySem.W.subIn K (.ref c12) (.type "BaseException") = some true)
    (y_NoText : PySem.W.typeIn K (.ref c12) = some (.type "type"))
    (xL_NoDeeds : K.lookup c13 = some (excClassObj nm13 q13 c13 N13 bs13 [.ref c0, .type "ValueError", .type "Exception", .type "BaseException", .type "object"] true sn13 sub13 ab13 col13 dd13 m013 m113 m213 m313 m513 "ValueError.__new__"))
    (sa_NoDeeds : PySem.W.findIn K (.ref c13) "__setattr__" = some (some (.builtin "object.__setattr__")))
    (iC_NoDeeds : PySem.W.findIn K (.ref c13) "__init__" = some (some (.ref g13)))
    (tI_NoDeeds : PySem.W.typeIn K (.ref g13) = some (.type "function"))
    (li_NoDeeds : K.lookup g13 = some ⟨ioc13, iod13, .func (PySem.W.fnOf "__init__" "NoDeeds.__init__" (defArgs si_NoDeeds) (defBody si_NoDeeds) (defScope si_NoDeeds) .none ikV13 idc13 ipm13 ian13 icd13 ict13), isl13⟩)
    (oi_NoDeeds : PySem.W.codeIn K icd13 "NoDeeds.__init__" = true)
    (pi_NoDeeds : PySem.W.keepIn K (.ref g13) = true)
    (p_NoDeeds : PySem.W.keepIn K (.ref c13) = true)
    (u_NoDeeds : PySem.W.subIn K (.ref c13) (.type "BaseException") = some true)
    (y_NoDeeds : PySem.W.typeIn K (.ref c13) = some (.type "type"))
    (xL_NoCompartment : K.lookup c14 = some (excClassObj nm14 q14 c14 N14 bs14 [.ref c0, .type "ValueError", .type "Exception", .type "BaseException", .type "object"] true sn14 sub14 ab14 col14 dd14 m014 m114 m214 m314 m514 "ValueError.__new__"))
    (sa_NoCompartment : PySem.W.findIn K (.ref c14) "__setattr__" = some (some (.builtin "object.__setattr__")))
    (iC_NoCompartment : PySem.W.findIn K (.ref c14) "__init__" = some (some (.ref g14)))
    (tI_NoCompartment : PySem.W.typeIn K (.ref g14) = some (.type "function"))
    (li_NoCompartment : K.lookup g14 = some ⟨ioc14, iod14, .func (PySem.W.fnOf "__init__" "NoCompartment.__init__" (defArgs si_NoCompartment) (defBody si_NoCompartment) (defScope si_NoCompartment) .none ikV14 idc14 ipm14 ian14 icd14 ict14), isl14⟩)
    (oi_NoCompartment : PySem.W.codeIn K icd14 "NoCompartment.__init__" = true)
    (pi_NoCompartment : PySem.W.keepIn K (.ref g14) = true)
    (p_NoCompartment : PySem.W.keepIn K (.ref c14) = true)
    (u_NoCompartment : PySem.W.subIn K (.ref c14) (.type "BaseException") = some true)
    (y_NoCompartment : PySem.W.typeIn K (.ref c14) = some (.type "type"))
    (xL_TooMany : K.lookup c15 = some (excClassObj nm15 q15 c15 N15 bs15 [.type "OverflowError", .type "ArithmeticError", .type "Exception", .type "BaseException", .type "object"] true sn15 sub15 ab15 col15 dd15 m015 m115 m215 m315 m515 "OverflowError.__new__"))
    (sa_TooMany : PySem.W.findIn K (.ref c15) "__setattr__" = some (some (.builtin "object.__setattr__")))
    (iC_TooMany : PySem.W.findIn K (.ref c15) "__init__" = some (some (.ref g15)))
    (tI_TooMany : PySem.W.typeIn K (.ref g15) = some (.type "function"))
    (li_TooMany : K.lookup g15 = some ⟨ioc15, iod15, .func (PySem.W.fnOf "__init__" "TooMany.__init__" (defArgs si_TooMany) (defBody si_TooMany) (defScope si_TooMany) .none ikV15 idc15 ipm15 ian15 icd15 ict15), isl15⟩)
    (oi_TooMany : PySem.W.codeIn K icd15 "TooMany.__init__" = true)
    (pi_TooMany : PySem.W.keepIn K (.ref g15) = true)
    (p_TooMany : PySem.W.keepIn K (.ref c15) = true)
    (u_TooMany : PySem.W.subIn K (.ref c15) (.type "BaseException") = some true)
    (y_TooMany : PySem.W.typeIn K (.ref c15) = some (.type "type"))
    (xL_NoName : K.lookup c16 = some (excClassObj nm16 q16 c16 N16 bs16 [.type "KeyError", .type "LookupError", .type "Exception", .type "BaseException", .type "object"] true sn16 sub16 ab16 col16 dd16 m016 m116 m216 m316 m516 "LookupError.__new__"))
    (sa_NoName : PySem.W.findIn K (.ref c16) "__setattr__" = some (some (.builtin "object.__setattr__")))
    (iC_NoName : PySem.W.findIn K (.ref c16) "__init__" = some (some (.ref g16)))
    (tI_NoName : PySem.W.typeIn K (.ref g16) = some (.type "function"))
    (li_NoName : K.lookup g16 = some ⟨ioc16, iod16, .func (PySem.W.fnOf "__init__" "NoName.__init__" (defArgs si_NoName) (defBody si_NoName) (defScope si_NoName) .none ikV16 idc16 ipm16 ian16 icd16 ict16), isl16⟩)
    (oi_NoName : PySem.W.codeIn K icd16 "NoName.__init__" = true)
    (pi_NoName : PySem.W.keepIn K (.ref g16) = true)
    (p_NoName : PySem.W.keepIn K (.ref c16) = true)
    (u_NoName : PySem.W.subIn K (.ref c16) (.type "BaseException") = some true)
    (y_NoName : PySem.W.typeIn K (.ref c16) = some (.type "type"))
    (no_Fault_word : PySem.W.findIn K (.ref c10) "word" = some none)
    (no_NoCompartment_number : PySem.W.findIn K (.ref c14) "number" = some none)
    (no_NoCompartment_part : PySem.W.findIn K (.ref c14) "part" = some none)
    (no_NoDeeds_number : PySem.W.findIn K (.ref c13) "number" = some none)
    (no_NoName_name : PySem.W.findIn K (.ref c16) "name" = some none)
    (no_NoRows_number : PySem.W.findIn K (.ref c11) "number" = some none)
    (no_NoText_number : PySem.W.findIn K (.ref c12) "number" = some none)
    (no_TooMany_size : PySem.W.findIn K (.ref c15) "size" = some none)
    (x_NoAddress : PySem.W.excIn K c4 [.type "ValueError", .type "Exception", .type "BaseException", .type "object"] "ValueError.__new__" = true)
    (p_NoAddress : PySem.W.keepIn K (.ref c4) = true)
    (u_NoAddress : PySem.W.subIn K (.ref c4) (.type "BaseException") = some true)
    (y_NoAddress : PySem.W.typeIn K (.ref c4) = some (.type "type"))
    (x_NoBounds : PySem.W.excIn K c2 [.type "ValueError", .type "Exception", .type "BaseException", .type "object"] "ValueError.__new__" = true)
    (p_NoBounds : PySem.W.keepIn K (.ref c2) = true)
    (u_NoBounds : PySem.W.subIn K (.ref c2) (.type "BaseException") = some true)
    (y_NoBounds : PySem.W.typeIn K (.ref c2) = some (.type "type"))
    (x_NoFields : PySem.W.excIn K c1 [.type "ValueError", .type "Exception", .type "BaseException", .type "object"] "ValueError.__new__" = true)
    (p_NoFields : PySem.W.keepIn K (.ref c1) = true)
    (u_NoFields : PySem.W.subIn K (.ref c1) (.type "BaseException") = some true)
    (y_NoFields : PySem.W.typeIn K (.ref c1) = some (.type "type"))
    (x_NoHands : PySem.W.excIn K c6 [.type "ValueError", .type "Exception", .type "BaseException", .type "object"] "ValueError.__new__" = true)
    (p_NoHands : PySem.W.keepIn K (.ref c6) = true)
    (u_NoHands : PySem.W.subIn K (.ref c6) (.type "BaseException") = some true)
    (y_NoHands : PySem.W.typeIn K (.ref c6) = some (.type "type"))
    (x_NoLine : PySem.W.excIn K c9 [.type "ValueError", .type "Exception", .type "BaseException", .type "object"] "ValueError.__new__" = true)
    (p_NoLine : PySem.W.keepIn K (.ref c9) = true)
    (u_NoLine : PySem.W.subIn K (.ref c9) (.type "BaseException") = some true)
    (y_NoLine : PySem.W.typeIn K (.ref c9) = some (.type "type"))
    (x_NoNumber : PySem.W.excIn K c8 [.type "ValueError", .type "Exception", .type "BaseException", .type "object"] "ValueError.__new__" = true)
    (p_NoNumber : PySem.W.keepIn K (.ref c8) = true)
    (u_NoNumber : PySem.W.subIn K (.ref c8) (.type "BaseException") = some true)
    (y_NoNumber : PySem.W.typeIn K (.ref c8) = some (.type "type"))
    (x_NoOffset : PySem.W.excIn K c3 [.type "ValueError", .type "Exception", .type "BaseException", .type "object"] "ValueError.__new__" = true)
    (p_NoOffset : PySem.W.keepIn K (.ref c3) = true)
    (u_NoOffset : PySem.W.subIn K (.ref c3) (.type "BaseException") = some true)
    (y_NoOffset : PySem.W.typeIn K (.ref c3) = some (.type "type"))
    (x_NoRule : PySem.W.excIn K c7 [.type "ValueError", .type "Exception", .type "BaseException", .type "object"] "ValueError.__new__" = true)
    (p_NoRule : PySem.W.keepIn K (.ref c7) = true)
    (u_NoRule : PySem.W.subIn K (.ref c7) (.type "BaseException") = some true)
    (y_NoRule : PySem.W.typeIn K (.ref c7) = some (.type "type"))
    (x_NoSweep : PySem.W.excIn K c18 [.type "LookupError", .type "Exception", .type "BaseException", .type "object"] "LookupError.__new__" = true)
    (p_NoSweep : PySem.W.keepIn K (.ref c18) = true)
    (u_NoSweep : PySem.W.subIn K (.ref c18) (.type "BaseException") = some true)
    (y_NoSweep : PySem.W.typeIn K (.ref c18) = some (.type "type"))
    (x_NoWord : PySem.W.excIn K c5 [.type "ValueError", .type "Exception", .type "BaseException", .type "object"] "ValueError.__new__" = true)
    (p_NoWord : PySem.W.keepIn K (.ref c5) = true)
    (u_NoWord : PySem.W.subIn K (.ref c5) (.type "BaseException") = some true)
    (y_NoWord : PySem.W.typeIn K (.ref c5) = some (.type "type"))
    (x_Sweeping : PySem.W.excIn K c17 [.type "RuntimeError", .type "Exception", .type "BaseException", .type "object"] "RuntimeError.__new__" = true)
    (p_Sweeping : PySem.W.keepIn K (.ref c17) = true)
    (u_Sweeping : PySem.W.subIn K (.ref c17) (.type "BaseException") = some true)
    (y_Sweeping : PySem.W.typeIn K (.ref c17) = some (.type "type"))
    (q_Fault_Fault : PySem.W.kitOne K (.ref c10) (.ref c10) = some true)
    (q_Fault_IndexError : PySem.W.kitOne K (.ref c10) (.type "IndexError") = some false)
    (q_Fault_KeyError : PySem.W.kitOne K (.ref c10) (.type "KeyError") = some false)
    (q_Fault_LookupError : PySem.W.kitOne K (.ref c10) (.type "LookupError") = some false)
    (q_Fault_NoAddress : PySem.W.kitOne K (.ref c10) (.ref c4) = some false)
    (q_Fault_NoBounds : PySem.W.kitOne K (.ref c10) (.ref c2) = some false)
    (q_Fault_NoCompartment : PySem.W.kitOne K (.ref c10) (.ref c14) = some false)
    (q_Fault_NoDeeds : PySem.W.kitOne K (.ref c10) (.ref c13) = some false)
    (q_Fault_NoFields : PySem.W.kitOne K (.ref c10) (.ref c1) = some false)
    (q_Fault_NoHands : PySem.W.kitOne K (.ref c10) (.ref c6) = some false)
    (q_Fault_NoLine : PySem.W.kitOne K (.ref c10) (.ref c9) = some false)
    (q_Fault_NoName : PySem.W.kitOne K (.ref c10) (.ref c16) = some false)
    (q_Fault_NoNumber : PySem.W.kitOne K (.ref c10) (.ref c8) = some false)
    (q_Fault_NoOffset : PySem.W.kitOne K (.ref c10) (.ref c3) = some false)
    (q_Fault_NoRows : PySem.W.kitOne K (.ref c10) (.ref c11) = some false)
    (q_Fault_NoRule : PySem.W.kitOne K (.ref c10) (.ref c7) = some false)
    (q_Fault_NoSweep : PySem.W.kitOne K (.ref c10) (.ref c18) = some false)
    (q_Fault_NoText : PySem.W.kitOne K (.ref c10) (.ref c12) = some false)
    (q_Fault_NoWord : PySem.W.kitOne K (.ref c10) (.ref c5) = some false)
    (q_Fault_OverflowError : PySem.W.kitOne K (.ref c10) (.type "OverflowError") = some false)
    (q_Fault_ReachError : PySem.W.kitOne K (.ref c10) (.ref c0) = some true)
    (q_Fault_RuntimeError : PySem.W.kitOne K (.ref c10) (.type "RuntimeError") = some false)
    (q_Fault_Sweeping : PySem.W.kitOne K (.ref c10) (.ref c17) = some false)
    (q_Fault_TooMany : PySem.W.kitOne K (.ref c10) (.ref c15) = some false)
    (q_Fault_ValueError : PySem.W.kitOne K (.ref c10) (.type "ValueError") = some true)
    (q_NoAddress_Fault : PySem.W.kitOne K (.ref c4) (.ref c10) = some false)
    (q_NoAddress_IndexError : PySem.W.kitOne K (.ref c4) (.type "IndexError") = some false)
    (q_NoAddress_KeyError : PySem.W.kitOne K (.ref c4) (.type "KeyError") = some false)
    (q_NoAddress_LookupError : PySem.W.kitOne K (.ref c4) (.type "LookupError") = some false)
    (q_NoAddress_NoAddress : PySem.W.kitOne K (.ref c4) (.ref c4) = some true)
    (q_NoAddress_NoBounds : PySem.W.kitOne K (.ref c4) (.ref c2) = some false)
    (q_NoAddress_NoCompartment : PySem.W.kitOne K (.ref c4) (.ref c14) = some false)
    (q_NoAddress_NoDeeds : PySem.W.kitOne K (.ref c4) (.ref c13) = some false)
    (q_NoAddress_NoFields : PySem.W.kitOne K (.ref c4) (.ref c1) = some false)
    (q_NoAddress_NoHands : PySem.W.kitOne K (.ref c4) (.ref c6) = some false)
    (q_NoAddress_NoLine : PySem.W.kitOne K (.ref c4) (.ref c9) = some false)
    (q_NoAddress_NoName : PySem.W.kitOne K (.ref c4) (.ref c16) = some false)
    (q_NoAddress_NoNumber : PySem.W.kitOne K (.ref c4) (.ref c8) = some false)
    (q_NoAddress_NoOffset : PySem.W.kitOne K (.ref c4) (.ref c3) = some false)
    (q_NoAddress_NoRows : PySem.W.kitOne K (.ref c4) (.ref c11) = some false)
    (q_NoAddress_NoRule : PySem.W.kitOne K (.ref c4) (.ref c7) = some false)
    (q_NoAddress_NoSweep : PySem.W.kitOne K (.ref c4) (.ref c18) = some false)
    (q_NoAddress_NoText : PySem.W.kitOne K (.ref c4) (.ref c12) = some false)
    (q_NoAddress_NoWord : PySem.W.kitOne K (.ref c4) (.ref c5) = some false)
    (q_NoAddress_OverflowError : PySem.W.kitOne K (.ref c4) (.type "OverflowError") = some false)
    (q_NoAddress_ReachError : PySem.W.kitOne K (.ref c4) (.ref c0) = some true)
    (q_NoAddress_RuntimeError : PySem.W.kitOne K (.ref c4) (.type "RuntimeError") = some false)
    (q_NoAddress_Sweeping : PySem.W.kitOne K (.ref c4) (.ref c17) = some false)
    (q_NoAddress_TooMany : PySem.W.kitOne K (.ref c4) (.ref c15) = some false)
    (q_NoAddress_ValueError : PySem.W.kitOne K (.ref c4) (.type "ValueError") = some true)
    (q_NoBounds_Fault : PySem.W.kitOne K (.ref c2) (.ref c10) = some false)
    (q_NoBounds_IndexError : PySem.W.kitOne K (.ref c2) (.type "IndexError") = some false)
    (q_NoBounds_KeyError : PySem.W.kitOne K (.ref c2) (.type "KeyError") = some false)
    (q_NoBounds_LookupError : PySem.W.kitOne K (.ref c2) (.type "LookupError") = some false)
    (q_NoBounds_NoAddress : PySem.W.kitOne K (.ref c2) (.ref c4) = some false)
    (q_NoBounds_NoBounds : PySem.W.kitOne K (.ref c2) (.ref c2) = some true)
    (q_NoBounds_NoCompartment : PySem.W.kitOne K (.ref c2) (.ref c14) = some false)
    (q_NoBounds_NoDeeds : PySem.W.kitOne K (.ref c2) (.ref c13) = some false)
    (q_NoBounds_NoFields : PySem.W.kitOne K (.ref c2) (.ref c1) = some false)
    (q_NoBounds_NoHands : PySem.W.kitOne K (.ref c2) (.ref c6) = some false)
    (q_NoBounds_NoLine : PySem.W.kitOne K (.ref c2) (.ref c9) = some false)
    (q_NoBounds_NoName : PySem.W.kitOne K (.ref c2) (.ref c16) = some false)
    (q_NoBounds_NoNumber : PySem.W.kitOne K (.ref c2) (.ref c8) = some false)
    (q_NoBounds_NoOffset : PySem.W.kitOne K (.ref c2) (.ref c3) = some false)
    (q_NoBounds_NoRows : PySem.W.kitOne K (.ref c2) (.ref c11) = some false)
    (q_NoBounds_NoRule : PySem.W.kitOne K (.ref c2) (.ref c7) = some false)
    (q_NoBounds_NoSweep : PySem.W.kitOne K (.ref c2) (.ref c18) = some false)
    (q_NoBounds_NoText : PySem.W.kitOne K (.ref c2) (.ref c12) = some false)
    (q_NoBounds_NoWord : PySem.W.kitOne K (.ref c2) (.ref c5) = some false)
    (q_NoBounds_OverflowError : PySem.W.kitOne K (.ref c2) (.type "OverflowError") = some false)
    (q_NoBounds_ReachError : PySem.W.kitOne K (.ref c2) (.ref c0) = some true)
    (q_NoBounds_RuntimeError : PySem.W.kitOne K (.ref c2) (.type "RuntimeError") = some false)
    (q_NoBounds_Sweeping : PySem.W.kitOne K (.ref c2) (.ref c17) = some false)
    (q_NoBounds_TooMany : PySem.W.kitOne K (.ref c2) (.ref c15) = some false)
    (q_NoBounds_ValueError : PySem.W.kitOne K (.ref c2) (.type "ValueError") = some true)
    (q_NoCompartment_Fault : PySem.W.kitOne K (.ref c14) (.ref c10) = some false)
    (q_NoCompartment_IndexError : PySem.W.kitOne K (.ref c14) (.type "IndexError") = some false)
    (q_NoCompartment_KeyError : PySem.W.kitOne K (.ref c14) (.type "KeyError") = some false)
    (q_NoCompartment_LookupError : PySem.W.kitOne K (.ref c14) (.type "LookupError") = some false)
    (q_NoCompartment_NoAddress : PySem.W.kitOne K (.ref c14) (.ref c4) = some false)
    (q_NoCompartment_NoBounds : PySem.W.kitOne K (.ref c14) (.ref c2) = some false)
    (q_NoCompartment_NoCompartment : PySem.W.kitOne K (.ref c14) (.ref c14) = some true)
    (q_NoCompartment_NoDeeds : PySem.W.kitOne K (.ref c14) (.ref c13) = some false)
    (q_NoCompartment_NoFields : PySem.W.kitOne K (.ref c14) (.ref c1) = some false)
    (q_NoCompartment_NoHands : PySem.W.kitOne K (.ref c14) (.ref c6) = some false)
    (q_NoCompartment_NoLine : PySem.W.kitOne K (.ref c14) (.ref c9) = some false)
    (q_NoCompartment_NoName : PySem.W.kitOne K (.ref c14) (.ref c16) = some false)
    (q_NoCompartment_NoNumber : PySem.W.kitOne K (.ref c14) (.ref c8) = some false)
    (q_NoCompartment_NoOffset : PySem.W.kitOne K (.ref c14) (.ref c3) = some false)
    (q_NoCompartment_NoRows : PySem.W.kitOne K (.ref c14) (.ref c11) = some false)
    (q_NoCompartment_NoRule : PySem.W.kitOne K (.ref c14) (.ref c7) = some false)
    (q_NoCompartment_NoSweep : PySem.W.kitOne K (.ref c14) (.ref c18) = some false)
    (q_NoCompartment_NoText : PySem.W.kitOne K (.ref c14) (.ref c12) = some false)
    (q_NoCompartment_NoWord : PySem.W.kitOne K (.ref c14) (.ref c5) = some false)
    (q_NoCompartment_OverflowError : PySem.W.kitOne K (.ref c14) (.type "OverflowError") = some false)
    (q_NoCompartment_ReachError : PySem.W.kitOne K (.ref c14) (.ref c0) = some true)
    (q_NoCompartment_RuntimeError : PySem.W.kitOne K (.ref c14) (.type "RuntimeError") = some false)
    (q_NoCompartment_Sweeping : PySem.W.kitOne K (.ref c14) (.ref c17) = some false)
    (q_NoCompartment_TooMany : PySem.W.kitOne K (.ref c14) (.ref c15) = some false)
    (q_NoCompartment_ValueError : PySem.W.kitOne K (.ref c14) (.type "ValueError") = some true)
    (q_NoDeeds_Fault : PySem.W.kitOne K (.ref c13) (.ref c10) = some false)
    (q_NoDeeds_IndexError : PySem.W.kitOne K (.ref c13) (.type "IndexError") = some false)
    (q_NoDeeds_KeyError : PySem.W.kitOne K (.ref c13) (.type "KeyError") = some false)
    (q_NoDeeds_LookupError : PySem.W.kitOne K (.ref c13) (.type "LookupError") = some false)
    (q_NoDeeds_NoAddress : PySem.W.kitOne K (.ref c13) (.ref c4) = some false)
    (q_NoDeeds_NoBounds : PySem.W.kitOne K (.ref c13) (.ref c2) = some false)
    (q_NoDeeds_NoCompartment : PySem.W.kitOne K (.ref c13) (.ref c14) = some false)
    (q_NoDeeds_NoDeeds : PySem.W.kitOne K (.ref c13) (.ref c13) = some true)
    (q_NoDeeds_NoFields : PySem.W.kitOne K (.ref c13) (.ref c1) = some false)
    (q_NoDeeds_NoHands : PySem.W.kitOne K (.ref c13) (.ref c6) = some false)
    (q_NoDeeds_NoLine : PySem.W.kitOne K (.ref c13) (.ref c9) = some false)
    (q_NoDeeds_NoName : PySem.W.kitOne K (.ref c13) (.ref c16) = some false)
    (q_NoDeeds_NoNumber : PySem.W.kitOne K (.ref c13) (.ref c8) = some false)
    (q_NoDeeds_NoOffset : PySem.W.kitOne K (.ref c13) (.ref c3) = some false)
    (q_NoDeeds_NoRows : PySem.W.kitOne K (.ref c13) (.ref c11) = some false)
    (q_NoDeeds_NoRule : PySem.W.kitOne K (.ref c13) (.ref c7) = some false)
    (q_NoDeeds_NoSweep : PySem.W.kitOne K (.ref c13) (.ref c18) = some false)
    (q_NoDeeds_NoText : PySem.W.kitOne K (.ref c13) (.ref c12) = some false)
    (q_NoDeeds_NoWord : PySem.W.kitOne K (.ref c13) (.ref c5) = some false)
    (q_NoDeeds_OverflowError : PySem.W.kitOne K (.ref c13) (.type "OverflowError") = some false)
    (q_NoDeeds_ReachError : PySem.W.kitOne K (.ref c13) (.ref c0) = some true)
    (q_NoDeeds_RuntimeError : PySem.W.kitOne K (.ref c13) (.type "RuntimeError") = some false)
    (q_NoDeeds_Sweeping : PySem.W.kitOne K (.ref c13) (.ref c17) = some false)
    (q_NoDeeds_TooMany : PySem.W.kitOne K (.ref c13) (.ref c15) = some false)
    (q_NoDeeds_ValueError : PySem.W.kitOne K (.ref c13) (.type "ValueError") = some true)
    (q_NoFields_Fault : PySem.W.kitOne K (.ref c1) (.ref c10) = some false)
    (q_NoFields_IndexError : PySem.W.kitOne K (.ref c1) (.type "IndexError") = some false)
    (q_NoFields_KeyError : PySem.W.kitOne K (.ref c1) (.type "KeyError") = some false)
    (q_NoFields_LookupError : PySem.W.kitOne K (.ref c1) (.type "LookupError") = some false)
    (q_NoFields_NoAddress : PySem.W.kitOne K (.ref c1) (.ref c4) = some false)
    (q_NoFields_NoBounds : PySem.W.kitOne K (.ref c1) (.ref c2) = some false)
    (q_NoFields_NoCompartment : PySem.W.kitOne K (.ref c1) (.ref c14) = some false)
    (q_NoFields_NoDeeds : PySem.W.kitOne K (.ref c1) (.ref c13) = some false)
    (q_NoFields_NoFields : PySem.W.kitOne K (.ref c1) (.ref c1) = some true)
    (q_NoFields_NoHands : PySem.W.kitOne K (.ref c1) (.ref c6) = some false)
    (q_NoFields_NoLine : PySem.W.kitOne K (.ref c1) (.ref c9) = some false)
    (q_NoFields_NoName : PySem.W.kitOne K (.ref c1) (.ref c16) = some false)
    (q_NoFields_NoNumber : PySem.W.kitOne K (.ref c1) (.ref c8) = some false)
    (q_NoFields_NoOffset : PySem.W.kitOne K (.ref c1) (.ref c3) = some false)
    (q_NoFields_NoRows : PySem.W.kitOne K (.ref c1) (.ref c11) = some false)
    (q_NoFields_NoRule : PySem.W.kitOne K (.ref c1) (.ref c7) = some false)
    (q_NoFields_NoSweep : PySem.W.kitOne K (.ref c1) (.ref c18) = some false)
    (q_NoFields_NoText : PySem.W.kitOne K (.ref c1) (.ref c12) = some false)
    (q_NoFields_NoWord : PySem.W.kitOne K (.ref c1) (.ref c5) = some false)
    (q_NoFields_OverflowError : PySem.W.kitOne K (.ref c1) (.type "OverflowError") = some false)
    (q_NoFields_ReachError : PySem.W.kitOne K (.ref c1) (.ref c0) = some true)
    (q_NoFields_RuntimeError : PySem.W.kitOne K (.ref c1) (.type "RuntimeError") = some false)
    (q_NoFields_Sweeping : PySem.W.kitOne K (.ref c1) (.ref c17) = some false)
    (q_NoFields_TooMany : PySem.W.kitOne K (.ref c1) (.ref c15) = some false)
    (q_NoFields_ValueError : PySem.W.kitOne K (.ref c1) (.type "ValueError") = some true)
    (q_NoHands_Fault : PySem.W.kitOne K (.ref c6) (.ref c10) = some false)
    (q_NoHands_IndexError : PySem.W.kitOne K (.ref c6) (.type "IndexError") = some false)
    (q_NoHands_KeyError : PySem.W.kitOne K (.ref c6) (.type "KeyError") = some false)
    (q_NoHands_LookupError : PySem.W.kitOne K (.ref c6) (.type "LookupError") = some false)
    (q_NoHands_NoAddress : PySem.W.kitOne K (.ref c6) (.ref c4) = some false)
    (q_NoHands_NoBounds : PySem.W.kitOne K (.ref c6) (.ref c2) = some false)
    (q_NoHands_NoCompartment : PySem.W.kitOne K (.ref c6) (.ref c14) = some false)
    (q_NoHands_NoDeeds : PySem.W.kitOne K (.ref c6) (.ref c13) = some false)
    (q_NoHands_NoFields : PySem.W.kitOne K (.ref c6) (.ref c1) = some false)
    (q_NoHands_NoHands : PySem.W.kitOne K (.ref c6) (.ref c6) = some true)
    (q_NoHands_NoLine : PySem.W.kitOne K (.ref c6) (.ref c9) = some false)
    (q_NoHands_NoName : PySem.W.kitOne K (.ref c6) (.ref c16) = some false)
    (q_NoHands_NoNumber : PySem.W.kitOne K (.ref c6) (.ref c8) = some false)
    (q_NoHands_NoOffset : PySem.W.kitOne K (.ref c6) (.ref c3) = some false)
    (q_NoHands_NoRows : PySem.W.kitOne K (.ref c6) (.ref c11) = some false)
    (q_NoHands_NoRule : PySem.W.kitOne K (.ref c6) (.ref c7) = some false)
    (q_NoHands_NoSweep : PySem.W.kitOne K (.ref c6) (.ref c18) = some false)
    (q_NoHands_NoText : PySem.W.kitOne K (.ref c6) (.ref c12) = some false)
    (q_NoHands_NoWord : PySem.W.kitOne K (.ref c6) (.ref c5) = some false)
    (q_NoHands_OverflowError : PySem.W.kitOne K (.ref c6) (.type "OverflowError") = some false)
    (q_NoHands_ReachError : PySem.W.kitOne K (.ref c6) (.ref c0) = some true)
    (q_NoHands_RuntimeError : PySem.W.kitOne K (.ref c6) (.type "RuntimeError") = some false)
    (q_NoHands_Sweeping : PySem.W.kitOne K (.ref c6) (.ref c17) = some false)
    (q_NoHands_TooMany : PySem.W.kitOne K (.ref c6) (.ref c15) = some false)
    (q_NoHands_ValueError : PySem.W.kitOne K (.ref c6) (.type "ValueError") = some true)
    (q_NoLine_Fault : PySem.W.kitOne K (.ref c9) (.ref c10) = some false)
    (q_NoLine_IndexError : PySem.W.kitOne K (.ref c9) (.type "IndexError") = some false)
    (q_NoLine_KeyError : PySem.W.kitOne K (.ref c9) (.type "KeyError") = some false)
    (q_NoLine_LookupError : PySem.W.kitOne K (.ref c9) (.type "LookupError") = some false)
    (q_NoLine_NoAddress : PySem.W.kitOne K (.ref c9) (.ref c4) = some false)
    (q_NoLine_NoBounds : PySem.W.kitOne K (.ref c9) (.ref c2) = some false)
    (q_NoLine_NoCompartment : PySem.W.kitOne K (.ref c9) (.ref c14) = some false)
    (q_NoLine_NoDeeds : PySem.W.kitOne K (.ref c9) (.ref c13) = some false)
    (q_NoLine_NoFields : PySem.W.kitOne K (.ref c9) (.ref c1) = some false)
    (q_NoLine_NoHands : PySem.W.kitOne K (.ref c9) (.ref c6) = some false)
    (q_NoLine_NoLine : PySem.W.kitOne K (.ref c9) (.ref c9) = some true)
    (q_NoLine_NoName : PySem.W.kitOne K (.ref c9) (.ref c16) = some false)
    (q_NoLine_NoNumber : PySem.W.kitOne K (.ref c9) (.ref c8) = some false)
    (q_NoLine_NoOffset : PySem.W.kitOne K (.ref c9) (.ref c3) = some false)
    (q_NoLine_NoRows : PySem.W.kitOne K (.ref c9) (.ref c11) = some false)
    (q_NoLine_NoRule : PySem.W.kitOne K (.ref c9) (.ref c7) = some false)
    (q_NoLine_NoSweep : PySem.W.kitOne K (.ref c9) (.ref c18) = some false)
    (q_NoLine_NoText : PySem.W.kitOne K (.ref c9) (.ref c12) = some false)
    (q_NoLine_NoWord : PySem.W.kitOne K (.ref c9) (.ref c5) = some false)
    (q_NoLine_OverflowError : PySem.W.kitOne K (.ref c9) (.type "OverflowError") = some false)
    (q_NoLine_ReachError : PySem.W.kitOne K (.ref c9) (.ref c0) = some true)
    (q_NoLine_RuntimeError : PySem.W.kitOne K (.ref c9) (.type "RuntimeError") = some false)
    (q_NoLine_Sweeping : PySem.W.kitOne K (.ref c9) (.ref c17) = some false)
    (q_NoLine_TooMany : PySem.W.kitOne K (.ref c9) (.ref c15) = some false)
    (q_NoLine_ValueError : PySem.W.kitOne K (.ref c9) (.type "ValueError") = some true)
    (q_NoName_Fault : PySem.W.kitOne K (.ref c16) (.ref c10) = some false)
    (q_NoName_IndexError : PySem.W.kitOne K (.ref c16) (.type "IndexError") = some false)
    (q_NoName_KeyError : PySem.W.kitOne K (.ref c16) (.type "KeyError") = some true)
    (q_NoName_LookupError : PySem.W.kitOne K (.ref c16) (.type "LookupError") = some true)
    (q_NoName_NoAddress : PySem.W.kitOne K (.ref c16) (.ref c4) = some false)
    (q_NoName_NoBounds : PySem.W.kitOne K (.ref c16) (.ref c2) = some false)
    (q_NoName_NoCompartment : PySem.W.kitOne K (.ref c16) (.ref c14) = some false)
    (q_NoName_NoDeeds : PySem.W.kitOne K (.ref c16) (.ref c13) = some false)
    (q_NoName_NoFields : PySem.W.kitOne K (.ref c16) (.ref c1) = some false)
    (q_NoName_NoHands : PySem.W.kitOne K (.ref c16) (.ref c6) = some false)
    (q_NoName_NoLine : PySem.W.kitOne K (.ref c16) (.ref c9) = some false)
    (q_NoName_NoName : PySem.W.kitOne K (.ref c16) (.ref c16) = some true)
    (q_NoName_NoNumber : PySem.W.kitOne K (.ref c16) (.ref c8) = some false)
    (q_NoName_NoOffset : PySem.W.kitOne K (.ref c16) (.ref c3) = some false)
    (q_NoName_NoRows : PySem.W.kitOne K (.ref c16) (.ref c11) = some false)
    (q_NoName_NoRule : PySem.W.kitOne K (.ref c16) (.ref c7) = some false)
    (q_NoName_NoSweep : PySem.W.kitOne K (.ref c16) (.ref c18) = some false)
    (q_NoName_NoText : PySem.W.kitOne K (.ref c16) (.ref c12) = some false)
    (q_NoName_NoWord : PySem.W.kitOne K (.ref c16) (.ref c5) = some false)
    (q_NoName_OverflowError : PySem.W.kitOne K (.ref c16) (.type "OverflowError") = some false)
    (q_NoName_ReachError : PySem.W.kitOne K (.ref c16) (.ref c0) = some false)
    (q_NoName_RuntimeError : PySem.W.kitOne K (.ref c16) (.type "RuntimeError") = some false)
    (q_NoName_Sweeping : PySem.W.kitOne K (.ref c16) (.ref c17) = some false)
    (q_NoName_TooMany : PySem.W.kitOne K (.ref c16) (.ref c15) = some false)
    (q_NoName_ValueError : PySem.W.kitOne K (.ref c16) (.type "ValueError") = some false)
    (q_NoNumber_Fault : PySem.W.kitOne K (.ref c8) (.ref c10) = some false)
    (q_NoNumber_IndexError : PySem.W.kitOne K (.ref c8) (.type "IndexError") = some false)
    (q_NoNumber_KeyError : PySem.W.kitOne K (.ref c8) (.type "KeyError") = some false)
    (q_NoNumber_LookupError : PySem.W.kitOne K (.ref c8) (.type "LookupError") = some false)
    (q_NoNumber_NoAddress : PySem.W.kitOne K (.ref c8) (.ref c4) = some false)
    (q_NoNumber_NoBounds : PySem.W.kitOne K (.ref c8) (.ref c2) = some false)
    (q_NoNumber_NoCompartment : PySem.W.kitOne K (.ref c8) (.ref c14) = some false)
    (q_NoNumber_NoDeeds : PySem.W.kitOne K (.ref c8) (.ref c13) = some false)
    (q_NoNumber_NoFields : PySem.W.kitOne K (.ref c8) (.ref c1) = some false)
    (q_NoNumber_NoHands : PySem.W.kitOne K (.ref c8) (.ref c6) = some false)
    (q_NoNumber_NoLine : PySem.W.kitOne K (.ref c8) (.ref c9) = some false)
    (q_NoNumber_NoName : PySem.W.kitOne K (.ref c8) (.ref c16) = some false)
    (q_NoNumber_NoNumber : PySem.W.kitOne K (.ref c8) (.ref c8) = some true)
    (q_NoNumber_NoOffset : PySem.W.kitOne K (.ref c8) (.ref c3) = some false)
    (q_NoNumber_NoRows : PySem.W.kitOne K (.ref c8) (.ref c11) = some false)
    (q_NoNumber_NoRule : PySem.W.kitOne K (.ref c8) (.ref c7) = some false)
    (q_NoNumber_NoSweep : PySem.W.kitOne K (.ref c8) (.ref c18) = some false)
    (q_NoNumber_NoText : PySem.W.kitOne K (.ref c8) (.ref c12) = some false)
    (q_NoNumber_NoWord : PySem.W.kitOne K (.ref c8) (.ref c5) = some false)
    (q_NoNumber_OverflowError : PySem.W.kitOne K (.ref c8) (.type "OverflowError") = some false)
    (q_NoNumber_ReachError : PySem.W.kitOne K (.ref c8) (.ref c0) = some true)
    (q_NoNumber_RuntimeError : PySem.W.kitOne K (.ref c8) (.type "RuntimeError") = some false)
    (q_NoNumber_Sweeping : PySem.W.kitOne K (.ref c8) (.ref c17) = some false)
    (q_NoNumber_TooMany : PySem.W.kitOne K (.ref c8) (.ref c15) = some false)
    (q_NoNumber_ValueError : PySem.W.kitOne K (.ref c8) (.type "ValueError") = some true)
    (q_NoOffset_Fault : PySem.W.kitOne K (.ref c3) (.ref c10) = some false)
    (q_NoOffset_IndexError : PySem.W.kitOne K (.ref c3) (.type "IndexError") = some false)
    (q_NoOffset_KeyError : PySem.W.kitOne K (.ref c3) (.type "KeyError") = some false)
    (q_NoOffset_LookupError : PySem.W.kitOne K (.ref c3) (.type "LookupError") = some false)
    (q_NoOffset_NoAddress : PySem.W.kitOne K (.ref c3) (.ref c4) = some false)
    (q_NoOffset_NoBounds : PySem.W.kitOne K (.ref c3) (.ref c2) = some false)
    (q_NoOffset_NoCompartment : PySem.W.kitOne K (.ref c3) (.ref c14) = some false)
    (q_NoOffset_NoDeeds : PySem.W.kitOne K (.ref c3) (.ref c13) = some false)
    (q_NoOffset_NoFields : PySem.W.kitOne K (.ref c3) (.ref c1) = some false)
    (q_NoOffset_NoHands : PySem.W.kitOne K (.ref c3) (.ref c6) = some false)
    (q_NoOffset_NoLine : PySem.W.kitOne K (.ref c3) (.ref c9) = some false)
    (q_NoOffset_NoName : PySem.W.kitOne K (.ref c3) (.ref c16) = some false)
    (q_NoOffset_NoNumber : PySem.W.kitOne K (.ref c3) (.ref c8) = some false)
    (q_NoOffset_NoOffset : PySem.W.kitOne K (.ref c3) (.ref c3) = some true)
    (q_NoOffset_NoRows : PySem.W.kitOne K (.ref c3) (.ref c11) = some false)
    (q_NoOffset_NoRule : PySem.W.kitOne K (.ref c3) (.ref c7) = some false)
    (q_NoOffset_NoSweep : PySem.W.kitOne K (.ref c3) (.ref c18) = some false)
    (q_NoOffset_NoText : PySem.W.kitOne K (.ref c3) (.ref c12) = some false)
    (q_NoOffset_NoWord : PySem.W.kitOne K (.ref c3) (.ref c5) = some false)
    (q_NoOffset_OverflowError : PySem.W.kitOne K (.ref c3) (.type "OverflowError") = some false)
    (q_NoOffset_ReachError : PySem.W.kitOne K (.ref c3) (.ref c0) = some true)
    (q_NoOffset_RuntimeError : PySem.W.kitOne K (.ref c3) (.type "RuntimeError") = some false)
    (q_NoOffset_Sweeping : PySem.W.kitOne K (.ref c3) (.ref c17) = some false)
    (q_NoOffset_TooMany : PySem.W.kitOne K (.ref c3) (.ref c15) = some false)
    (q_NoOffset_ValueError : PySem.W.kitOne K (.ref c3) (.type "ValueError") = some true)
    (q_NoRows_Fault : PySem.W.kitOne K (.ref c11) (.ref c10) = some false)
    (q_NoRows_IndexError : PySem.W.kitOne K (.ref c11) (.type "IndexError") = some false)
    (q_NoRows_KeyError : PySem.W.kitOne K (.ref c11) (.type "KeyError") = some false)
    (q_NoRows_LookupError : PySem.W.kitOne K (.ref c11) (.type "LookupError") = some false)
    (q_NoRows_NoAddress : PySem.W.kitOne K (.ref c11) (.ref c4) = some false)
    (q_NoRows_NoBounds : PySem.W.kitOne K (.ref c11) (.ref c2) = some false)
    (q_NoRows_NoCompartment : PySem.W.kitOne K (.ref c11) (.ref c14) = some false)
    (q_NoRows_NoDeeds : PySem.W.kitOne K (.ref c11) (.ref c13) = some false)
    (q_NoRows_NoFields : PySem.W.kitOne K (.ref c11) (.ref c1) = some false)
    (q_NoRows_NoHands : PySem.W.kitOne K (.ref c11) (.ref c6) = some false)
    (q_NoRows_NoLine : PySem.W.kitOne K (.ref c11) (.ref c9) = some false)
    (q_NoRows_NoName : PySem.W.kitOne K (.ref c11) (.ref c16) = some false)
    (q_NoRows_NoNumber : PySem.W.kitOne K (.ref c11) (.ref c8) = some false)
    (q_NoRows_NoOffset : PySem.W.kitOne K (.ref c11) (.ref c3) = some false)
    (q_NoRows_NoRows : PySem.W.kitOne K (.ref c11) (.ref c11) = some true)
    (q_NoRows_NoRule : PySem.W.kitOne K (.ref c11) (.ref c7) = some false)
    (q_NoRows_NoSweep : PySem.W.kitOne K (.ref c11) (.ref c18) = some false)
    (q_NoRows_NoText : PySem.W.kitOne K (.ref c11) (.ref c12) = some false)
    (q_NoRows_NoWord : PySem.W.kitOne K (.ref c11) (.ref c5) = some false)
    (q_NoRows_OverflowError : PySem.W.kitOne K (.ref c11) (.type "OverflowError") = some false)
    (q_NoRows_ReachError : PySem.W.kitOne K (.ref c11) (.ref c0) = some true)
    (q_NoRows_RuntimeError : PySem.W.kitOne K (.ref c11) (.type "RuntimeError") = some false)
    (q_NoRows_Sweeping : PySem.W.kitOne K (.ref c11) (.ref c17) = some false)
    (q_NoRows_TooMany : PySem.W.kitOne K (.ref c11) (.ref c15) = some false)
    (q_NoRows_ValueError : PySem.W.kitOne K (.ref c11) (.type "ValueError") = some true)
    (q_NoRule_Fault : PySem.W.kitOne K (.ref c7) (.ref c10) = some false)
    (q_NoRule_IndexError : PySem.W.kitOne K (.ref c7) (.type "IndexError") = some false)
    (q_NoRule_KeyError : PySem.W.kitOne K (.ref c7) (.type "KeyError") = some false)
    (q_NoRule_LookupError : PySem.W.kitOne K (.ref c7) (.type "LookupError") = some false)
    (q_NoRule_NoAddress : PySem.W.kitOne K (.ref c7) (.ref c4) = some false)
    (q_NoRule_NoBounds : PySem.W.kitOne K (.ref c7) (.ref c2) = some false)
    (q_NoRule_NoCompartment : PySem.W.kitOne K (.ref c7) (.ref c14) = some false)
    (q_NoRule_NoDeeds : PySem.W.kitOne K (.ref c7) (.ref c13) = some false)
    (q_NoRule_NoFields : PySem.W.kitOne K (.ref c7) (.ref c1) = some false)
    (q_NoRule_NoHands : PySem.W.kitOne K (.ref c7) (.ref c6) = some false)
    (q_NoRule_NoLine : PySem.W.kitOne K (.ref c7) (.ref c9) = some false)
    (q_NoRule_NoName : PySem.W.kitOne K (.ref c7) (.ref c16) = some false)
    (q_NoRule_NoNumber : PySem.W.kitOne K (.ref c7) (.ref c8) = some false)
    (q_NoRule_NoOffset : PySem.W.kitOne K (.ref c7) (.ref c3) = some false)
    (q_NoRule_NoRows : PySem.W.kitOne K (.ref c7) (.ref c11) = some false)
    (q_NoRule_NoRule : PySem.W.kitOne K (.ref c7) (.ref c7) = some true)
    (q_NoRule_NoSweep : PySem.W.kitOne K (.ref c7) (.ref c18) = some false)
    (q_NoRule_NoText : PySem.W.kitOne K (.ref c7) (.ref c12) = some false)
    (q_NoRule_NoWord : PySem.W.kitOne K (.ref c7) (.ref c5) = some false)
    (q_NoRule_OverflowError : PySem.W.kitOne K (.ref c7) (.type "OverflowError") = some false)
    (q_NoRule_ReachError : PySem.W.kitOne K (.ref c7) (.ref c0) = some true)
    (q_NoRule_RuntimeError : PySem.W.kitOne K (.ref c7) (.type "RuntimeError") = some false)
    (q_NoRule_Sweeping : PySem.W.kitOne K (.ref c7) (.ref c17) = some false)
    (q_NoRule_TooMany : PySem.W.kitOne K (.ref c7) (.ref c15) = some false)
    (q_NoRule_ValueError : PySem.W.kitOne K (.ref c7) (.type "ValueError") = some true)
    (q_NoSweep_Fault : PySem.W.kitOne K (.ref c18) (.ref c10) = some false)
    (q_NoSweep_IndexError : PySem.W.kitOne K (.ref c18) (.type "IndexError") = some false)
    (q_NoSweep_KeyError : PySem.W.kitOne K (.ref c18) (.type "KeyError") = some false)
    (q_NoSweep_LookupError : PySem.W.kitOne K (.ref c18) (.type "LookupError") = some true)
    (q_NoSweep_NoAddress : PySem.W.kitOne K (.ref c18) (.ref c4) = some false)
    (q_NoSweep_NoBounds : PySem.W.kitOne K (.ref c18) (.ref c2) = some false)
    (q_NoSweep_NoCompartment : PySem.W.kitOne K (.ref c18) (.ref c14) = some false)
    (q_NoSweep_NoDeeds : PySem.W.kitOne K (.ref c18) (.ref c13) = some false)
    (q_NoSweep_NoFields : PySem.W.kitOne K (.ref c18) (.ref c1) = some false)
    (q_NoSweep_NoHands : PySem.W.kitOne K (.ref c18) (.ref c6) = some false)
    (q_NoSweep_NoLine : PySem.W.kitOne K (.ref c18) (.ref c9) = some false)
    (q_NoSweep_NoName : PySem.W.kitOne K (.ref c18) (.ref c16) = some false)
    (q_NoSweep_NoNumber : PySem.W.kitOne K (.ref c18) (.ref c8) = some false)
    (q_NoSweep_NoOffset : PySem.W.kitOne K (.ref c18) (.ref c3) = some false)
    (q_NoSweep_NoRows : PySem.W.kitOne K (.ref c18) (.ref c11) = some false)
    (q_NoSweep_NoRule : PySem.W.kitOne K (.ref c18) (.ref c7) = some false)
    (q_NoSweep_NoSweep : PySem.W.kitOne K (.ref c18) (.ref c18) = some true)
    (q_NoSweep_NoText : PySem.W.kitOne K (.ref c18) (.ref c12) = some false)
    (q_NoSweep_NoWord : PySem.W.kitOne K (.ref c18) (.ref c5) = some false)
    (q_NoSweep_OverflowError : PySem.W.kitOne K (.ref c18) (.type "OverflowError") = some false)
    (q_NoSweep_ReachError : PySem.W.kitOne K (.ref c18) (.ref c0) = some false)
    (q_NoSweep_RuntimeError : PySem.W.kitOne K (.ref c18) (.type "RuntimeError") = some false)
    (q_NoSweep_Sweeping : PySem.W.kitOne K (.ref c18) (.ref c17) = some false)
    (q_NoSweep_TooMany : PySem.W.kitOne K (.ref c18) (.ref c15) = some false)
    (q_NoSweep_ValueError : PySem.W.kitOne K (.ref c18) (.type "ValueError") = some false)
    (q_NoText_Fault : PySem.W.kitOne K (.ref c12) (.ref c10) = some false)
    (q_NoText_IndexError : PySem.W.kitOne K (.ref c12) (.type "IndexError") = some false)
    (q_NoText_KeyError : PySem.W.kitOne K (.ref c12) (.type "KeyError") = some false)
    (q_NoText_LookupError : PySem.W.kitOne K (.ref c12) (.type "LookupError") = some false)
    (q_NoText_NoAddress : PySem.W.kitOne K (.ref c12) (.ref c4) = some false)
    (q_NoText_NoBounds : PySem.W.kitOne K (.ref c12) (.ref c2) = some false)
    (q_NoText_NoCompartment : PySem.W.kitOne K (.ref c12) (.ref c14) = some false)
    (q_NoText_NoDeeds : PySem.W.kitOne K (.ref c12) (.ref c13) = some false)
    (q_NoText_NoFields : PySem.W.kitOne K (.ref c12) (.ref c1) = some false)
    (q_NoText_NoHands : PySem.W.kitOne K (.ref c12) (.ref c6) = some false)
    (q_NoText_NoLine : PySem.W.kitOne K (.ref c12) (.ref c9) = some false)
    (q_NoText_NoName : PySem.W.kitOne K (.ref c12) (.ref c16) = some false)
    (q_NoText_NoNumber : PySem.W.kitOne K (.ref c12) (.ref c8) = some false)
    (q_NoText_NoOffset : PySem.W.kitOne K (.ref c12) (.ref c3) = some false)
    (q_NoText_NoRows : PySem.W.kitOne K (.ref c12) (.ref c11) = some false)
    (q_NoText_NoRule : PySem.W.kitOne K (.ref c12) (.ref c7) = some false)
    (q_NoText_NoSweep : PySem.W.kitOne K (.ref c12) (.ref c18) = some false)
    (q_NoText_NoText : PySem.W.kitOne K (.ref c12) (.ref c12) = some true)
    (q_NoText_NoWord : PySem.W.kitOne K (.ref c12) (.ref c5) = some false)
    (q_NoText_OverflowError : PySem.W.kitOne K (.ref c12) (.type "OverflowError") = some false)
    (q_NoText_ReachError : PySem.W.kitOne K (.ref c12) (.ref c0) = some true)
    (q_NoText_RuntimeError : PySem.W.kitOne K (.ref c12) (.type "RuntimeError") = some false)
    (q_NoText_Sweeping : PySem.W.kitOne K (.ref c12) (.ref c17) = some false)
    (q_NoText_TooMany : PySem.W.kitOne K (.ref c12) (.ref c15) = some false)
    (q_NoText_ValueError : PySem.W.kitOne K (.ref c12) (.type "ValueError") = some true)
    (q_NoWord_Fault : PySem.W.kitOne K (.ref c5) (.ref c10) = some false)
    (q_NoWord_IndexError : PySem.W.kitOne K (.ref c5) (.type "IndexError") = some false)
    (q_NoWord_KeyError : PySem.W.kitOne K (.ref c5) (.type "KeyError") = some false)
    (q_NoWord_LookupError : PySem.W.kitOne K (.ref c5) (.type "LookupError") = some false)
    (q_NoWord_NoAddress : PySem.W.kitOne K (.ref c5) (.ref c4) = some false)
    (q_NoWord_NoBounds : PySem.W.kitOne K (.ref c5) (.ref c2) = some false)
    (q_NoWord_NoCompartment : PySem.W.kitOne K (.ref c5) (.ref c14) = some false)
    (q_NoWord_NoDeeds : PySem.W.kitOne K (.ref c5) (.ref c13) = some false)
    (q_NoWord_NoFields : PySem.W.kitOne K (.ref c5) (.ref c1) = some false)
    (q_NoWord_NoHands : PySem.W.kitOne K (.ref c5) (.ref c6) = some false)
    (q_NoWord_NoLine : PySem.W.kitOne K (.ref c5) (.ref c9) = some false)
    (q_NoWord_NoName : PySem.W.kitOne K (.ref c5) (.ref c16) = some false)
    (q_NoWord_NoNumber : PySem.W.kitOne K (.ref c5) (.ref c8) = some false)
    (q_NoWord_NoOffset : PySem.W.kitOne K (.ref c5) (.ref c3) = some false)
    (q_NoWord_NoRows : PySem.W.kitOne K (.ref c5) (.ref c11) = some false)
    (q_NoWord_NoRule : PySem.W.kitOne K (.ref c5) (.ref c7) = some false)
    (q_NoWord_NoSweep : PySem.W.kitOne K (.ref c5) (.ref c18) = some false)
    (q_NoWord_NoText : PySem.W.kitOne K (.ref c5) (.ref c12) = some false)
    (q_NoWord_NoWord : PySem.W.kitOne K (.ref c5) (.ref c5) = some true)
    (q_NoWord_OverflowError : PySem.W.kitOne K (.ref c5) (.type "OverflowError") = some false)
    (q_NoWord_ReachError : PySem.W.kitOne K (.ref c5) (.ref c0) = some true)
    (q_NoWord_RuntimeError : PySem.W.kitOne K (.ref c5) (.type "RuntimeError") = some false)
    (q_NoWord_Sweeping : PySem.W.kitOne K (.ref c5) (.ref c17) = some false)
    (q_NoWord_TooMany : PySem.W.kitOne K (.ref c5) (.ref c15) = some false)
    (q_NoWord_ValueError : PySem.W.kitOne K (.ref c5) (.type "ValueError") = some true)
    (q_ReachError_Fault : PySem.W.kitOne K (.ref c0) (.ref c10) = some false)
    (q_ReachError_IndexError : PySem.W.kitOne K (.ref c0) (.type "IndexError") = some false)
    (q_ReachError_KeyError : PySem.W.kitOne K (.ref c0) (.type "KeyError") = some false)
    (q_ReachError_LookupError : PySem.W.kitOne K (.ref c0) (.type "LookupError") = some false)
    (q_ReachError_NoAddress : PySem.W.kitOne K (.ref c0) (.ref c4) = some false)
    (q_ReachError_NoBounds : PySem.W.kitOne K (.ref c0) (.ref c2) = some false)
    (q_ReachError_NoCompartment : PySem.W.kitOne K (.ref c0) (.ref c14) = some false)
    (q_ReachError_NoDeeds : PySem.W.kitOne K (.ref c0) (.ref c13) = some false)
    (q_ReachError_NoFields : PySem.W.kitOne K (.ref c0) (.ref c1) = some false)
    (q_ReachError_NoHands : PySem.W.kitOne K (.ref c0) (.ref c6) = some false)
    (q_ReachError_NoLine : PySem.W.kitOne K (.ref c0) (.ref c9) = some false)
    (q_ReachError_NoName : PySem.W.kitOne K (.ref c0) (.ref c16) = some false)
    (q_ReachError_NoNumber : PySem.W.kitOne K (.ref c0) (.ref c8) = some false)
    (q_ReachError_NoOffset : PySem.W.kitOne K (.ref c0) (.ref c3) = some false)
    (q_ReachError_NoRows : PySem.W.kitOne K (.ref c0) (.ref c11) = some false)
    (q_ReachError_NoRule : PySem.W.kitOne K (.ref c0) (.ref c7) = some false)
    (q_ReachError_NoSweep : PySem.W.kitOne K (.ref c0) (.ref c18) = some false)
    (q_ReachError_NoText : PySem.W.kitOne K (.ref c0) (.ref c12) = some false)
    (q_ReachError_NoWord : PySem.W.kitOne K (.ref c0) (.ref c5) = some false)
    (q_ReachError_OverflowError : PySem.W.kitOne K (.ref c0) (.type "OverflowError") = some false)
    (q_ReachError_ReachError : PySem.W.kitOne K (.ref c0) (.ref c0) = some true)
    (q_ReachError_RuntimeError : PySem.W.kitOne K (.ref c0) (.type "RuntimeError") = some false)
    (q_ReachError_Sweeping : PySem.W.kitOne K (.ref c0) (.ref c17) = some false)
    (q_ReachError_TooMany : PySem.W.kitOne K (.ref c0) (.ref c15) = some false)
    (q_ReachError_ValueError : PySem.W.kitOne K (.ref c0) (.type "ValueError") = some true)
    (q_Sweeping_Fault : PySem.W.kitOne K (.ref c17) (.ref c10) = some false)
    (q_Sweeping_IndexError : PySem.W.kitOne K (.ref c17) (.type "IndexError") = some false)
    (q_Sweeping_KeyError : PySem.W.kitOne K (.ref c17) (.type "KeyError") = some false)
    (q_Sweeping_LookupError : PySem.W.kitOne K (.ref c17) (.type "LookupError") = some false)
    (q_Sweeping_NoAddress : PySem.W.kitOne K (.ref c17) (.ref c4) = some false)
    (q_Sweeping_NoBounds : PySem.W.kitOne K (.ref c17) (.ref c2) = some false)
    (q_Sweeping_NoCompartment : PySem.W.kitOne K (.ref c17) (.ref c14) = some false)
    (q_Sweeping_NoDeeds : PySem.W.kitOne K (.ref c17) (.ref c13) = some false)
    (q_Sweeping_NoFields : PySem.W.kitOne K (.ref c17) (.ref c1) = some false)
    (q_Sweeping_NoHands : PySem.W.kitOne K (.ref c17) (.ref c6) = some false)
    (q_Sweeping_NoLine : PySem.W.kitOne K (.ref c17) (.ref c9) = some false)
    (q_Sweeping_NoName : PySem.W.kitOne K (.ref c17) (.ref c16) = some false)
    (q_Sweeping_NoNumber : PySem.W.kitOne K (.ref c17) (.ref c8) = some false)
    (q_Sweeping_NoOffset : PySem.W.kitOne K (.ref c17) (.ref c3) = some false)
    (q_Sweeping_NoRows : PySem.W.kitOne K (.ref c17) (.ref c11) = some false)
    (q_Sweeping_NoRule : PySem.W.kitOne K (.ref c17) (.ref c7) = some false)
    (q_Sweeping_NoSweep : PySem.W.kitOne K (.ref c17) (.ref c18) = some false)
    (q_Sweeping_NoText : PySem.W.kitOne K (.ref c17) (.ref c12) = some false)
    (q_Sweeping_NoWord : PySem.W.kitOne K (.ref c17) (.ref c5) = some false)
    (q_Sweeping_OverflowError : PySem.W.kitOne K (.ref c17) (.type "OverflowError") = some false)
    (q_Sweeping_ReachError : PySem.W.kitOne K (.ref c17) (.ref c0) = some false)
    (q_Sweeping_RuntimeError : PySem.W.kitOne K (.ref c17) (.type "RuntimeError") = some true)
    (q_Sweeping_Sweeping : PySem.W.kitOne K (.ref c17) (.ref c17) = some true)
    (q_Sweeping_TooMany : PySem.W.kitOne K (.ref c17) (.ref c15) = some false)
    (q_Sweeping_ValueError : PySem.W.kitOne K (.ref c17) (.type "ValueError") = some false)
    (q_TooMany_Fault : PySem.W.kitOne K (.ref c15) (.ref c10) = some false)
    (q_TooMany_IndexError : PySem.W.kitOne K (.ref c15) (.type "IndexError") = some false)
    (q_TooMany_KeyError : PySem.W.kitOne K (.ref c15) (.type "KeyError") = some false)
    (q_TooMany_LookupError : PySem.W.kitOne K (.ref c15) (.type "LookupError") = some false)
    (q_TooMany_NoAddress : PySem.W.kitOne K (.ref c15) (.ref c4) = some false)
    (q_TooMany_NoBounds : PySem.W.kitOne K (.ref c15) (.ref c2) = some false)
    (q_TooMany_NoCompartment : PySem.W.kitOne K (.ref c15) (.ref c14) = some false)
    (q_TooMany_NoDeeds : PySem.W.kitOne K (.ref c15) (.ref c13) = some false)
    (q_TooMany_NoFields : PySem.W.kitOne K (.ref c15) (.ref c1) = some false)
    (q_TooMany_NoHands : PySem.W.kitOne K (.ref c15) (.ref c6) = some false)
    (q_TooMany_NoLine : PySem.W.kitOne K (.ref c15) (.ref c9) = some false)
    (q_TooMany_NoName : PySem.W.kitOne K (.ref c15) (.ref c16) = some false)
    (q_TooMany_NoNumber : PySem.W.kitOne K (.ref c15) (.ref c8) = some false)
    (q_TooMany_NoOffset : PySem.W.kitOne K (.ref c15) (.ref c3) = some false)
    (q_TooMany_NoRows : PySem.W.kitOne K (.ref c15) (.ref c11) = some false)
    (q_TooMany_NoRule : PySem.W.kitOne K (.ref c15) (.ref c7) = some false)
    (q_TooMany_NoSweep : PySem.W.kitOne K (.ref c15) (.ref c18) = some false)
    (q_TooMany_NoText : PySem.W.kitOne K (.ref c15) (.ref c12) = some false)
    (q_TooMany_NoWord : PySem.W.kitOne K (.ref c15) (.ref c5) = some false)
    (q_TooMany_OverflowError : PySem.W.kitOne K (.ref c15) (.type "OverflowError") = some true)
    (q_TooMany_ReachError : PySem.W.kitOne K (.ref c15) (.ref c0) = some false)
    (q_TooMany_RuntimeError : PySem.W.kitOne K (.ref c15) (.type "RuntimeError") = some false)
    (q_TooMany_Sweeping : PySem.W.kitOne K (.ref c15) (.ref c17) = some false)
    (q_TooMany_TooMany : PySem.W.kitOne K (.ref c15) (.ref c15) = some true)
    (q_TooMany_ValueError : PySem.W.kitOne K (.ref c15) (.type "ValueError") = some false)
    : ∃ (fd : FuncData) (C : Nat → Addr), (∀ (s : Shared) (v : Value), BindsTo s fd ⟨[v], []⟩ [("_law_script", v)]) ∧ ∀ base : Heap, K.In base → base.Ns mainGlobals mg → FnG l.prog w K mg base (L2N.CX l.prog w) 4 fa fd ["_law_script"] (spOf K C 1 g_law) := by
  have e := hfa.symm.trans (PySem.W.mg_of X G a7)
  cases e
  have F0 := fun_mk (st := s_law_pool) l0 o0 p0
  have F1 := fun_mk (st := s_law_take) l1 o1 p1
  have F2 := fun_mk (st := s_law_kinds) l2 o2 p2
  have F3 := fun_mk (st := s_law_bases) l3 o3 p3
  have F4 := fun_mk (st := s_law_made) l4 o4 p4
  have F5 := fun_mk (st := s_law_values) l5 o5 p5
  have F6 := fun_mk (st := s_law_due_bases) l6 o6 p6
  have F7 := fun_mk (st := s_law) l7 o7 p7
  have FI10 := fun_mk (st := si_Fault) li_Fault oi_Fault pi_Fault
  have FI11 := fun_mk (st := si_NoRows) li_NoRows oi_NoRows pi_NoRows
  have FI12 := fun_mk (st := si_NoText) li_NoText oi_NoText pi_NoText
  have FI13 := fun_mk (st := si_NoDeeds) li_NoDeeds oi_NoDeeds pi_NoDeeds
  have FI14 := fun_mk (st := si_NoCompartment) li_NoCompartment oi_NoCompartment pi_NoCompartment
  have FI15 := fun_mk (st := si_TooMany) li_TooMany oi_TooMany pi_TooMany
  have FI16 := fun_mk (st := si_NoName) li_NoName oi_NoName pi_NoName
  let A : Nat → Addr := fun n => match n with | 0 => f0 | 1 => f1 | 2 => f2 | 3 => f3 | 4 => f4 | 5 => f5 | 6 => f6 | 7 => fa | 910 => g10 | 911 => g11 | 912 => g12 | 913 => g13 | 914 => g14 | 915 => g15 | 916 => g16 | _ => 0
  let C : Nat → Addr := fun n => match n with | 0 => c0 | 1 => c1 | 2 => c2 | 3 => c3 | 4 => c4 | 5 => c5 | 6 => c6 | 7 => c7 | 8 => c8 | 9 => c9 | 10 => c10 | 11 => c11 | 12 => c12 | 13 => c13 | 14 => c14 | 15 => c15 | 16 => c16 | 17 => c17 | 18 => c18 | _ => 0
  let fd : Nat → FuncData := fun n => match n with | 910 => PySem.W.fnOf "__init__" "Fault.__init__" (defArgs si_Fault) (defBody si_Fault) (defScope si_Fault) .none ikV10 idc10 ipm10 ian10 icd10 ict10 | 911 => PySem.W.fnOf "__init__" "NoRows.__init__" (defArgs si_NoRows) (defBody si_NoRows) (defScope si_NoRows) .none ikV11 idc11 ipm11 ian11 icd11 ict11 | 912 => PySem.W.fnOf "__init__" "NoText.__init__" (defArgs si_NoText) (defBody si_NoText) (defScope si_NoText) .none ikV12 idc12 ipm12 ian12 icd12 ict12 | 913 => PySem.W.fnOf "__init__" "NoDeeds.__init__" (defArgs si_NoDeeds) (defBody si_NoDeeds) (defScope si_NoDeeds) .none ikV13 idc13 ipm13 ian13 icd13 ict13 | 914 => PySem.W.fnOf "__init__" "NoCompartment.__init__" (defArgs si_NoCompartment) (defBody si_NoCompartment) (defScope si_NoCompartment) .none ikV14 idc14 ipm14 ian14 icd14 ict14 | 915 => PySem.W.fnOf "__init__" "TooMany.__init__" (defArgs si_TooMany) (defBody si_TooMany) (defScope si_TooMany) .none ikV15 idc15 ipm15 ian15 icd15 ict15 | 916 => PySem.W.fnOf "__init__" "NoName.__init__" (defArgs si_NoName) (defBody si_NoName) (defScope si_NoName) .none ikV16 idc16 ipm16 ian16 icd16 ict16 | 0 => PySem.W.fnOf "_law_pool" "_law_pool" (defArgs s_law_pool) (defBody s_law_pool) (defScope s_law_pool) .none kV0 dc0 pm0 an0 cd0 ct0 | 1 => PySem.W.fnOf "_law_take" "_law_take" (defArgs s_law_take) (defBody s_law_take) (defScope s_law_take) .none kV1 dc1 pm1 an1 cd1 ct1 | 2 => PySem.W.fnOf "_law_kinds" "_law_kinds" (defArgs s_law_kinds) (defBody s_law_kinds) (defScope s_law_kinds) .none kV2 dc2 pm2 an2 cd2 ct2 | 3 => PySem.W.fnOf "_law_bases" "_law_bases" (defArgs s_law_bases) (defBody s_law_bases) (defScope s_law_bases) .none kV3 dc3 pm3 an3 cd3 ct3 | 4 => PySem.W.fnOf "_law_made" "_law_made" (defArgs s_law_made) (defBody s_law_made) (defScope s_law_made) .none kV4 dc4 pm4 an4 cd4 ct4 | 5 => PySem.W.fnOf "_law_values" "_law_values" (defArgs s_law_values) (defBody s_law_values) (defScope s_law_values) .none kV5 dc5 pm5 an5 cd5 ct5 | 6 => PySem.W.fnOf "_law_due_bases" "_law_due_bases" (defArgs s_law_due_bases) (defBody s_law_due_bases) (defScope s_law_due_bases) .none kV6 dc6 pm6 an6 cd6 ct6 | 7 => PySem.W.fnOf "law" "law" (defArgs s_law) (defBody s_law) (defScope s_law) .none kV7 dc7 pm7 an7 cd7 ct7 | _ => PySem.W.fnOf "law" "law" (defArgs s_law) (defBody s_law) (defScope s_law) .none kV7 dc7 pm7 an7 cd7 ct7
  have T : Txt w K mg C A fd := {
    f_law_pool := F0,
    b_law_pool := F0.binds (ps := ["_law_script", "_law_k"]) fun _ _ _ _ _ _ us hl => match us, hl with | [_, _], _ => rfl,
    g_law_pool := PySem.W.mg_of X G a0,
    f_law_take := F1,
    b_law_take := F1.binds (ps := ["_law_pool_here", "_law_many"]) fun _ _ _ _ _ _ us hl => match us, hl with | [_, _], _ => rfl,
    g_law_take := PySem.W.mg_of X G a1,
    f_law_kinds := F2,
    b_law_kinds := F2.binds (ps := ["_law_e"]) fun _ _ _ _ _ _ us hl => match us, hl with | [_], _ => rfl,
    g_law_kinds := PySem.W.mg_of X G a2,
    f_law_bases := F3,
    b_law_bases := F3.binds (ps := ["_law_e"]) fun _ _ _ _ _ _ us hl => match us, hl with | [_], _ => rfl,
    g_law_bases := PySem.W.mg_of X G a3,
    f_law_made := F4,
    b_law_made := F4.binds (ps := ["_law_which", "_law_one", "_law_other"]) fun _ _ _ _ _ _ us hl => match us, hl with | [_, _, _], _ => rfl,
    g_law_made := PySem.W.mg_of X G a4,
    f_law_values := F5,
    b_law_values := F5.binds (ps := ["_law_which", "_law_e"]) fun _ _ _ _ _ _ us hl => match us, hl with | [_, _], _ => rfl,
    g_law_values := PySem.W.mg_of X G a5,
    f_law_due_bases := F6,
    b_law_due_bases := F6.binds (ps := ["_law_which"]) fun _ _ _ _ _ _ us hl => match us, hl with | [_], _ => rfl,
    g_law_due_bases := PySem.W.mg_of X G a6,
    f_law := F7,
    b_law := F7.binds (ps := ["_law_script"]) fun _ _ _ _ _ _ us hl => match us, hl with | [_], _ => rfl,
    g_law := PySem.W.mg_of X G a7,
    z_IndexError := PySem.W.mg_none_of X G z_IndexError,
    z_KeyError := PySem.W.mg_none_of X G z_KeyError,
    z_LookupError := PySem.W.mg_none_of X G z_LookupError,
    z_OverflowError := PySem.W.mg_none_of X G z_OverflowError,
    z_RuntimeError := PySem.W.mg_none_of X G z_RuntimeError,
    z_ValueError := PySem.W.mg_none_of X G z_ValueError,
    z_abs := PySem.W.mg_none_of X G z_abs,
    z_enumerate := PySem.W.mg_none_of X G z_enumerate,
    z_int := PySem.W.mg_none_of X G z_int,
    z_isinstance := PySem.W.mg_none_of X G z_isinstance,
    z_len := PySem.W.mg_none_of X G z_len,
    z_max := PySem.W.mg_none_of X G z_max,
    z_min := PySem.W.mg_none_of X G z_min,
    z_range := PySem.W.mg_none_of X G z_range,
    z_repr := PySem.W.mg_none_of X G z_repr,
    z_sum := PySem.W.mg_none_of X G z_sum,
    k_ReachError := PySem.W.mg_of X G g_ReachError,
    E_ReachError := ⟨E1_ReachError, E2_ReachError, E3_ReachError, E4_ReachError, E5_ReachError, E6, E7, E8_ReachError⟩,
    k_NoFields := PySem.W.mg_of X G g_NoFields,
    E_NoFields := ⟨E1_NoFields, E2_NoFields, E3_NoFields, E4_NoFields, E5_NoFields, E6, E7, E8_NoFields⟩,
    k_NoBounds := PySem.W.mg_of X G g_NoBounds,
    E_NoBounds := ⟨E1_NoBounds, E2_NoBounds, E3_NoBounds, E4_NoBounds, E5_NoBounds, E6, E7, E8_NoBounds⟩,
    k_NoOffset := PySem.W.mg_of X G g_NoOffset,
    E_NoOffset := ⟨E1_NoOffset, E2_NoOffset, E3_NoOffset, E4_NoOffset, E5_NoOffset, E6, E7, E8_NoOffset⟩,
    k_NoAddress := PySem.W.mg_of X G g_NoAddress,
    E_NoAddress := ⟨E1_NoAddress, E2_NoAddress, E3_NoAddress, E4_NoAddress, E5_NoAddress, E6, E7, E8_NoAddress⟩,
    k_NoWord := PySem.W.mg_of X G g_NoWord,
    E_NoWord := ⟨E1_NoWord, E2_NoWord, E3_NoWord, E4_NoWord, E5_NoWord, E6, E7, E8_NoWord⟩,
    k_NoHands := PySem.W.mg_of X G g_NoHands,
    E_NoHands := ⟨E1_NoHands, E2_NoHands, E3_NoHands, E4_NoHands, E5_NoHands, E6, E7, E8_NoHands⟩,
    k_NoRule := PySem.W.mg_of X G g_NoRule,
    E_NoRule := ⟨E1_NoRule, E2_NoRule, E3_NoRule, E4_NoRule, E5_NoRule, E6, E7, E8_NoRule⟩,
    k_NoNumber := PySem.W.mg_of X G g_NoNumber,
    E_NoNumber := ⟨E1_NoNumber, E2_NoNumber, E3_NoNumber, E4_NoNumber, E5_NoNumber, E6, E7, E8_NoNumber⟩,
    k_NoLine := PySem.W.mg_of X G g_NoLine,
    E_NoLine := ⟨E1_NoLine, E2_NoLine, E3_NoLine, E4_NoLine, E5_NoLine, E6, E7, E8_NoLine⟩,
    k_Fault := PySem.W.mg_of X G g_Fault,
    E_Fault := ⟨E1_Fault, E2_Fault, E3_Fault, E4_Fault, E5_Fault, E6, E7, E8_Fault⟩,
    k_NoRows := PySem.W.mg_of X G g_NoRows,
    E_NoRows := ⟨E1_NoRows, E2_NoRows, E3_NoRows, E4_NoRows, E5_NoRows, E6, E7, E8_NoRows⟩,
    k_NoText := PySem.W.mg_of X G g_NoText,
    E_NoText := ⟨E1_NoText, E2_NoText, E3_NoText, E4_NoText, E5_NoText, E6, E7, E8_NoText⟩,
    k_NoDeeds := PySem.W.mg_of X G g_NoDeeds,
    E_NoDeeds := ⟨E1_NoDeeds, E2_NoDeeds, E3_NoDeeds, E4_NoDeeds, E5_NoDeeds, E6, E7, E8_NoDeeds⟩,
    k_NoCompartment := PySem.W.mg_of X G g_NoCompartment,
    E_NoCompartment := ⟨E1_NoCompartment, E2_NoCompartment, E3_NoCompartment, E4_NoCompartment, E5_NoCompartment, E6, E7, E8_NoCompartment⟩,
    k_TooMany := PySem.W.mg_of X G g_TooMany,
    E_TooMany := ⟨E1_TooMany, E2_TooMany, E3_TooMany, E4_TooMany, E5_TooMany, E6, E7, E8_TooMany⟩,
    k_NoName := PySem.W.mg_of X G g_NoName,
    E_NoName := ⟨E1_NoName, E2_NoName, E3_NoName, E4_NoName, E5_NoName, E6, E7, E8_NoName⟩,
    k_Sweeping := PySem.W.mg_of X G g_Sweeping,
    E_Sweeping := ⟨E1_Sweeping, E2_Sweeping, E3_Sweeping, E4_Sweeping, E5_Sweeping, E6, E7, E8_Sweeping⟩,
    k_NoSweep := PySem.W.mg_of X G g_NoSweep,
    E_NoSweep := ⟨E1_NoSweep, E2_NoSweep, E3_NoSweep, E4_NoSweep, E5_NoSweep, E6, E7, E8_NoSweep⟩,
    vB_KeyError := vB_KeyError,
    vB_OverflowError := vB_OverflowError,
    bB_ReachError := ⟨sp_ReachError, rd_ReachError, vl_ReachError⟩,
    fj_Fault := FI10,
    bj_Fault := FI10.binds (ps := ["self", "word"]) fun _ _ _ _ _ _ us hl => match us, hl with | [_, _], _ => rfl,
    tb_Fault := ⟨(OexB.of ⟨⟨_, _, _, _, _, _, _, _, _, _, _, _, _, _, _, xL_Fault, (by decide +kernel : PySem.HandSPX.refsVE [.type "ValueError", .type "Exception", .type "BaseException", .type "object"] = true)⟩, sa_Fault, u_Fault, y_Fault, p_Fault⟩), iC_Fault, tI_Fault, List.forall_mem_cons.mpr ⟨no_Fault_word, List.forall_mem_nil _⟩⟩,
    fj_NoRows := FI11,
    bj_NoRows := FI11.binds (ps := ["self", "number"]) fun _ _ _ _ _ _ us hl => match us, hl with | [_, _], _ => rfl,
    tb_NoRows := ⟨(OexB.of ⟨⟨_, _, _, _, _, _, _, _, _, _, _, _, _, _, _, xL_NoRows, (by decide +kernel : PySem.HandSPX.refsVE [.type "ValueError", .type "Exception", .type "BaseException", .type "object"] = true)⟩, sa_NoRows, u_NoRows, y_NoRows, p_NoRows⟩), iC_NoRows, tI_NoRows, List.forall_mem_cons.mpr ⟨no_NoRows_number, List.forall_mem_nil _⟩⟩,
    fj_NoText := FI12,
    bj_NoText := FI12.binds (ps := ["self", "number"]) fun _ _ _ _ _ _ us hl => match us, hl with | [_, _], _ => rfl,
    tb_NoText := ⟨(OexB.of ⟨⟨_, _, _, _, _, _, _, _, _, _, _, _, _, _, _, xL_NoText, (by decide +kernel : PySem.HandSPX.refsVE [.type "ValueError", .type "Exception", .type "BaseException", .type "object"] = true)⟩, sa_NoText, u_NoText, y_NoText, p_NoText⟩), iC_NoText, tI_NoText, List.forall_mem_cons.mpr ⟨no_NoText_number, List.forall_mem_nil _⟩⟩,
    fj_NoDeeds := FI13,
    bj_NoDeeds := FI13.binds (ps := ["self", "number"]) fun _ _ _ _ _ _ us hl => match us, hl with | [_, _], _ => rfl,
    tb_NoDeeds := ⟨(OexB.of ⟨⟨_, _, _, _, _, _, _, _, _, _, _, _, _, _, _, xL_NoDeeds, (by decide +kernel : PySem.HandSPX.refsVE [.type "ValueError", .type "Exception", .type "BaseException", .type "object"] = true)⟩, sa_NoDeeds, u_NoDeeds, y_NoDeeds, p_NoDeeds⟩), iC_NoDeeds, tI_NoDeeds, List.forall_mem_cons.mpr ⟨no_NoDeeds_number, List.forall_mem_nil _⟩⟩,
    fj_NoCompartment := FI14,
    bj_NoCompartment := FI14.binds (ps := ["self", "number", "part"]) fun _ _ _ _ _ _ us hl => match us, hl with | [_, _, _], _ => rfl,
    tb_NoCompartment := ⟨(OexB.of ⟨⟨_, _, _, _, _, _, _, _, _, _, _, _, _, _, _, xL_NoCompartment, (by decide +kernel : PySem.HandSPX.refsVE [.type "ValueError", .type "Exception", .type "BaseException", .type "object"] = true)⟩, sa_NoCompartment, u_NoCompartment, y_NoCompartment, p_NoCompartment⟩), iC_NoCompartment, tI_NoCompartment, List.forall_mem_cons.mpr ⟨no_NoCompartment_number, List.forall_mem_cons.mpr ⟨no_NoCompartment_part, List.forall_mem_nil _⟩⟩⟩,
    fj_TooMany := FI15,
    bj_TooMany := FI15.binds (ps := ["self", "size"]) fun _ _ _ _ _ _ us hl => match us, hl with | [_, _], _ => rfl,
    tb_TooMany := ⟨⟨⟨_, _, _, _, _, _, _, _, _, _, _, _, _, _, _, _, _, _, _, _,  xL_TooMany, PySem.F.excBase_OverflowError, PySem.XOB.abv_OE, .of PySem.F.excBase_OverflowError.toExcCallFacts, by decide +kernel, PySem.XOB.stf_OE⟩, sa_TooMany, u_TooMany, y_TooMany, p_TooMany⟩, iC_TooMany, tI_TooMany, List.forall_mem_cons.mpr ⟨no_TooMany_size, List.forall_mem_nil _⟩⟩,
    fj_NoName := FI16,
    bj_NoName := FI16.binds (ps := ["self", "name"]) fun _ _ _ _ _ _ us hl => match us, hl with | [_, _], _ => rfl,
    tb_NoName := ⟨⟨⟨_, _, _, _, _, _, _, _, _, _, _, _, _, _, _, _, _, _, _, _,  xL_NoName, PySem.F.excBase_LookupError, PySem.XOB.abv_KE, PySem.XOB.iniKey, by decide +kernel, PySem.XOB.stf_KE⟩, sa_NoName, u_NoName, y_NoName, p_NoName⟩, iC_NoName, tI_NoName, List.forall_mem_cons.mpr ⟨no_NoName_name, List.forall_mem_nil _⟩⟩,
    X_NoName_name := ⟨⟨E1_NoName, E2_NoName, E3_NoName, E4_NoName⟩, no_NoName_name⟩,
    X_NoRows_number := ⟨⟨E1_NoRows, E2_NoRows, E3_NoRows, E4_NoRows⟩, no_NoRows_number⟩,
    X_NoText_number := ⟨⟨E1_NoText, E2_NoText, E3_NoText, E4_NoText⟩, no_NoText_number⟩,
    X_NoDeeds_number := ⟨⟨E1_NoDeeds, E2_NoDeeds, E3_NoDeeds, E4_NoDeeds⟩, no_NoDeeds_number⟩,
    X_NoCompartment_number := ⟨⟨E1_NoCompartment, E2_NoCompartment, E3_NoCompartment, E4_NoCompartment⟩, no_NoCompartment_number⟩,
    X_NoCompartment_part := ⟨⟨E1_NoCompartment, E2_NoCompartment, E3_NoCompartment, E4_NoCompartment⟩, no_NoCompartment_part⟩,
    X_TooMany_size := ⟨⟨E1_TooMany, E2_TooMany, E3_TooMany, E4_TooMany⟩, no_TooMany_size⟩,
    X_Fault_word := ⟨⟨E1_Fault, E2_Fault, E3_Fault, E4_Fault⟩, no_Fault_word⟩,
    x_NoAddress := x_NoAddress,
    p_NoAddress := p_NoAddress,
    u_NoAddress := u_NoAddress,
    y_NoAddress := y_NoAddress,
    x_NoBounds := x_NoBounds,
    p_NoBounds := p_NoBounds,
    u_NoBounds := u_NoBounds,
    y_NoBounds := y_NoBounds,
    x_NoFields := x_NoFields,
    p_NoFields := p_NoFields,
    u_NoFields := u_NoFields,
    y_NoFields := y_NoFields,
    x_NoHands := x_NoHands,
    p_NoHands := p_NoHands,
    u_NoHands := u_NoHands,
    y_NoHands := y_NoHands,
    x_NoLine := x_NoLine,
    p_NoLine := p_NoLine,
    u_NoLine := u_NoLine,
    y_NoLine := y_NoLine,
    x_NoNumber := x_NoNumber,
    p_NoNumber := p_NoNumber,
    u_NoNumber := u_NoNumber,
    y_NoNumber := y_NoNumber,
    x_NoOffset := x_NoOffset,
    p_NoOffset := p_NoOffset,
    u_NoOffset := u_NoOffset,
    y_NoOffset := y_NoOffset,
    x_NoRule := x_NoRule,
    p_NoRule := p_NoRule,
    u_NoRule := u_NoRule,
    y_NoRule := y_NoRule,
    x_NoSweep := x_NoSweep,
    p_NoSweep := p_NoSweep,
    u_NoSweep := u_NoSweep,
    y_NoSweep := y_NoSweep,
    x_NoWord := x_NoWord,
    p_NoWord := p_NoWord,
    u_NoWord := u_NoWord,
    y_NoWord := y_NoWord,
    x_Sweeping := x_Sweeping,
    p_Sweeping := p_Sweeping,
    u_Sweeping := u_Sweeping,
    y_Sweeping := y_Sweeping,
    q_Fault_Fault := q_Fault_Fault,
    q_Fault_IndexError := q_Fault_IndexError,
    q_Fault_KeyError := q_Fault_KeyError,
    q_Fault_LookupError := q_Fault_LookupError,
    q_Fault_NoAddress := q_Fault_NoAddress,
    q_Fault_NoBounds := q_Fault_NoBounds,
    q_Fault_NoCompartment := q_Fault_NoCompartment,
    q_Fault_NoDeeds := q_Fault_NoDeeds,
    q_Fault_NoFields := q_Fault_NoFields,
    q_Fault_NoHands := q_Fault_NoHands,
    q_Fault_NoLine := q_Fault_NoLine,
    q_Fault_NoName := q_Fault_NoName,
    q_Fault_NoNumber := q_Fault_NoNumber,
    q_Fault_NoOffset := q_Fault_NoOffset,
    q_Fault_NoRows := q_Fault_NoRows,
    q_Fault_NoRule := q_Fault_NoRule,
    q_Fault_NoSweep := q_Fault_NoSweep,
    q_Fault_NoText := q_Fault_NoText,
    q_Fault_NoWord := q_Fault_NoWord,
    q_Fault_OverflowError := q_Fault_OverflowError,
    q_Fault_ReachError := q_Fault_ReachError,
    q_Fault_RuntimeError := q_Fault_RuntimeError,
    q_Fault_Sweeping := q_Fault_Sweeping,
    q_Fault_TooMany := q_Fault_TooMany,
    q_Fault_ValueError := q_Fault_ValueError,
    q_NoAddress_Fault := q_NoAddress_Fault,
    q_NoAddress_IndexError := q_NoAddress_IndexError,
    q_NoAddress_KeyError := q_NoAddress_KeyError,
    q_NoAddress_LookupError := q_NoAddress_LookupError,
    q_NoAddress_NoAddress := q_NoAddress_NoAddress,
    q_NoAddress_NoBounds := q_NoAddress_NoBounds,
    q_NoAddress_NoCompartment := q_NoAddress_NoCompartment,
    q_NoAddress_NoDeeds := q_NoAddress_NoDeeds,
    q_NoAddress_NoFields := q_NoAddress_NoFields,
    q_NoAddress_NoHands := q_NoAddress_NoHands,
    q_NoAddress_NoLine := q_NoAddress_NoLine,
    q_NoAddress_NoName := q_NoAddress_NoName,
    q_NoAddress_NoNumber := q_NoAddress_NoNumber,
    q_NoAddress_NoOffset := q_NoAddress_NoOffset,
    q_NoAddress_NoRows := q_NoAddress_NoRows,
    q_NoAddress_NoRule := q_NoAddress_NoRule,
    q_NoAddress_NoSweep := q_NoAddress_NoSweep,
    q_NoAddress_NoText := q_NoAddress_NoText,
    q_NoAddress_NoWord := q_NoAddress_NoWord,
    q_NoAddress_OverflowError := q_NoAddress_OverflowError,
    q_NoAddress_ReachError := q_NoAddress_ReachError,
    q_NoAddress_RuntimeError := q_NoAddress_RuntimeError,
    q_NoAddress_Sweeping := q_NoAddress_Sweeping,
    q_NoAddress_TooMany := q_NoAddress_TooMany,
    q_NoAddress_ValueError := q_NoAddress_ValueError,
    q_NoBounds_Fault := q_NoBounds_Fault,
    q_NoBounds_IndexError := q_NoBounds_IndexError,
    q_NoBounds_KeyError := q_NoBounds_KeyError,
    q_NoBounds_LookupError := q_NoBounds_LookupError,
    q_NoBounds_NoAddress := q_NoBounds_NoAddress,
    q_NoBounds_NoBounds := q_NoBounds_NoBounds,
    q_NoBounds_NoCompartment := q_NoBounds_NoCompartment,
    q_NoBounds_NoDeeds := q_NoBounds_NoDeeds,
    q_NoBounds_NoFields := q_NoBounds_NoFields,
    q_NoBounds_NoHands := q_NoBounds_NoHands,
    q_NoBounds_NoLine := q_NoBounds_NoLine,
    q_NoBounds_NoName := q_NoBounds_NoName,
    q_NoBounds_NoNumber := q_NoBounds_NoNumber,
    q_NoBounds_NoOffset := q_NoBounds_NoOffset,
    q_NoBounds_NoRows := q_NoBounds_NoRows,
    q_NoBounds_NoRule := q_NoBounds_NoRule,
    q_NoBounds_NoSweep := q_NoBounds_NoSweep,
    q_NoBounds_NoText := q_NoBounds_NoText,
    q_NoBounds_NoWord := q_NoBounds_NoWord,
    q_NoBounds_OverflowError := q_NoBounds_OverflowError,
    q_NoBounds_ReachError := q_NoBounds_ReachError,
    q_NoBounds_RuntimeError := q_NoBounds_RuntimeError,
    q_NoBounds_Sweeping := q_NoBounds_Sweeping,
    q_NoBounds_TooMany := q_NoBounds_TooMany,
    q_NoBounds_ValueError := q_NoBounds_ValueError,
    q_NoCompartment_Fault := q_NoCompartment_Fault,
    q_NoCompartment_IndexError := q_NoCompartment_IndexError,
    q_NoCompartment_KeyError := q_NoCompartment_KeyError,
    q_NoCompartment_LookupError := q_NoCompartment_LookupError,
    q_NoCompartment_NoAddress := q_NoCompartment_NoAddress,
    q_NoCompartment_NoBounds := q_NoCompartment_NoBounds,
    q_NoCompartment_NoCompartment := q_NoCompartment_NoCompartment,
    q_NoCompartment_NoDeeds := q_NoCompartment_NoDeeds,
    q_NoCompartment_NoFields := q_NoCompartment_NoFields,
    q_NoCompartment_NoHands := q_NoCompartment_NoHands,
    q_NoCompartment_NoLine := q_NoCompartment_NoLine,
    q_NoCompartment_NoName := q_NoCompartment_NoName,
    q_NoCompartment_NoNumber := q_NoCompartment_NoNumber,
    q_NoCompartment_NoOffset := q_NoCompartment_NoOffset,
    q_NoCompartment_NoRows := q_NoCompartment_NoRows,
    q_NoCompartment_NoRule := q_NoCompartment_NoRule,
    q_NoCompartment_NoSweep := q_NoCompartment_NoSweep,
    q_NoCompartment_NoText := q_NoCompartment_NoText,
    q_NoCompartment_NoWord := q_NoCompartment_NoWord,
    q_NoCompartment_OverflowError := q_NoCompartment_OverflowError,
    q_NoCompartment_ReachError := q_NoCompartment_ReachError,
    q_NoCompartment_RuntimeError := q_NoCompartment_RuntimeError,
    q_NoCompartment_Sweeping := q_NoCompartment_Sweeping,
    q_NoCompartment_TooMany := q_NoCompartment_TooMany,
    q_NoCompartment_ValueError := q_NoCompartment_ValueError,
    q_NoDeeds_Fault := q_NoDeeds_Fault,
    q_NoDeeds_IndexError := q_NoDeeds_IndexError,
    q_NoDeeds_KeyError := q_NoDeeds_KeyError,
    q_NoDeeds_LookupError := q_NoDeeds_LookupError,
    q_NoDeeds_NoAddress := q_NoDeeds_NoAddress,
    q_NoDeeds_NoBounds := q_NoDeeds_NoBounds,
    q_NoDeeds_NoCompartment := q_NoDeeds_NoCompartment,
    q_NoDeeds_NoDeeds := q_NoDeeds_NoDeeds,
    q_NoDeeds_NoFields := q_NoDeeds_NoFields,
    q_NoDeeds_NoHands := q_NoDeeds_NoHands,
    q_NoDeeds_NoLine := q_NoDeeds_NoLine,
    q_NoDeeds_NoName := q_NoDeeds_NoName,
    q_NoDeeds_NoNumber := q_NoDeeds_NoNumber,
    q_NoDeeds_NoOffset := q_NoDeeds_NoOffset,
    q_NoDeeds_NoRows := q_NoDeeds_NoRows,
    q_NoDeeds_NoRule := q_NoDeeds_NoRule,
    q_NoDeeds_NoSweep := q_NoDeeds_NoSweep,
    q_NoDeeds_NoText := q_NoDeeds_NoText,
    q_NoDeeds_NoWord := q_NoDeeds_NoWord,
    q_NoDeeds_OverflowError := q_NoDeeds_OverflowError,
    q_NoDeeds_ReachError := q_NoDeeds_ReachError,
    q_NoDeeds_RuntimeError := q_NoDeeds_RuntimeError,
    q_NoDeeds_Sweeping := q_NoDeeds_Sweeping,
    q_NoDeeds_TooMany := q_NoDeeds_TooMany,
    q_NoDeeds_ValueError := q_NoDeeds_ValueError,
    q_NoFields_Fault := q_NoFields_Fault,
    q_NoFields_IndexError := q_NoFields_IndexError,
    q_NoFields_KeyError := q_NoFields_KeyError,
    q_NoFields_LookupError := q_NoFields_LookupError,
    q_NoFields_NoAddress := q_NoFields_NoAddress,
    q_NoFields_NoBounds := q_NoFields_NoBounds,
    q_NoFields_NoCompartment := q_NoFields_NoCompartment,
    q_NoFields_NoDeeds := q_NoFields_NoDeeds,
    q_NoFields_NoFields := q_NoFields_NoFields,
    q_NoFields_NoHands := q_NoFields_NoHands,
    q_NoFields_NoLine := q_NoFields_NoLine,
    q_NoFields_NoName := q_NoFields_NoName,
    q_NoFields_NoNumber := q_NoFields_NoNumber,
    q_NoFields_NoOffset := q_NoFields_NoOffset,
    q_NoFields_NoRows := q_NoFields_NoRows,
    q_NoFields_NoRule := q_NoFields_NoRule,
    q_NoFields_NoSweep := q_NoFields_NoSweep,
    q_NoFields_NoText := q_NoFields_NoText,
    q_NoFields_NoWord := q_NoFields_NoWord,
    q_NoFields_OverflowError := q_NoFields_OverflowError,
    q_NoFields_ReachError := q_NoFields_ReachError,
    q_NoFields_RuntimeError := q_NoFields_RuntimeError,
    q_NoFields_Sweeping := q_NoFields_Sweeping,
    q_NoFields_TooMany := q_NoFields_TooMany,
    q_NoFields_ValueError := q_NoFields_ValueError,
    q_NoHands_Fault := q_NoHands_Fault,
    q_NoHands_IndexError := q_NoHands_IndexError,
    q_NoHands_KeyError := q_NoHands_KeyError,
    q_NoHands_LookupError := q_NoHands_LookupError,
    q_NoHands_NoAddress := q_NoHands_NoAddress,
    q_NoHands_NoBounds := q_NoHands_NoBounds,
    q_NoHands_NoCompartment := q_NoHands_NoCompartment,
    q_NoHands_NoDeeds := q_NoHands_NoDeeds,
    q_NoHands_NoFields := q_NoHands_NoFields,
    q_NoHands_NoHands := q_NoHands_NoHands,
    q_NoHands_NoLine := q_NoHands_NoLine,
    q_NoHands_NoName := q_NoHands_NoName,
    q_NoHands_NoNumber := q_NoHands_NoNumber,
    q_NoHands_NoOffset := q_NoHands_NoOffset,
    q_NoHands_NoRows := q_NoHands_NoRows,
    q_NoHands_NoRule := q_NoHands_NoRule,
    q_NoHands_NoSweep := q_NoHands_NoSweep,
    q_NoHands_NoText := q_NoHands_NoText,
    q_NoHands_NoWord := q_NoHands_NoWord,
    q_NoHands_OverflowError := q_NoHands_OverflowError,
    q_NoHands_ReachError := q_NoHands_ReachError,
    q_NoHands_RuntimeError := q_NoHands_RuntimeError,
    q_NoHands_Sweeping := q_NoHands_Sweeping,
    q_NoHands_TooMany := q_NoHands_TooMany,
    q_NoHands_ValueError := q_NoHands_ValueError,
    q_NoLine_Fault := q_NoLine_Fault,
    q_NoLine_IndexError := q_NoLine_IndexError,
    q_NoLine_KeyError := q_NoLine_KeyError,
    q_NoLine_LookupError := q_NoLine_LookupError,
    q_NoLine_NoAddress := q_NoLine_NoAddress,
    q_NoLine_NoBounds := q_NoLine_NoBounds,
    q_NoLine_NoCompartment := q_NoLine_NoCompartment,
    q_NoLine_NoDeeds := q_NoLine_NoDeeds,
    q_NoLine_NoFields := q_NoLine_NoFields,
    q_NoLine_NoHands := q_NoLine_NoHands,
    q_NoLine_NoLine := q_NoLine_NoLine,
    q_NoLine_NoName := q_NoLine_NoName,
    q_NoLine_NoNumber := q_NoLine_NoNumber,
    q_NoLine_NoOffset := q_NoLine_NoOffset,
    q_NoLine_NoRows := q_NoLine_NoRows,
    q_NoLine_NoRule := q_NoLine_NoRule,
    q_NoLine_NoSweep := q_NoLine_NoSweep,
    q_NoLine_NoText := q_NoLine_NoText,
    q_NoLine_NoWord := q_NoLine_NoWord,
    q_NoLine_OverflowError := q_NoLine_OverflowError,
    q_NoLine_ReachError := q_NoLine_ReachError,
    q_NoLine_RuntimeError := q_NoLine_RuntimeError,
    q_NoLine_Sweeping := q_NoLine_Sweeping,
    q_NoLine_TooMany := q_NoLine_TooMany,
    q_NoLine_ValueError := q_NoLine_ValueError,
    q_NoName_Fault := q_NoName_Fault,
    q_NoName_IndexError := q_NoName_IndexError,
    q_NoName_KeyError := q_NoName_KeyError,
    q_NoName_LookupError := q_NoName_LookupError,
    q_NoName_NoAddress := q_NoName_NoAddress,
    q_NoName_NoBounds := q_NoName_NoBounds,
    q_NoName_NoCompartment := q_NoName_NoCompartment,
    q_NoName_NoDeeds := q_NoName_NoDeeds,
    q_NoName_NoFields := q_NoName_NoFields,
    q_NoName_NoHands := q_NoName_NoHands,
    q_NoName_NoLine := q_NoName_NoLine,
    q_NoName_NoName := q_NoName_NoName,
    q_NoName_NoNumber := q_NoName_NoNumber,
    q_NoName_NoOffset := q_NoName_NoOffset,
    q_NoName_NoRows := q_NoName_NoRows,
    q_NoName_NoRule := q_NoName_NoRule,
    q_NoName_NoSweep := q_NoName_NoSweep,
    q_NoName_NoText := q_NoName_NoText,
    q_NoName_NoWord := q_NoName_NoWord,
    q_NoName_OverflowError := q_NoName_OverflowError,
    q_NoName_ReachError := q_NoName_ReachError,
    q_NoName_RuntimeError := q_NoName_RuntimeError,
    q_NoName_Sweeping := q_NoName_Sweeping,
    q_NoName_TooMany := q_NoName_TooMany,
    q_NoName_ValueError := q_NoName_ValueError,
    q_NoNumber_Fault := q_NoNumber_Fault,
    q_NoNumber_IndexError := q_NoNumber_IndexError,
    q_NoNumber_KeyError := q_NoNumber_KeyError,
    q_NoNumber_LookupError := q_NoNumber_LookupError,
    q_NoNumber_NoAddress := q_NoNumber_NoAddress,
    q_NoNumber_NoBounds := q_NoNumber_NoBounds,
    q_NoNumber_NoCompartment := q_NoNumber_NoCompartment,
    q_NoNumber_NoDeeds := q_NoNumber_NoDeeds,
    q_NoNumber_NoFields := q_NoNumber_NoFields,
    q_NoNumber_NoHands := q_NoNumber_NoHands,
    q_NoNumber_NoLine := q_NoNumber_NoLine,
    q_NoNumber_NoName := q_NoNumber_NoName,
    q_NoNumber_NoNumber := q_NoNumber_NoNumber,
    q_NoNumber_NoOffset := q_NoNumber_NoOffset,
    q_NoNumber_NoRows := q_NoNumber_NoRows,
    q_NoNumber_NoRule := q_NoNumber_NoRule,
    q_NoNumber_NoSweep := q_NoNumber_NoSweep,
    q_NoNumber_NoText := q_NoNumber_NoText,
    q_NoNumber_NoWord := q_NoNumber_NoWord,
    q_NoNumber_OverflowError := q_NoNumber_OverflowError,
    q_NoNumber_ReachError := q_NoNumber_ReachError,
    q_NoNumber_RuntimeError := q_NoNumber_RuntimeError,
    q_NoNumber_Sweeping := q_NoNumber_Sweeping,
    q_NoNumber_TooMany := q_NoNumber_TooMany,
    q_NoNumber_ValueError := q_NoNumber_ValueError,
    q_NoOffset_Fault := q_NoOffset_Fault,
    q_NoOffset_IndexError := q_NoOffset_IndexError,
    q_NoOffset_KeyError := q_NoOffset_KeyError,
    q_NoOffset_LookupError := q_NoOffset_LookupError,
    q_NoOffset_NoAddress := q_NoOffset_NoAddress,
    q_NoOffset_NoBounds := q_NoOffset_NoBounds,
    q_NoOffset_NoCompartment := q_NoOffset_NoCompartment,
    q_NoOffset_NoDeeds := q_NoOffset_NoDeeds,
    q_NoOffset_NoFields := q_NoOffset_NoFields,
    q_NoOffset_NoHands := q_NoOffset_NoHands,
    q_NoOffset_NoLine := q_NoOffset_NoLine,
    q_NoOffset_NoName := q_NoOffset_NoName,
    q_NoOffset_NoNumber := q_NoOffset_NoNumber,
    q_NoOffset_NoOffset := q_NoOffset_NoOffset,
    q_NoOffset_NoRows := q_NoOffset_NoRows,
    q_NoOffset_NoRule := q_NoOffset_NoRule,
    q_NoOffset_NoSweep := q_NoOffset_NoSweep,
    q_NoOffset_NoText := q_NoOffset_NoText,
    q_NoOffset_NoWord := q_NoOffset_NoWord,
    q_NoOffset_OverflowError := q_NoOffset_OverflowError,
    q_NoOffset_ReachError := q_NoOffset_ReachError,
    q_NoOffset_RuntimeError := q_NoOffset_RuntimeError,
    q_NoOffset_Sweeping := q_NoOffset_Sweeping,
    q_NoOffset_TooMany := q_NoOffset_TooMany,
    q_NoOffset_ValueError := q_NoOffset_ValueError,
    q_NoRows_Fault := q_NoRows_Fault,
    q_NoRows_IndexError := q_NoRows_IndexError,
    q_NoRows_KeyError := q_NoRows_KeyError,
    q_NoRows_LookupError := q_NoRows_LookupError,
    q_NoRows_NoAddress := q_NoRows_NoAddress,
    q_NoRows_NoBounds := q_NoRows_NoBounds,
    q_NoRows_NoCompartment := q_NoRows_NoCompartment,
    q_NoRows_NoDeeds := q_NoRows_NoDeeds,
    q_NoRows_NoFields := q_NoRows_NoFields,
    q_NoRows_NoHands := q_NoRows_NoHands,
    q_NoRows_NoLine := q_NoRows_NoLine,
    q_NoRows_NoName := q_NoRows_NoName,
    q_NoRows_NoNumber := q_NoRows_NoNumber,
    q_NoRows_NoOffset := q_NoRows_NoOffset,
    q_NoRows_NoRows := q_NoRows_NoRows,
    q_NoRows_NoRule := q_NoRows_NoRule,
    q_NoRows_NoSweep := q_NoRows_NoSweep,
    q_NoRows_NoText := q_NoRows_NoText,
    q_NoRows_NoWord := q_NoRows_NoWord,
    q_NoRows_OverflowError := q_NoRows_OverflowError,
    q_NoRows_ReachError := q_NoRows_ReachError,
    q_NoRows_RuntimeError := q_NoRows_RuntimeError,
    q_NoRows_Sweeping := q_NoRows_Sweeping,
    q_NoRows_TooMany := q_NoRows_TooMany,
    q_NoRows_ValueError := q_NoRows_ValueError,
    q_NoRule_Fault := q_NoRule_Fault,
    q_NoRule_IndexError := q_NoRule_IndexError,
    q_NoRule_KeyError := q_NoRule_KeyError,
    q_NoRule_LookupError := q_NoRule_LookupError,
    q_NoRule_NoAddress := q_NoRule_NoAddress,
    q_NoRule_NoBounds := q_NoRule_NoBounds,
    q_NoRule_NoCompartment := q_NoRule_NoCompartment,
    q_NoRule_NoDeeds := q_NoRule_NoDeeds,
    q_NoRule_NoFields := q_NoRule_NoFields,
    q_NoRule_NoHands := q_NoRule_NoHands,
    q_NoRule_NoLine := q_NoRule_NoLine,
    q_NoRule_NoName := q_NoRule_NoName,
    q_NoRule_NoNumber := q_NoRule_NoNumber,
    q_NoRule_NoOffset := q_NoRule_NoOffset,
    q_NoRule_NoRows := q_NoRule_NoRows,
    q_NoRule_NoRule := q_NoRule_NoRule,
    q_NoRule_NoSweep := q_NoRule_NoSweep,
    q_NoRule_NoText := q_NoRule_NoText,
    q_NoRule_NoWord := q_NoRule_NoWord,
    q_NoRule_OverflowError := q_NoRule_OverflowError,
    q_NoRule_ReachError := q_NoRule_ReachError,
    q_NoRule_RuntimeError := q_NoRule_RuntimeError,
    q_NoRule_Sweeping := q_NoRule_Sweeping,
    q_NoRule_TooMany := q_NoRule_TooMany,
    q_NoRule_ValueError := q_NoRule_ValueError,
    q_NoSweep_Fault := q_NoSweep_Fault,
    q_NoSweep_IndexError := q_NoSweep_IndexError,
    q_NoSweep_KeyError := q_NoSweep_KeyError,
    q_NoSweep_LookupError := q_NoSweep_LookupError,
    q_NoSweep_NoAddress := q_NoSweep_NoAddress,
    q_NoSweep_NoBounds := q_NoSweep_NoBounds,
    q_NoSweep_NoCompartment := q_NoSweep_NoCompartment,
    q_NoSweep_NoDeeds := q_NoSweep_NoDeeds,
    q_NoSweep_NoFields := q_NoSweep_NoFields,
    q_NoSweep_NoHands := q_NoSweep_NoHands,
    q_NoSweep_NoLine := q_NoSweep_NoLine,
    q_NoSweep_NoName := q_NoSweep_NoName,
    q_NoSweep_NoNumber := q_NoSweep_NoNumber,
    q_NoSweep_NoOffset := q_NoSweep_NoOffset,
    q_NoSweep_NoRows := q_NoSweep_NoRows,
    q_NoSweep_NoRule := q_NoSweep_NoRule,
    q_NoSweep_NoSweep := q_NoSweep_NoSweep,
    q_NoSweep_NoText := q_NoSweep_NoText,
    q_NoSweep_NoWord := q_NoSweep_NoWord,
    q_NoSweep_OverflowError := q_NoSweep_OverflowError,
    q_NoSweep_ReachError := q_NoSweep_ReachError,
    q_NoSweep_RuntimeError := q_NoSweep_RuntimeError,
    q_NoSweep_Sweeping := q_NoSweep_Sweeping,
    q_NoSweep_TooMany := q_NoSweep_TooMany,
    q_NoSweep_ValueError := q_NoSweep_ValueError,
    q_NoText_Fault := q_NoText_Fault,
    q_NoText_IndexError := q_NoText_IndexError,
    q_NoText_KeyError := q_NoText_KeyError,
    q_NoText_LookupError := q_NoText_LookupError,
    q_NoText_NoAddress := q_NoText_NoAddress,
    q_NoText_NoBounds := q_NoText_NoBounds,
    q_NoText_NoCompartment := q_NoText_NoCompartment,
    q_NoText_NoDeeds := q_NoText_NoDeeds,
    q_NoText_NoFields := q_NoText_NoFields,
    q_NoText_NoHands := q_NoText_NoHands,
    q_NoText_NoLine := q_NoText_NoLine,
    q_NoText_NoName := q_NoText_NoName,
    q_NoText_NoNumber := q_NoText_NoNumber,
    q_NoText_NoOffset := q_NoText_NoOffset,
    q_NoText_NoRows := q_NoText_NoRows,
    q_NoText_NoRule := q_NoText_NoRule,
    q_NoText_NoSweep := q_NoText_NoSweep,
    q_NoText_NoText := q_NoText_NoText,
    q_NoText_NoWord := q_NoText_NoWord,
    q_NoText_OverflowError := q_NoText_OverflowError,
    q_NoText_ReachError := q_NoText_ReachError,
    q_NoText_RuntimeError := q_NoText_RuntimeError,
    q_NoText_Sweeping := q_NoText_Sweeping,
    q_NoText_TooMany := q_NoText_TooMany,
    q_NoText_ValueError := q_NoText_ValueError,
    q_NoWord_Fault := q_NoWord_Fault,
    q_NoWord_IndexError := q_NoWord_IndexError,
    q_NoWord_KeyError := q_NoWord_KeyError,
    q_NoWord_LookupError := q_NoWord_LookupError,
    q_NoWord_NoAddress := q_NoWord_NoAddress,
    q_NoWord_NoBounds := q_NoWord_NoBounds,
    q_NoWord_NoCompartment := q_NoWord_NoCompartment,
    q_NoWord_NoDeeds := q_NoWord_NoDeeds,
    q_NoWord_NoFields := q_NoWord_NoFields,
    q_NoWord_NoHands := q_NoWord_NoHands,
    q_NoWord_NoLine := q_NoWord_NoLine,
    q_NoWord_NoName := q_NoWord_NoName,
    q_NoWord_NoNumber := q_NoWord_NoNumber,
    q_NoWord_NoOffset := q_NoWord_NoOffset,
    q_NoWord_NoRows := q_NoWord_NoRows,
    q_NoWord_NoRule := q_NoWord_NoRule,
    q_NoWord_NoSweep := q_NoWord_NoSweep,
    q_NoWord_NoText := q_NoWord_NoText,
    q_NoWord_NoWord := q_NoWord_NoWord,
    q_NoWord_OverflowError := q_NoWord_OverflowError,
    q_NoWord_ReachError := q_NoWord_ReachError,
    q_NoWord_RuntimeError := q_NoWord_RuntimeError,
    q_NoWord_Sweeping := q_NoWord_Sweeping,
    q_NoWord_TooMany := q_NoWord_TooMany,
    q_NoWord_ValueError := q_NoWord_ValueError,
    q_ReachError_Fault := q_ReachError_Fault,
    q_ReachError_IndexError := q_ReachError_IndexError,
    q_ReachError_KeyError := q_ReachError_KeyError,
    q_ReachError_LookupError := q_ReachError_LookupError,
    q_ReachError_NoAddress := q_ReachError_NoAddress,
    q_ReachError_NoBounds := q_ReachError_NoBounds,
    q_ReachError_NoCompartment := q_ReachError_NoCompartment,
    q_ReachError_NoDeeds := q_ReachError_NoDeeds,
    q_ReachError_NoFields := q_ReachError_NoFields,
    q_ReachError_NoHands := q_ReachError_NoHands,
    q_ReachError_NoLine := q_ReachError_NoLine,
    q_ReachError_NoName := q_ReachError_NoName,
    q_ReachError_NoNumber := q_ReachError_NoNumber,
    q_ReachError_NoOffset := q_ReachError_NoOffset,
    q_ReachError_NoRows := q_ReachError_NoRows,
    q_ReachError_NoRule := q_ReachError_NoRule,
    q_ReachError_NoSweep := q_ReachError_NoSweep,
    q_ReachError_NoText := q_ReachError_NoText,
    q_ReachError_NoWord := q_ReachError_NoWord,
    q_ReachError_OverflowError := q_ReachError_OverflowError,
    q_ReachError_ReachError := q_ReachError_ReachError,
    q_ReachError_RuntimeError := q_ReachError_RuntimeError,
    q_ReachError_Sweeping := q_ReachError_Sweeping,
    q_ReachError_TooMany := q_ReachError_TooMany,
    q_ReachError_ValueError := q_ReachError_ValueError,
    q_Sweeping_Fault := q_Sweeping_Fault,
    q_Sweeping_IndexError := q_Sweeping_IndexError,
    q_Sweeping_KeyError := q_Sweeping_KeyError,
    q_Sweeping_LookupError := q_Sweeping_LookupError,
    q_Sweeping_NoAddress := q_Sweeping_NoAddress,
    q_Sweeping_NoBounds := q_Sweeping_NoBounds,
    q_Sweeping_NoCompartment := q_Sweeping_NoCompartment,
    q_Sweeping_NoDeeds := q_Sweeping_NoDeeds,
    q_Sweeping_NoFields := q_Sweeping_NoFields,
    q_Sweeping_NoHands := q_Sweeping_NoHands,
    q_Sweeping_NoLine := q_Sweeping_NoLine,
    q_Sweeping_NoName := q_Sweeping_NoName,
    q_Sweeping_NoNumber := q_Sweeping_NoNumber,
    q_Sweeping_NoOffset := q_Sweeping_NoOffset,
    q_Sweeping_NoRows := q_Sweeping_NoRows,
    q_Sweeping_NoRule := q_Sweeping_NoRule,
    q_Sweeping_NoSweep := q_Sweeping_NoSweep,
    q_Sweeping_NoText := q_Sweeping_NoText,
    q_Sweeping_NoWord := q_Sweeping_NoWord,
    q_Sweeping_OverflowError := q_Sweeping_OverflowError,
    q_Sweeping_ReachError := q_Sweeping_ReachError,
    q_Sweeping_RuntimeError := q_Sweeping_RuntimeError,
    q_Sweeping_Sweeping := q_Sweeping_Sweeping,
    q_Sweeping_TooMany := q_Sweeping_TooMany,
    q_Sweeping_ValueError := q_Sweeping_ValueError,
    q_TooMany_Fault := q_TooMany_Fault,
    q_TooMany_IndexError := q_TooMany_IndexError,
    q_TooMany_KeyError := q_TooMany_KeyError,
    q_TooMany_LookupError := q_TooMany_LookupError,
    q_TooMany_NoAddress := q_TooMany_NoAddress,
    q_TooMany_NoBounds := q_TooMany_NoBounds,
    q_TooMany_NoCompartment := q_TooMany_NoCompartment,
    q_TooMany_NoDeeds := q_TooMany_NoDeeds,
    q_TooMany_NoFields := q_TooMany_NoFields,
    q_TooMany_NoHands := q_TooMany_NoHands,
    q_TooMany_NoLine := q_TooMany_NoLine,
    q_TooMany_NoName := q_TooMany_NoName,
    q_TooMany_NoNumber := q_TooMany_NoNumber,
    q_TooMany_NoOffset := q_TooMany_NoOffset,
    q_TooMany_NoRows := q_TooMany_NoRows,
    q_TooMany_NoRule := q_TooMany_NoRule,
    q_TooMany_NoSweep := q_TooMany_NoSweep,
    q_TooMany_NoText := q_TooMany_NoText,
    q_TooMany_NoWord := q_TooMany_NoWord,
    q_TooMany_OverflowError := q_TooMany_OverflowError,
    q_TooMany_ReachError := q_TooMany_ReachError,
    q_TooMany_RuntimeError := q_TooMany_RuntimeError,
    q_TooMany_Sweeping := q_TooMany_Sweeping,
    q_TooMany_TooMany := q_TooMany_TooMany,
    q_TooMany_ValueError := q_TooMany_ValueError }
  exact ⟨_, C, fun s v => .of_eq rfl, fun base _ _ => ok_law T⟩
end
theorem mulOk_of {i j : Int} (h : -18446744073709551616 < i) (h2 : i < 18446744073709551616) : mulOk i j = true := by unfold mulOk; simp [h, h2]
theorem take_eq {S : Store} {n : Nat} {a b many : Int} (hS : S[n]? = some (.lst [.int a, .int b])) (hb : 0 ≤ b) (hb2 : b < 2147483647) (hm : 0 < many) (hm2 : many < 18446744073709551616) :
    g_law_take [.loc n, .int many] S = if 0 < a then .ok (.int (a % many)) (S.set n (.lst [.int (a / many), .int b]))
      else .ok (.int ((b * 48271 + 11) % 2147483647 * ((b * 48271 + 11) % 2147483647) % 2147483629 / 16 % many)) (S.set n (.lst [.int a, .int ((b * 48271 + 11) % 2147483647)])) := by
  have hl : n < S.length := (List.getElem?_eq_some_iff.mp hS).1
  have hset : ∀ o : MO, (S.set n o)[n]? = some o := fun o => List.getElem?_set_self hl
  have hb3 : mulOk b 48271 = true := mulOk_of (by omega) (by omega)
  have hb4 : mulOk ((b * 48271 + 11) % 2147483647) ((b * 48271 + 11) % 2147483647) = true := mulOk_of (by omega) (by omega)
  unfold g_law_take runDef m_law_take
  simp [ixD, atI, ixN, hS, putIx, hm, hm2, hb3, hb4, hset]
def PoolAt (S : Store) (n : Nat) : Prop := ∃ a b : Int, S[n]? = some (.lst [.int a, .int b]) ∧ 0 ≤ a ∧ 0 ≤ b ∧ b < 2147483647
theorem take_ok {S : Store} {n : Nat} (many : Int) (h : PoolAt S n) (hm : 0 < many) (hm2 : many < 18446744073709551616) : ∃ r S', g_law_take [.loc n, .int many] S = .ok (.int r) S' ∧ 0 ≤ r ∧ r < many ∧ PoolAt S' n ∧ ∃ o, S' = S.set n o := by
  obtain ⟨a, b, hS, ha, hb, hb2⟩ := h
  have hl : n < S.length := (List.getElem?_eq_some_iff.mp hS).1
  rw [take_eq hS hb hb2 hm hm2]
  split
  · exact ⟨_, _, rfl, Int.emod_nonneg _ (by omega), Int.emod_lt_of_pos _ hm, ⟨_, _, List.getElem?_set_self hl, Int.ediv_nonneg ha (by omega), hb, hb2⟩, _, rfl⟩
  · exact ⟨_, _, rfl, Int.emod_nonneg _ (by omega), Int.emod_lt_of_pos _ hm, ⟨_, _, List.getElem?_set_self hl, ha, by omega, by omega⟩, _, rfl⟩
theorem atI_map (ns : List Int) (k : Int) (h : 0 ≤ k) (h2 : k < ns.length) : atI (ns.map D.int) k = some (.int (ns.getD k.toNat 0)) := by
  have h3 : k.toNat < ns.length := by omega
  simp [atI, ixN, h, h2, List.getD, h3]
theorem pool_ok (ns : List Int) (k : Int) (S : Store) (hk : 0 ≤ k) (hk2 : k < 1000) : ∃ a b : Int, 0 ≤ a ∧ 0 ≤ b ∧ b < 2147483647 ∧ g_law_pool [.lst (ns.map D.int), .int k] S = .ok (.loc S.length) (S ++ [.lst [.int a, .int b]]) := by
  have m1 : ∀ x, mulOk 7 x = true := fun x => mulOk_of (by omega) (by omega)
  have m2 : mulOk 7919 k = true := mulOk_of (by omega) (by omega)
  have m3 : mulOk (7919 * k) k = true := mulOk_of (by omega) (by omega)
  have m4 : mulOk 31 k = true := mulOk_of (by omega) (by omega)
  have kk : 0 ≤ 7919 * k * k ∧ 7919 * k * k < 7919000000 := by
    have h1 : 0 ≤ k * k := Int.mul_nonneg hk hk
    have h2 : k * k ≤ 999 * 999 := Int.mul_le_mul (by omega) (by omega) hk (by omega)
    have e : 7919 * k * k = 7919 * (k * k) := Int.mul_assoc ..
    rw [e]
    omega
  have fin : ∀ c : Int, ∃ a b : Int, 0 ≤ a ∧ 0 ≤ b ∧ b < 2147483647 ∧
      ((sSeq (sSet 3 (rCal absD (rCons (rVar 2) rNil)))
                      (sSeq
                        (sSet 4
                          (rBin modD
                            (rBin mulD
                              (rBin addD
                                (rBin addD
                                  (rBin addD (rBin modD (rVar 3) (rCon (D.int 2147483629)))
                                    (rBin mulD (rBin mulD (rCon (D.int 7919)) (rVar 1)) (rVar 1)))
                                  (rBin mulD (rCon (D.int 31)) (rVar 1)))
                                (rCon (D.int 17)))
                              (rCon (D.int 48271)))
                            (rCon (D.int 2147483647))))
                        (sRet
                          (rLstM
                            (rCons
                              (rBin mulD (rVar 3)
                                (rCal intD
                                  (rCons (rBin geD (rVar 3) (rBin powD (rCon (D.int 10)) (rCon (D.int 18)))) rNil)))
                              (rCons (rBin modD (rBin mulD (rVar 4) (rVar 4)) (rCon (D.int 2147483629)))
                                rNil)))))) [some (D.lst (List.map D.int ns)), some (D.int k), some (.int c), none, none] S).res = Res.ok (D.loc (List.length S)) (S ++ [MO.lst [D.int a, D.int b]]) := fun c => by
    generalize hg : (if c < 0 then -c else c) = z
    have hz : 0 ≤ z := by rw [← hg]; split <;> omega
    have m5 : mulOk (z % 2147483629 + 7919 * k * k + 31 * k + 17) 48271 = true := mulOk_of (by omega) (by omega)
    generalize hy : (z % 2147483629 + 7919 * k * k + 31 * k + 17) * 48271 % 2147483647 = y
    have hy0 : 0 ≤ y := by omega
    have hy1 : y < 2147483647 := by omega
    have m6 : mulOk y y = true := mulOk_of (by omega) (by omega)
    have m7 : ∀ b : Bool, mulOk z (if b = true then 1 else 0) = true := fun b => by cases b <;> simp [mulOk]
    have p1 : powOk 10 18 = true := by decide
    have m8 := m7 (decide (10 ^ 18 ≤ z))
    simp at m8
    refine ⟨if 1000000000000000000 ≤ z then z else 0, y * y % 2147483629, ?_, by omega, by omega, ?_⟩
    · split <;> omega
    · simp [hg, m2, m3, m4, m5, hy, m6, p1, m8]
      split <;> simp
  unfold g_law_pool runDef m_law_pool
  by_cases hlt : k < ns.length
  · obtain ⟨a, b, h1, h2, h3, h4⟩ := fin (ns.getD k.toNat 0)
    refine ⟨a, b, h1, h2, h3, ?_⟩
    rw [← h4]
    simp [slD, sumD, cutD, HT.sIx, ← List.map_take, allI_map, m1, hlt, ixD, atI_map ns k hk hlt]
  · obtain ⟨a, b, h1, h2, h3, h4⟩ := fin (7 * (ns.take (min 63 ns.length)).sum + k)
    refine ⟨a, b, h1, h2, h3, ?_⟩
    rw [← h4]
    simp [slD, sumD, cutD, HT.sIx, ← List.map_take, allI_map, m1, hlt]
def cdv (h : Int) (s : Nat) : Int := -(-h / 2 ^ s)
noncomputable section
def pB1 : RS := (sPar [7, 8] (rCons (rCall g_law_made (rCons (rVar 6) (rCons (rVar 4) (rCons (rVar 5) rNil)))) (rCons (rCall g_law_made (rCons (rVar 6) (rCons (rVar 5) (rCons (rVar 4) rNil)))) rNil)))
def pB2 : RS := (sSet 9 (rLc frzL (rRan enumD (rCons (rCall g_law_kinds (rCons (rVar 7) rNil)) rNil)) (.tp [10, 11]) [10, 11] (rTruth (rVar 11)) (rVar 10)))
def pB3 : RS := (sIf (rOrT (rTest (rBin neD (rVar 9) (rLst (rCons (rVar 6) rNil)))) (rOrT (rTest (rBin neD (rCall g_law_kinds (rCons (rVar 8) rNil)) (rCall g_law_kinds (rCons (rVar 7) rNil)))) (rTest (rBin neD (rCall g_law_bases (rCons (rVar 7) rNil)) (rCall g_law_due_bases (rCons (rVar 6) rNil))))))
    (sRet (rCon (.bl false)))
    sNil)
def pB4 : RS := (sSet 12 (rCall g_law_values (rCons (rVar 6) (rCons (rVar 7) rNil))))
def pB5 : RS := (sIf (rTest (rBin neD (rCal reprE (rCons (rVar 12) rNil)) (rCal reprE (rCons (rSl (rLst (rCons (rVar 4) (rCons (rVar 5) rNil))) rNoP (rPart (rCal lenD (rCons (rVar 12) rNil)))) rNil))))
    (sRet (rCon (.bl false)))
    sNil)
def pB6 : RS := (sIf (rTest (rBin neD (rCal reprE (rCons (rCall g_law_values (rCons (rVar 6) (rCons (rVar 8) rNil))) rNil)) (rCal reprE (rCons (rSl (rLst (rCons (rVar 5) (rCons (rVar 4) rNil))) rNoP (rPart (rCal lenD (rCons (rVar 12) rNil)))) rNil))))
    (sRet (rCon (.bl false)))
    sNil)
theorem pB_is : lb1_law = (sSeq pB1 (sSeq pB2 (sSeq pB3 (sSeq pB4 (sSeq pB5 pB6))))) := rfl
end
def Turn (w : Int) (a b : D) : Prop := ∀ (x0 x1 x2 x3 y7 y8 y9 y10 y11 y12 : Option D) (S : Store), ∃ z7 z8 z9 z12, lb1_law [x0, x1, x2, x3, some a, some b, some (.int w), y7, y8, y9, y10, y11, y12] S = .nx [x0, x1, x2, x3, some a, some b, some (.int w), z7, z8, z9, y10, y11, z12] S
def Told (xs : List D) : Prop := ∃ s : Str, ∀ S : Store, reprE S [.lst xs] = some (.str s)
theorem cut1 (a b : D) : cutD [a, b] none (some 1) = [a] := by kernel_rfl
theorem cut2 (a b : D) : cutD [a, b] none (some 2) = [a, b] := by kernel_rfl
theorem seq_nx {f g : RS} {e e1 : Ev.Env} {S S1 : Store} (h : f e S = .nx e1 S1) : sSeq f g e S = g e1 S1 := by
  simp [h]
theorem turn_0 {a b : D} : Turn 0 a b := fun x0 x1 x2 x3 y7 y8 y9 y10 y11 y12 S => by
  refine ⟨some (.exn cl_NoFields [] []), some (.exn cl_NoFields [] []), some (.lst [.int 0]), some (.lst []), ?_⟩
  rw [pB_is, seq_nx (show pB1 [x0, x1, x2, x3, some a, some b, some (.int 0), y7, y8, y9, y10, y11, y12] S = .nx [x0, x1, x2, x3, some a, some b, some (.int 0), some (.exn cl_NoFields [] []), some (.exn cl_NoFields [] []), y9, y10, y11, y12] S by kernel_rfl), seq_nx (show pB2 [x0, x1, x2, x3, some a, some b, some (.int 0), some (.exn cl_NoFields [] []), some (.exn cl_NoFields [] []), y9, y10, y11, y12] S = .nx [x0, x1, x2, x3, some a, some b, some (.int 0), some (.exn cl_NoFields [] []), some (.exn cl_NoFields [] []), some (.lst [.int 0]), y10, y11, y12] S by kernel_rfl), seq_nx (show pB3 [x0, x1, x2, x3, some a, some b, some (.int 0), some (.exn cl_NoFields [] []), some (.exn cl_NoFields [] []), some (.lst [.int 0]), y10, y11, y12] S = .nx [x0, x1, x2, x3, some a, some b, some (.int 0), some (.exn cl_NoFields [] []), some (.exn cl_NoFields [] []), some (.lst [.int 0]), y10, y11, y12] S by kernel_rfl), seq_nx (show pB4 [x0, x1, x2, x3, some a, some b, some (.int 0), some (.exn cl_NoFields [] []), some (.exn cl_NoFields [] []), some (.lst [.int 0]), y10, y11, y12] S = .nx [x0, x1, x2, x3, some a, some b, some (.int 0), some (.exn cl_NoFields [] []), some (.exn cl_NoFields [] []), some (.lst [.int 0]), y10, y11, some (.lst [])] S by kernel_rfl)]
  kernel_rfl
theorem turn_1 {a b : D} : Turn 1 a b := fun x0 x1 x2 x3 y7 y8 y9 y10 y11 y12 S => by
  refine ⟨some (.exn cl_NoBounds [] []), some (.exn cl_NoBounds [] []), some (.lst [.int 1]), some (.lst []), ?_⟩
  rw [pB_is, seq_nx (show pB1 [x0, x1, x2, x3, some a, some b, some (.int 1), y7, y8, y9, y10, y11, y12] S = .nx [x0, x1, x2, x3, some a, some b, some (.int 1), some (.exn cl_NoBounds [] []), some (.exn cl_NoBounds [] []), y9, y10, y11, y12] S by kernel_rfl), seq_nx (show pB2 [x0, x1, x2, x3, some a, some b, some (.int 1), some (.exn cl_NoBounds [] []), some (.exn cl_NoBounds [] []), y9, y10, y11, y12] S = .nx [x0, x1, x2, x3, some a, some b, some (.int 1), some (.exn cl_NoBounds [] []), some (.exn cl_NoBounds [] []), some (.lst [.int 1]), y10, y11, y12] S by kernel_rfl), seq_nx (show pB3 [x0, x1, x2, x3, some a, some b, some (.int 1), some (.exn cl_NoBounds [] []), some (.exn cl_NoBounds [] []), some (.lst [.int 1]), y10, y11, y12] S = .nx [x0, x1, x2, x3, some a, some b, some (.int 1), some (.exn cl_NoBounds [] []), some (.exn cl_NoBounds [] []), some (.lst [.int 1]), y10, y11, y12] S by kernel_rfl), seq_nx (show pB4 [x0, x1, x2, x3, some a, some b, some (.int 1), some (.exn cl_NoBounds [] []), some (.exn cl_NoBounds [] []), some (.lst [.int 1]), y10, y11, y12] S = .nx [x0, x1, x2, x3, some a, some b, some (.int 1), some (.exn cl_NoBounds [] []), some (.exn cl_NoBounds [] []), some (.lst [.int 1]), y10, y11, some (.lst [])] S by kernel_rfl)]
  kernel_rfl
theorem turn_2 {a b : D} : Turn 2 a b := fun x0 x1 x2 x3 y7 y8 y9 y10 y11 y12 S => by
  refine ⟨some (.exn cl_NoOffset [] []), some (.exn cl_NoOffset [] []), some (.lst [.int 2]), some (.lst []), ?_⟩
  rw [pB_is, seq_nx (show pB1 [x0, x1, x2, x3, some a, some b, some (.int 2), y7, y8, y9, y10, y11, y12] S = .nx [x0, x1, x2, x3, some a, some b, some (.int 2), some (.exn cl_NoOffset [] []), some (.exn cl_NoOffset [] []), y9, y10, y11, y12] S by kernel_rfl), seq_nx (show pB2 [x0, x1, x2, x3, some a, some b, some (.int 2), some (.exn cl_NoOffset [] []), some (.exn cl_NoOffset [] []), y9, y10, y11, y12] S = .nx [x0, x1, x2, x3, some a, some b, some (.int 2), some (.exn cl_NoOffset [] []), some (.exn cl_NoOffset [] []), some (.lst [.int 2]), y10, y11, y12] S by kernel_rfl), seq_nx (show pB3 [x0, x1, x2, x3, some a, some b, some (.int 2), some (.exn cl_NoOffset [] []), some (.exn cl_NoOffset [] []), some (.lst [.int 2]), y10, y11, y12] S = .nx [x0, x1, x2, x3, some a, some b, some (.int 2), some (.exn cl_NoOffset [] []), some (.exn cl_NoOffset [] []), some (.lst [.int 2]), y10, y11, y12] S by kernel_rfl), seq_nx (show pB4 [x0, x1, x2, x3, some a, some b, some (.int 2), some (.exn cl_NoOffset [] []), some (.exn cl_NoOffset [] []), some (.lst [.int 2]), y10, y11, y12] S = .nx [x0, x1, x2, x3, some a, some b, some (.int 2), some (.exn cl_NoOffset [] []), some (.exn cl_NoOffset [] []), some (.lst [.int 2]), y10, y11, some (.lst [])] S by kernel_rfl)]
  kernel_rfl
theorem turn_3 {a b : D} : Turn 3 a b := fun x0 x1 x2 x3 y7 y8 y9 y10 y11 y12 S => by
  refine ⟨some (.exn cl_NoAddress [] []), some (.exn cl_NoAddress [] []), some (.lst [.int 3]), some (.lst []), ?_⟩
  rw [pB_is, seq_nx (show pB1 [x0, x1, x2, x3, some a, some b, some (.int 3), y7, y8, y9, y10, y11, y12] S = .nx [x0, x1, x2, x3, some a, some b, some (.int 3), some (.exn cl_NoAddress [] []), some (.exn cl_NoAddress [] []), y9, y10, y11, y12] S by kernel_rfl), seq_nx (show pB2 [x0, x1, x2, x3, some a, some b, some (.int 3), some (.exn cl_NoAddress [] []), some (.exn cl_NoAddress [] []), y9, y10, y11, y12] S = .nx [x0, x1, x2, x3, some a, some b, some (.int 3), some (.exn cl_NoAddress [] []), some (.exn cl_NoAddress [] []), some (.lst [.int 3]), y10, y11, y12] S by kernel_rfl), seq_nx (show pB3 [x0, x1, x2, x3, some a, some b, some (.int 3), some (.exn cl_NoAddress [] []), some (.exn cl_NoAddress [] []), some (.lst [.int 3]), y10, y11, y12] S = .nx [x0, x1, x2, x3, some a, some b, some (.int 3), some (.exn cl_NoAddress [] []), some (.exn cl_NoAddress [] []), some (.lst [.int 3]), y10, y11, y12] S by kernel_rfl), seq_nx (show pB4 [x0, x1, x2, x3, some a, some b, some (.int 3), some (.exn cl_NoAddress [] []), some (.exn cl_NoAddress [] []), some (.lst [.int 3]), y10, y11, y12] S = .nx [x0, x1, x2, x3, some a, some b, some (.int 3), some (.exn cl_NoAddress [] []), some (.exn cl_NoAddress [] []), some (.lst [.int 3]), y10, y11, some (.lst [])] S by kernel_rfl)]
  kernel_rfl
theorem turn_4 {a b : D} : Turn 4 a b := fun x0 x1 x2 x3 y7 y8 y9 y10 y11 y12 S => by
  refine ⟨some (.exn cl_NoWord [] []), some (.exn cl_NoWord [] []), some (.lst [.int 4]), some (.lst []), ?_⟩
  rw [pB_is, seq_nx (show pB1 [x0, x1, x2, x3, some a, some b, some (.int 4), y7, y8, y9, y10, y11, y12] S = .nx [x0, x1, x2, x3, some a, some b, some (.int 4), some (.exn cl_NoWord [] []), some (.exn cl_NoWord [] []), y9, y10, y11, y12] S by kernel_rfl), seq_nx (show pB2 [x0, x1, x2, x3, some a, some b, some (.int 4), some (.exn cl_NoWord [] []), some (.exn cl_NoWord [] []), y9, y10, y11, y12] S = .nx [x0, x1, x2, x3, some a, some b, some (.int 4), some (.exn cl_NoWord [] []), some (.exn cl_NoWord [] []), some (.lst [.int 4]), y10, y11, y12] S by kernel_rfl), seq_nx (show pB3 [x0, x1, x2, x3, some a, some b, some (.int 4), some (.exn cl_NoWord [] []), some (.exn cl_NoWord [] []), some (.lst [.int 4]), y10, y11, y12] S = .nx [x0, x1, x2, x3, some a, some b, some (.int 4), some (.exn cl_NoWord [] []), some (.exn cl_NoWord [] []), some (.lst [.int 4]), y10, y11, y12] S by kernel_rfl), seq_nx (show pB4 [x0, x1, x2, x3, some a, some b, some (.int 4), some (.exn cl_NoWord [] []), some (.exn cl_NoWord [] []), some (.lst [.int 4]), y10, y11, y12] S = .nx [x0, x1, x2, x3, some a, some b, some (.int 4), some (.exn cl_NoWord [] []), some (.exn cl_NoWord [] []), some (.lst [.int 4]), y10, y11, some (.lst [])] S by kernel_rfl)]
  kernel_rfl
theorem turn_5 {a b : D} : Turn 5 a b := fun x0 x1 x2 x3 y7 y8 y9 y10 y11 y12 S => by
  refine ⟨some (.exn cl_NoHands [] []), some (.exn cl_NoHands [] []), some (.lst [.int 5]), some (.lst []), ?_⟩
  rw [pB_is, seq_nx (show pB1 [x0, x1, x2, x3, some a, some b, some (.int 5), y7, y8, y9, y10, y11, y12] S = .nx [x0, x1, x2, x3, some a, some b, some (.int 5), some (.exn cl_NoHands [] []), some (.exn cl_NoHands [] []), y9, y10, y11, y12] S by kernel_rfl), seq_nx (show pB2 [x0, x1, x2, x3, some a, some b, some (.int 5), some (.exn cl_NoHands [] []), some (.exn cl_NoHands [] []), y9, y10, y11, y12] S = .nx [x0, x1, x2, x3, some a, some b, some (.int 5), some (.exn cl_NoHands [] []), some (.exn cl_NoHands [] []), some (.lst [.int 5]), y10, y11, y12] S by kernel_rfl), seq_nx (show pB3 [x0, x1, x2, x3, some a, some b, some (.int 5), some (.exn cl_NoHands [] []), some (.exn cl_NoHands [] []), some (.lst [.int 5]), y10, y11, y12] S = .nx [x0, x1, x2, x3, some a, some b, some (.int 5), some (.exn cl_NoHands [] []), some (.exn cl_NoHands [] []), some (.lst [.int 5]), y10, y11, y12] S by kernel_rfl), seq_nx (show pB4 [x0, x1, x2, x3, some a, some b, some (.int 5), some (.exn cl_NoHands [] []), some (.exn cl_NoHands [] []), some (.lst [.int 5]), y10, y11, y12] S = .nx [x0, x1, x2, x3, some a, some b, some (.int 5), some (.exn cl_NoHands [] []), some (.exn cl_NoHands [] []), some (.lst [.int 5]), y10, y11, some (.lst [])] S by kernel_rfl)]
  kernel_rfl
theorem turn_6 {a b : D} : Turn 6 a b := fun x0 x1 x2 x3 y7 y8 y9 y10 y11 y12 S => by
  refine ⟨some (.exn cl_NoRule [] []), some (.exn cl_NoRule [] []), some (.lst [.int 6]), some (.lst []), ?_⟩
  rw [pB_is, seq_nx (show pB1 [x0, x1, x2, x3, some a, some b, some (.int 6), y7, y8, y9, y10, y11, y12] S = .nx [x0, x1, x2, x3, some a, some b, some (.int 6), some (.exn cl_NoRule [] []), some (.exn cl_NoRule [] []), y9, y10, y11, y12] S by kernel_rfl), seq_nx (show pB2 [x0, x1, x2, x3, some a, some b, some (.int 6), some (.exn cl_NoRule [] []), some (.exn cl_NoRule [] []), y9, y10, y11, y12] S = .nx [x0, x1, x2, x3, some a, some b, some (.int 6), some (.exn cl_NoRule [] []), some (.exn cl_NoRule [] []), some (.lst [.int 6]), y10, y11, y12] S by kernel_rfl), seq_nx (show pB3 [x0, x1, x2, x3, some a, some b, some (.int 6), some (.exn cl_NoRule [] []), some (.exn cl_NoRule [] []), some (.lst [.int 6]), y10, y11, y12] S = .nx [x0, x1, x2, x3, some a, some b, some (.int 6), some (.exn cl_NoRule [] []), some (.exn cl_NoRule [] []), some (.lst [.int 6]), y10, y11, y12] S by kernel_rfl), seq_nx (show pB4 [x0, x1, x2, x3, some a, some b, some (.int 6), some (.exn cl_NoRule [] []), some (.exn cl_NoRule [] []), some (.lst [.int 6]), y10, y11, y12] S = .nx [x0, x1, x2, x3, some a, some b, some (.int 6), some (.exn cl_NoRule [] []), some (.exn cl_NoRule [] []), some (.lst [.int 6]), y10, y11, some (.lst [])] S by kernel_rfl)]
  kernel_rfl
theorem turn_7 {a b : D} : Turn 7 a b := fun x0 x1 x2 x3 y7 y8 y9 y10 y11 y12 S => by
  refine ⟨some (.exn cl_NoNumber [] []), some (.exn cl_NoNumber [] []), some (.lst [.int 7]), some (.lst []), ?_⟩
  rw [pB_is, seq_nx (show pB1 [x0, x1, x2, x3, some a, some b, some (.int 7), y7, y8, y9, y10, y11, y12] S = .nx [x0, x1, x2, x3, some a, some b, some (.int 7), some (.exn cl_NoNumber [] []), some (.exn cl_NoNumber [] []), y9, y10, y11, y12] S by kernel_rfl), seq_nx (show pB2 [x0, x1, x2, x3, some a, some b, some (.int 7), some (.exn cl_NoNumber [] []), some (.exn cl_NoNumber [] []), y9, y10, y11, y12] S = .nx [x0, x1, x2, x3, some a, some b, some (.int 7), some (.exn cl_NoNumber [] []), some (.exn cl_NoNumber [] []), some (.lst [.int 7]), y10, y11, y12] S by kernel_rfl), seq_nx (show pB3 [x0, x1, x2, x3, some a, some b, some (.int 7), some (.exn cl_NoNumber [] []), some (.exn cl_NoNumber [] []), some (.lst [.int 7]), y10, y11, y12] S = .nx [x0, x1, x2, x3, some a, some b, some (.int 7), some (.exn cl_NoNumber [] []), some (.exn cl_NoNumber [] []), some (.lst [.int 7]), y10, y11, y12] S by kernel_rfl), seq_nx (show pB4 [x0, x1, x2, x3, some a, some b, some (.int 7), some (.exn cl_NoNumber [] []), some (.exn cl_NoNumber [] []), some (.lst [.int 7]), y10, y11, y12] S = .nx [x0, x1, x2, x3, some a, some b, some (.int 7), some (.exn cl_NoNumber [] []), some (.exn cl_NoNumber [] []), some (.lst [.int 7]), y10, y11, some (.lst [])] S by kernel_rfl)]
  kernel_rfl
theorem turn_8 {a b : D} : Turn 8 a b := fun x0 x1 x2 x3 y7 y8 y9 y10 y11 y12 S => by
  refine ⟨some (.exn cl_NoLine [] []), some (.exn cl_NoLine [] []), some (.lst [.int 8]), some (.lst []), ?_⟩
  rw [pB_is, seq_nx (show pB1 [x0, x1, x2, x3, some a, some b, some (.int 8), y7, y8, y9, y10, y11, y12] S = .nx [x0, x1, x2, x3, some a, some b, some (.int 8), some (.exn cl_NoLine [] []), some (.exn cl_NoLine [] []), y9, y10, y11, y12] S by kernel_rfl), seq_nx (show pB2 [x0, x1, x2, x3, some a, some b, some (.int 8), some (.exn cl_NoLine [] []), some (.exn cl_NoLine [] []), y9, y10, y11, y12] S = .nx [x0, x1, x2, x3, some a, some b, some (.int 8), some (.exn cl_NoLine [] []), some (.exn cl_NoLine [] []), some (.lst [.int 8]), y10, y11, y12] S by kernel_rfl), seq_nx (show pB3 [x0, x1, x2, x3, some a, some b, some (.int 8), some (.exn cl_NoLine [] []), some (.exn cl_NoLine [] []), some (.lst [.int 8]), y10, y11, y12] S = .nx [x0, x1, x2, x3, some a, some b, some (.int 8), some (.exn cl_NoLine [] []), some (.exn cl_NoLine [] []), some (.lst [.int 8]), y10, y11, y12] S by kernel_rfl), seq_nx (show pB4 [x0, x1, x2, x3, some a, some b, some (.int 8), some (.exn cl_NoLine [] []), some (.exn cl_NoLine [] []), some (.lst [.int 8]), y10, y11, y12] S = .nx [x0, x1, x2, x3, some a, some b, some (.int 8), some (.exn cl_NoLine [] []), some (.exn cl_NoLine [] []), some (.lst [.int 8]), y10, y11, some (.lst [])] S by kernel_rfl)]
  kernel_rfl
theorem turn_9 {a b : D} : Turn 9 a b := fun x0 x1 x2 x3 y7 y8 y9 y10 y11 y12 S => by
  refine ⟨some (.exn cl_Sweeping [] []), some (.exn cl_Sweeping [] []), some (.lst [.int 9]), some (.lst []), ?_⟩
  rw [pB_is, seq_nx (show pB1 [x0, x1, x2, x3, some a, some b, some (.int 9), y7, y8, y9, y10, y11, y12] S = .nx [x0, x1, x2, x3, some a, some b, some (.int 9), some (.exn cl_Sweeping [] []), some (.exn cl_Sweeping [] []), y9, y10, y11, y12] S by kernel_rfl), seq_nx (show pB2 [x0, x1, x2, x3, some a, some b, some (.int 9), some (.exn cl_Sweeping [] []), some (.exn cl_Sweeping [] []), y9, y10, y11, y12] S = .nx [x0, x1, x2, x3, some a, some b, some (.int 9), some (.exn cl_Sweeping [] []), some (.exn cl_Sweeping [] []), some (.lst [.int 9]), y10, y11, y12] S by kernel_rfl), seq_nx (show pB3 [x0, x1, x2, x3, some a, some b, some (.int 9), some (.exn cl_Sweeping [] []), some (.exn cl_Sweeping [] []), some (.lst [.int 9]), y10, y11, y12] S = .nx [x0, x1, x2, x3, some a, some b, some (.int 9), some (.exn cl_Sweeping [] []), some (.exn cl_Sweeping [] []), some (.lst [.int 9]), y10, y11, y12] S by kernel_rfl), seq_nx (show pB4 [x0, x1, x2, x3, some a, some b, some (.int 9), some (.exn cl_Sweeping [] []), some (.exn cl_Sweeping [] []), some (.lst [.int 9]), y10, y11, y12] S = .nx [x0, x1, x2, x3, some a, some b, some (.int 9), some (.exn cl_Sweeping [] []), some (.exn cl_Sweeping [] []), some (.lst [.int 9]), y10, y11, some (.lst [])] S by kernel_rfl)]
  kernel_rfl
theorem turn_10 {a b : D} : Turn 10 a b := fun x0 x1 x2 x3 y7 y8 y9 y10 y11 y12 S => by
  refine ⟨some (.exn cl_NoSweep [] []), some (.exn cl_NoSweep [] []), some (.lst [.int 10]), some (.lst []), ?_⟩
  rw [pB_is, seq_nx (show pB1 [x0, x1, x2, x3, some a, some b, some (.int 10), y7, y8, y9, y10, y11, y12] S = .nx [x0, x1, x2, x3, some a, some b, some (.int 10), some (.exn cl_NoSweep [] []), some (.exn cl_NoSweep [] []), y9, y10, y11, y12] S by kernel_rfl), seq_nx (show pB2 [x0, x1, x2, x3, some a, some b, some (.int 10), some (.exn cl_NoSweep [] []), some (.exn cl_NoSweep [] []), y9, y10, y11, y12] S = .nx [x0, x1, x2, x3, some a, some b, some (.int 10), some (.exn cl_NoSweep [] []), some (.exn cl_NoSweep [] []), some (.lst [.int 10]), y10, y11, y12] S by kernel_rfl), seq_nx (show pB3 [x0, x1, x2, x3, some a, some b, some (.int 10), some (.exn cl_NoSweep [] []), some (.exn cl_NoSweep [] []), some (.lst [.int 10]), y10, y11, y12] S = .nx [x0, x1, x2, x3, some a, some b, some (.int 10), some (.exn cl_NoSweep [] []), some (.exn cl_NoSweep [] []), some (.lst [.int 10]), y10, y11, y12] S by kernel_rfl), seq_nx (show pB4 [x0, x1, x2, x3, some a, some b, some (.int 10), some (.exn cl_NoSweep [] []), some (.exn cl_NoSweep [] []), some (.lst [.int 10]), y10, y11, y12] S = .nx [x0, x1, x2, x3, some a, some b, some (.int 10), some (.exn cl_NoSweep [] []), some (.exn cl_NoSweep [] []), some (.lst [.int 10]), y10, y11, some (.lst [])] S by kernel_rfl)]
  kernel_rfl
theorem turn_11 {a b : D} (h1 : Told [a]) (h2 : Told [b]) : Turn 11 a b := fun x0 x1 x2 x3 y7 y8 y9 y10 y11 y12 S => by
  obtain ⟨s1, h1⟩ := h1
  obtain ⟨s2, h2⟩ := h2
  refine ⟨some (.exn cl_Fault ["word"] [a]), some (.exn cl_Fault ["word"] [b]), some (.lst [.int 11]), some (.lst [a]), ?_⟩
  rw [pB_is, seq_nx (show pB1 [x0, x1, x2, x3, some a, some b, some (.int 11), y7, y8, y9, y10, y11, y12] S = .nx [x0, x1, x2, x3, some a, some b, some (.int 11), some (.exn cl_Fault ["word"] [a]), some (.exn cl_Fault ["word"] [b]), y9, y10, y11, y12] S by kernel_rfl), seq_nx (show pB2 [x0, x1, x2, x3, some a, some b, some (.int 11), some (.exn cl_Fault ["word"] [a]), some (.exn cl_Fault ["word"] [b]), y9, y10, y11, y12] S = .nx [x0, x1, x2, x3, some a, some b, some (.int 11), some (.exn cl_Fault ["word"] [a]), some (.exn cl_Fault ["word"] [b]), some (.lst [.int 11]), y10, y11, y12] S by kernel_rfl), seq_nx (show pB3 [x0, x1, x2, x3, some a, some b, some (.int 11), some (.exn cl_Fault ["word"] [a]), some (.exn cl_Fault ["word"] [b]), some (.lst [.int 11]), y10, y11, y12] S = .nx [x0, x1, x2, x3, some a, some b, some (.int 11), some (.exn cl_Fault ["word"] [a]), some (.exn cl_Fault ["word"] [b]), some (.lst [.int 11]), y10, y11, y12] S by kernel_rfl), seq_nx (show pB4 [x0, x1, x2, x3, some a, some b, some (.int 11), some (.exn cl_Fault ["word"] [a]), some (.exn cl_Fault ["word"] [b]), some (.lst [.int 11]), y10, y11, y12] S = .nx [x0, x1, x2, x3, some a, some b, some (.int 11), some (.exn cl_Fault ["word"] [a]), some (.exn cl_Fault ["word"] [b]), some (.lst [.int 11]), y10, y11, some (.lst [a])] S by kernel_rfl)]
  have v2 : g_law_values [.int 11, (.exn cl_Fault ["word"] [b])] S = .ok (.lst [b]) S := by kernel_rfl
  unfold pB5 pB6
  simp [h1, h2, v2, slD, cut1, cut2]
theorem turn_12 {a b : D} (h1 : Told [a]) (h2 : Told [b]) : Turn 12 a b := fun x0 x1 x2 x3 y7 y8 y9 y10 y11 y12 S => by
  obtain ⟨s1, h1⟩ := h1
  obtain ⟨s2, h2⟩ := h2
  refine ⟨some (.exn cl_NoRows ["number"] [a]), some (.exn cl_NoRows ["number"] [b]), some (.lst [.int 12]), some (.lst [a]), ?_⟩
  rw [pB_is, seq_nx (show pB1 [x0, x1, x2, x3, some a, some b, some (.int 12), y7, y8, y9, y10, y11, y12] S = .nx [x0, x1, x2, x3, some a, some b, some (.int 12), some (.exn cl_NoRows ["number"] [a]), some (.exn cl_NoRows ["number"] [b]), y9, y10, y11, y12] S by kernel_rfl), seq_nx (show pB2 [x0, x1, x2, x3, some a, some b, some (.int 12), some (.exn cl_NoRows ["number"] [a]), some (.exn cl_NoRows ["number"] [b]), y9, y10, y11, y12] S = .nx [x0, x1, x2, x3, some a, some b, some (.int 12), some (.exn cl_NoRows ["number"] [a]), some (.exn cl_NoRows ["number"] [b]), some (.lst [.int 12]), y10, y11, y12] S by kernel_rfl), seq_nx (show pB3 [x0, x1, x2, x3, some a, some b, some (.int 12), some (.exn cl_NoRows ["number"] [a]), some (.exn cl_NoRows ["number"] [b]), some (.lst [.int 12]), y10, y11, y12] S = .nx [x0, x1, x2, x3, some a, some b, some (.int 12), some (.exn cl_NoRows ["number"] [a]), some (.exn cl_NoRows ["number"] [b]), some (.lst [.int 12]), y10, y11, y12] S by kernel_rfl), seq_nx (show pB4 [x0, x1, x2, x3, some a, some b, some (.int 12), some (.exn cl_NoRows ["number"] [a]), some (.exn cl_NoRows ["number"] [b]), some (.lst [.int 12]), y10, y11, y12] S = .nx [x0, x1, x2, x3, some a, some b, some (.int 12), some (.exn cl_NoRows ["number"] [a]), some (.exn cl_NoRows ["number"] [b]), some (.lst [.int 12]), y10, y11, some (.lst [a])] S by kernel_rfl)]
  have v2 : g_law_values [.int 12, (.exn cl_NoRows ["number"] [b])] S = .ok (.lst [b]) S := by kernel_rfl
  unfold pB5 pB6
  simp [h1, h2, v2, slD, cut1, cut2]
theorem turn_13 {a b : D} (h1 : Told [a]) (h2 : Told [b]) : Turn 13 a b := fun x0 x1 x2 x3 y7 y8 y9 y10 y11 y12 S => by
  obtain ⟨s1, h1⟩ := h1
  obtain ⟨s2, h2⟩ := h2
  refine ⟨some (.exn cl_NoText ["number"] [a]), some (.exn cl_NoText ["number"] [b]), some (.lst [.int 13]), some (.lst [a]), ?_⟩
  rw [pB_is, seq_nx (show pB1 [x0, x1, x2, x3, some a, some b, some (.int 13), y7, y8, y9, y10, y11, y12] S = .nx [x0, x1, x2, x3, some a, some b, some (.int 13), some (.exn cl_NoText ["number"] [a]), some (.exn cl_NoText ["number"] [b]), y9, y10, y11, y12] S by kernel_rfl), seq_nx (show pB2 [x0, x1, x2, x3, some a, some b, some (.int 13), some (.exn cl_NoText ["number"] [a]), some (.exn cl_NoText ["number"] [b]), y9, y10, y11, y12] S = .nx [x0, x1, x2, x3, some a, some b, some (.int 13), some (.exn cl_NoText ["number"] [a]), some (.exn cl_NoText ["number"] [b]), some (.lst [.int 13]), y10, y11, y12] S by kernel_rfl), seq_nx (show pB3 [x0, x1, x2, x3, some a, some b, some (.int 13), some (.exn cl_NoText ["number"] [a]), some (.exn cl_NoText ["number"] [b]), some (.lst [.int 13]), y10, y11, y12] S = .nx [x0, x1, x2, x3, some a, some b, some (.int 13), some (.exn cl_NoText ["number"] [a]), some (.exn cl_NoText ["number"] [b]), some (.lst [.int 13]), y10, y11, y12] S by kernel_rfl), seq_nx (show pB4 [x0, x1, x2, x3, some a, some b, some (.int 13), some (.exn cl_NoText ["number"] [a]), some (.exn cl_NoText ["number"] [b]), some (.lst [.int 13]), y10, y11, y12] S = .nx [x0, x1, x2, x3, some a, some b, some (.int 13), some (.exn cl_NoText ["number"] [a]), some (.exn cl_NoText ["number"] [b]), some (.lst [.int 13]), y10, y11, some (.lst [a])] S by kernel_rfl)]
  have v2 : g_law_values [.int 13, (.exn cl_NoText ["number"] [b])] S = .ok (.lst [b]) S := by kernel_rfl
  unfold pB5 pB6
  simp [h1, h2, v2, slD, cut1, cut2]
theorem turn_14 {a b : D} (h1 : Told [a]) (h2 : Told [b]) : Turn 14 a b := fun x0 x1 x2 x3 y7 y8 y9 y10 y11 y12 S => by
  obtain ⟨s1, h1⟩ := h1
  obtain ⟨s2, h2⟩ := h2
  refine ⟨some (.exn cl_NoDeeds ["number"] [a]), some (.exn cl_NoDeeds ["number"] [b]), some (.lst [.int 14]), some (.lst [a]), ?_⟩
  rw [pB_is, seq_nx (show pB1 [x0, x1, x2, x3, some a, some b, some (.int 14), y7, y8, y9, y10, y11, y12] S = .nx [x0, x1, x2, x3, some a, some b, some (.int 14), some (.exn cl_NoDeeds ["number"] [a]), some (.exn cl_NoDeeds ["number"] [b]), y9, y10, y11, y12] S by kernel_rfl), seq_nx (show pB2 [x0, x1, x2, x3, some a, some b, some (.int 14), some (.exn cl_NoDeeds ["number"] [a]), some (.exn cl_NoDeeds ["number"] [b]), y9, y10, y11, y12] S = .nx [x0, x1, x2, x3, some a, some b, some (.int 14), some (.exn cl_NoDeeds ["number"] [a]), some (.exn cl_NoDeeds ["number"] [b]), some (.lst [.int 14]), y10, y11, y12] S by kernel_rfl), seq_nx (show pB3 [x0, x1, x2, x3, some a, some b, some (.int 14), some (.exn cl_NoDeeds ["number"] [a]), some (.exn cl_NoDeeds ["number"] [b]), some (.lst [.int 14]), y10, y11, y12] S = .nx [x0, x1, x2, x3, some a, some b, some (.int 14), some (.exn cl_NoDeeds ["number"] [a]), some (.exn cl_NoDeeds ["number"] [b]), some (.lst [.int 14]), y10, y11, y12] S by kernel_rfl), seq_nx (show pB4 [x0, x1, x2, x3, some a, some b, some (.int 14), some (.exn cl_NoDeeds ["number"] [a]), some (.exn cl_NoDeeds ["number"] [b]), some (.lst [.int 14]), y10, y11, y12] S = .nx [x0, x1, x2, x3, some a, some b, some (.int 14), some (.exn cl_NoDeeds ["number"] [a]), some (.exn cl_NoDeeds ["number"] [b]), some (.lst [.int 14]), y10, y11, some (.lst [a])] S by kernel_rfl)]
  have v2 : g_law_values [.int 14, (.exn cl_NoDeeds ["number"] [b])] S = .ok (.lst [b]) S := by kernel_rfl
  unfold pB5 pB6
  simp [h1, h2, v2, slD, cut1, cut2]
theorem turn_15 {a b : D} (h1 : Told [a]) (h2 : Told [b]) : Turn 15 a b := fun x0 x1 x2 x3 y7 y8 y9 y10 y11 y12 S => by
  obtain ⟨s1, h1⟩ := h1
  obtain ⟨s2, h2⟩ := h2
  refine ⟨some (.exn cl_NoName ["name"] [a]), some (.exn cl_NoName ["name"] [b]), some (.lst [.int 15]), some (.lst [a]), ?_⟩
  rw [pB_is, seq_nx (show pB1 [x0, x1, x2, x3, some a, some b, some (.int 15), y7, y8, y9, y10, y11, y12] S = .nx [x0, x1, x2, x3, some a, some b, some (.int 15), some (.exn cl_NoName ["name"] [a]), some (.exn cl_NoName ["name"] [b]), y9, y10, y11, y12] S by kernel_rfl), seq_nx (show pB2 [x0, x1, x2, x3, some a, some b, some (.int 15), some (.exn cl_NoName ["name"] [a]), some (.exn cl_NoName ["name"] [b]), y9, y10, y11, y12] S = .nx [x0, x1, x2, x3, some a, some b, some (.int 15), some (.exn cl_NoName ["name"] [a]), some (.exn cl_NoName ["name"] [b]), some (.lst [.int 15]), y10, y11, y12] S by kernel_rfl), seq_nx (show pB3 [x0, x1, x2, x3, some a, some b, some (.int 15), some (.exn cl_NoName ["name"] [a]), some (.exn cl_NoName ["name"] [b]), some (.lst [.int 15]), y10, y11, y12] S = .nx [x0, x1, x2, x3, some a, some b, some (.int 15), some (.exn cl_NoName ["name"] [a]), some (.exn cl_NoName ["name"] [b]), some (.lst [.int 15]), y10, y11, y12] S by kernel_rfl), seq_nx (show pB4 [x0, x1, x2, x3, some a, some b, some (.int 15), some (.exn cl_NoName ["name"] [a]), some (.exn cl_NoName ["name"] [b]), some (.lst [.int 15]), y10, y11, y12] S = .nx [x0, x1, x2, x3, some a, some b, some (.int 15), some (.exn cl_NoName ["name"] [a]), some (.exn cl_NoName ["name"] [b]), some (.lst [.int 15]), y10, y11, some (.lst [a])] S by kernel_rfl)]
  have v2 : g_law_values [.int 15, (.exn cl_NoName ["name"] [b])] S = .ok (.lst [b]) S := by kernel_rfl
  unfold pB5 pB6
  simp [h1, h2, v2, slD, cut1, cut2]
theorem turn_16 {a b : D} (h1 : Told [a]) (h2 : Told [b]) : Turn 16 a b := fun x0 x1 x2 x3 y7 y8 y9 y10 y11 y12 S => by
  obtain ⟨s1, h1⟩ := h1
  obtain ⟨s2, h2⟩ := h2
  refine ⟨some (.exn cl_TooMany ["size"] [a]), some (.exn cl_TooMany ["size"] [b]), some (.lst [.int 16]), some (.lst [a]), ?_⟩
  rw [pB_is, seq_nx (show pB1 [x0, x1, x2, x3, some a, some b, some (.int 16), y7, y8, y9, y10, y11, y12] S = .nx [x0, x1, x2, x3, some a, some b, some (.int 16), some (.exn cl_TooMany ["size"] [a]), some (.exn cl_TooMany ["size"] [b]), y9, y10, y11, y12] S by kernel_rfl), seq_nx (show pB2 [x0, x1, x2, x3, some a, some b, some (.int 16), some (.exn cl_TooMany ["size"] [a]), some (.exn cl_TooMany ["size"] [b]), y9, y10, y11, y12] S = .nx [x0, x1, x2, x3, some a, some b, some (.int 16), some (.exn cl_TooMany ["size"] [a]), some (.exn cl_TooMany ["size"] [b]), some (.lst [.int 16]), y10, y11, y12] S by kernel_rfl), seq_nx (show pB3 [x0, x1, x2, x3, some a, some b, some (.int 16), some (.exn cl_TooMany ["size"] [a]), some (.exn cl_TooMany ["size"] [b]), some (.lst [.int 16]), y10, y11, y12] S = .nx [x0, x1, x2, x3, some a, some b, some (.int 16), some (.exn cl_TooMany ["size"] [a]), some (.exn cl_TooMany ["size"] [b]), some (.lst [.int 16]), y10, y11, y12] S by kernel_rfl), seq_nx (show pB4 [x0, x1, x2, x3, some a, some b, some (.int 16), some (.exn cl_TooMany ["size"] [a]), some (.exn cl_TooMany ["size"] [b]), some (.lst [.int 16]), y10, y11, y12] S = .nx [x0, x1, x2, x3, some a, some b, some (.int 16), some (.exn cl_TooMany ["size"] [a]), some (.exn cl_TooMany ["size"] [b]), some (.lst [.int 16]), y10, y11, some (.lst [a])] S by kernel_rfl)]
  have v2 : g_law_values [.int 16, (.exn cl_TooMany ["size"] [b])] S = .ok (.lst [b]) S := by kernel_rfl
  unfold pB5 pB6
  simp [h1, h2, v2, slD, cut1, cut2]
theorem turn_17 {a b : D} (h1 : Told [a, b]) (h2 : Told [b, a]) : Turn 17 a b := fun x0 x1 x2 x3 y7 y8 y9 y10 y11 y12 S => by
  obtain ⟨s1, h1⟩ := h1
  obtain ⟨s2, h2⟩ := h2
  refine ⟨some (.exn cl_NoCompartment ["part", "number"] [b, a]), some (.exn cl_NoCompartment ["part", "number"] [a, b]), some (.lst [.int 17]), some (.lst [a, b]), ?_⟩
  rw [pB_is, seq_nx (show pB1 [x0, x1, x2, x3, some a, some b, some (.int 17), y7, y8, y9, y10, y11, y12] S = .nx [x0, x1, x2, x3, some a, some b, some (.int 17), some (.exn cl_NoCompartment ["part", "number"] [b, a]), some (.exn cl_NoCompartment ["part", "number"] [a, b]), y9, y10, y11, y12] S by kernel_rfl), seq_nx (show pB2 [x0, x1, x2, x3, some a, some b, some (.int 17), some (.exn cl_NoCompartment ["part", "number"] [b, a]), some (.exn cl_NoCompartment ["part", "number"] [a, b]), y9, y10, y11, y12] S = .nx [x0, x1, x2, x3, some a, some b, some (.int 17), some (.exn cl_NoCompartment ["part", "number"] [b, a]), some (.exn cl_NoCompartment ["part", "number"] [a, b]), some (.lst [.int 17]), y10, y11, y12] S by kernel_rfl), seq_nx (show pB3 [x0, x1, x2, x3, some a, some b, some (.int 17), some (.exn cl_NoCompartment ["part", "number"] [b, a]), some (.exn cl_NoCompartment ["part", "number"] [a, b]), some (.lst [.int 17]), y10, y11, y12] S = .nx [x0, x1, x2, x3, some a, some b, some (.int 17), some (.exn cl_NoCompartment ["part", "number"] [b, a]), some (.exn cl_NoCompartment ["part", "number"] [a, b]), some (.lst [.int 17]), y10, y11, y12] S by kernel_rfl), seq_nx (show pB4 [x0, x1, x2, x3, some a, some b, some (.int 17), some (.exn cl_NoCompartment ["part", "number"] [b, a]), some (.exn cl_NoCompartment ["part", "number"] [a, b]), some (.lst [.int 17]), y10, y11, y12] S = .nx [x0, x1, x2, x3, some a, some b, some (.int 17), some (.exn cl_NoCompartment ["part", "number"] [b, a]), some (.exn cl_NoCompartment ["part", "number"] [a, b]), some (.lst [.int 17]), y10, y11, some (.lst [a, b])] S by kernel_rfl)]
  have v2 : g_law_values [.int 17, (.exn cl_NoCompartment ["part", "number"] [a, b])] S = .ok (.lst [b, a]) S := by kernel_rfl
  unfold pB5 pB6
  simp [h1, h2, v2, slD, cut1, cut2]
def some11 : List D := [.non, .int 7, .str "calls", .bl true, .lst [.int 1], .tup [.int 2, .str "x"], .dct [] [], .int 0, .int (-1), .str "", .int 100000000000000000000000000000]
def txtOf (xs : List D) : Str := match reprE [] [.lst xs] with | some (.str s) => s | _ => Str.empty
theorem toldOf (xs : List D) (h : ∀ S, reprE S [.lst xs] = some (.str (txtOf xs))) : Told xs := ⟨_, h⟩
theorem told1 : ∀ a ∈ some11, Told [a] := by
  intro a h
  simp only [some11, List.mem_cons, List.not_mem_nil, or_false] at h
  rcases h with rfl | rfl | rfl | rfl | rfl | rfl | rfl | rfl | rfl | rfl | rfl <;> exact toldOf _ fun S => by kernel_rfl
theorem told2 : ∀ a ∈ some11, ∀ b ∈ some11, Told [a, b] := by
  intro a h b h2
  simp only [some11, List.mem_cons, List.not_mem_nil, or_false] at h h2
  rcases h with rfl | rfl | rfl | rfl | rfl | rfl | rfl | rfl | rfl | rfl | rfl <;> rcases h2 with rfl | rfl | rfl | rfl | rfl | rfl | rfl | rfl | rfl | rfl | rfl <;> exact toldOf _ fun S => by kernel_rfl
theorem turn_any {a b : D} (ha : a ∈ some11) (hb : b ∈ some11) : ∀ i : Nat, i < 18 → Turn i a b
  | 0, _ => turn_0
  | 1, _ => turn_1
  | 2, _ => turn_2
  | 3, _ => turn_3
  | 4, _ => turn_4
  | 5, _ => turn_5
  | 6, _ => turn_6
  | 7, _ => turn_7
  | 8, _ => turn_8
  | 9, _ => turn_9
  | 10, _ => turn_10
  | 11, _ => turn_11 (told1 a ha) (told1 b hb)
  | 12, _ => turn_12 (told1 a ha) (told1 b hb)
  | 13, _ => turn_13 (told1 a ha) (told1 b hb)
  | 14, _ => turn_14 (told1 a ha) (told1 b hb)
  | 15, _ => turn_15 (told1 a ha) (told1 b hb)
  | 16, _ => turn_16 (told1 a ha) (told1 b hb)
  | 17, _ => turn_17 (told2 a ha b hb) (told2 b hb a ha)
  | n + 18, h => absurd h (by omega)
theorem cell_ok {ns : List Int} {k : Nat} {x2 x3 x4 x5 x6 x7 x8 x9 x10 x11 x12 : Option D} {S : Store} (hk : k < 1000) :
    ∃ S' y2 y3 y4 y5 y6 y7 y8 y9 y10 y11 y12, lb2_law [some (.lst (ns.map D.int)), some (.int k), x2, x3, x4, x5, x6, x7, x8, x9, x10, x11, x12] S = .nx [some (.lst (ns.map D.int)), some (.int k), y2, y3, y4, y5, y6, y7, y8, y9, y10, y11, y12] S' := by
  obtain ⟨a, b, ha, hb, hb2, hp⟩ := pool_ok ns k S (by omega) (by omega)
  have p0 : PoolAt (S ++ [.lst [.int a, .int b]]) S.length := ⟨a, b, by simp, ha, hb, hb2⟩
  obtain ⟨r1, S1, t1, b1, c1, p1, _⟩ := take_ok 11 p0 (by omega) (by omega)
  obtain ⟨r2, S2, t2, b2, c2, p2, _⟩ := take_ok 11 p1 (by omega) (by omega)
  obtain ⟨d1, g1, m1⟩ := atI_mem (xs := some11) b1 (by simpa [some11] using c1)
  obtain ⟨d2, g2, m2⟩ := atI_mem (xs := some11) b2 (by simpa [some11] using c2)
  obtain ⟨e', S', h1, rfl, y6, y7, y8, y9, y10, y11, y12, rfl⟩ := forL_inv (t := .nm 6) (body := lb1_law) (fun e S' => S' = S2 ∧ ∃ y6 y7 y8 y9 y10 y11 y12, e = [some (.lst (ns.map D.int)), some (.int k), some (.loc S.length), some (.lst some11), some d1, some d2, y6, y7, y8, y9, y10, y11, y12]) (rangeD 0 18)
    (e := [some (.lst (ns.map D.int)), some (.int k), some (.loc S.length), some (.lst some11), some d1, some d2, x6, x7, x8, x9, x10, x11, x12]) (S := S2)
    (fun d hd e S' ⟨hS, y6, y7, y8, y9, y10, y11, y12, he⟩ => by
      obtain ⟨i, hi, rfl⟩ := mem_rangeD hd
      subst he hS
      rw [Int.zero_add]
      obtain ⟨z7, z8, z9, z12, ht⟩ := turn_any m1 m2 i hi (some (.lst (ns.map D.int))) (some (.int k)) (some (.loc S.length)) (some (.lst some11)) y7 y8 y9 y10 y11 y12 S'
      exact ⟨_, rfl, _, _, ht, rfl, _, _, _, _, _, _, _, rfl⟩) ⟨rfl, _, _, _, _, _, _, _, rfl⟩
  refine ⟨S', some (.loc S.length), some (.lst some11), some d1, some d2, y6, y7, y8, y9, y10, y11, y12, ?_⟩
  have hr : ran1 [D.int 18] = some (rangeD 0 18) := by kernel_rfl
  have hw : powOk 10 29 = true := by decide
  unfold some11 at h1 g1 g2 ⊢
  unfold lb2_law
  simp [hp, t1, t2, ixD, g1, g2, hr, hw, h1]
theorem law_true (ns : List Int) (hl : ns.length ≤ 63) : ∃ S, g_law [.lst (ns.map D.int)] [] = .ok (.bl true) S := by
  obtain ⟨m, hm, hr⟩ := ran_cells ns.length 10 (by omega) (by omega)
  obtain ⟨e', S', h1, y1, y2, y3, y4, y5, y6, y7, y8, y9, y10, y11, y12, rfl⟩ := forL_inv (t := .nm 1) (body := lb2_law) (fun e S' => ∃ y1 y2 y3 y4 y5 y6 y7 y8 y9 y10 y11 y12, e = [some (.lst (ns.map D.int)), y1, y2, y3, y4, y5, y6, y7, y8, y9, y10, y11, y12]) (rangeD 0 m) (e := [some (.lst (ns.map D.int)), none, none, none, none, none, none, none, none, none, none, none, none]) (S := [])
    (fun d hd e S' ⟨y1, y2, y3, y4, y5, y6, y7, y8, y9, y10, y11, y12, he⟩ => by
      obtain ⟨i, hi, rfl⟩ := mem_rangeD hd
      subst he
      rw [Int.zero_add]
      obtain ⟨S3, z2, z3, z4, z5, z6, z7, z8, z9, z10, z11, z12, h2⟩ := cell_ok (ns := ns) (k := i) (x2 := y2) (x3 := y3) (x4 := y4) (x5 := y5) (x6 := y6) (x7 := y7) (x8 := y8) (x9 := y9) (x10 := y10) (x11 := y11) (x12 := y12) (S := S') (by omega)
      exact ⟨_, rfl, _, S3, h2, _, _, _, _, _, _, _, _, _, _, _, _, rfl⟩) ⟨_, _, _, _, _, _, _, _, _, _, _, _, rfl⟩
  refine ⟨S', ?_⟩
  unfold g_law runDef m_law
  simp at hr
  simp [hr, h1]
end Lw
open PySem PySem.W PyProof.Rows
set_option maxHeartbeats 0 in
theorem PySem.Challenge.cw_sealedreach_k05_refusals_apart_holds : PySem.Challenge.rw_sealedreach_k05_refusals_apart.Holds := by
  w_on; o_law; k_head; (case hw => w_witness2)
  k_fill
  refine Ev.walk_evG (l := PySem.Challenge.rw_sealedreach_k05_refusals_apart) (n := 63) (k := 4) (x := "_law_script") (g := Lw.g_law) rfl (by decide) rfl ⟨rfl, by decide, by decide⟩ (fun w h Y => PySem.W.kIn_of Y) ?F Lw.law_true
  case F =>
    intro w mg fa h KX G hmg
    refine' Lw.all_mk KX G hmg ?a0 ?l0 ?o0 ?p0 ?a1 ?l1 ?o1 ?p1 ?a2 ?l2 ?o2 ?p2 ?a3 ?l3 ?o3 ?p3 ?a4 ?l4 ?o4 ?p4 ?a5 ?l5 ?o5 ?p5 ?a6 ?l6 ?o6 ?p6 ?a7 ?l7 ?o7 ?p7 ?z_IndexError ?z_KeyError ?z_LookupError ?z_OverflowError ?z_RuntimeError ?z_ValueError ?z_abs ?z_enumerate ?z_int ?z_isinstance ?z_len ?z_max ?z_min ?z_range ?z_repr ?z_sum ?g_ReachError ?E1_ReachError ?E2_ReachError ?E3_ReachError ?E4_ReachError ?E5_ReachError ?E8_ReachError ?g_NoFields ?E1_NoFields ?E2_NoFields ?E3_NoFields ?E4_NoFields ?E5_NoFields ?E8_NoFields ?g_NoBounds ?E1_NoBounds ?E2_NoBounds ?E3_NoBounds ?E4_NoBounds ?E5_NoBounds ?E8_NoBounds ?g_NoOffset ?E1_NoOffset ?E2_NoOffset ?E3_NoOffset ?E4_NoOffset ?E5_NoOffset ?E8_NoOffset ?g_NoAddress ?E1_NoAddress ?E2_NoAddress ?E3_NoAddress ?E4_NoAddress ?E5_NoAddress ?E8_NoAddress ?g_NoWord ?E1_NoWord ?E2_NoWord ?E3_NoWord ?E4_NoWord ?E5_NoWord ?E8_NoWord ?g_NoHands ?E1_NoHands ?E2_NoHands ?E3_NoHands ?E4_NoHands ?E5_NoHands ?E8_NoHands ?g_NoRule ?E1_NoRule ?E2_NoRule ?E3_NoRule ?E4_NoRule ?E5_NoRule ?E8_NoRule ?g_NoNumber ?E1_NoNumber ?E2_NoNumber ?E3_NoNumber ?E4_NoNumber ?E5_NoNumber ?E8_NoNumber ?g_NoLine ?E1_NoLine ?E2_NoLine ?E3_NoLine ?E4_NoLine ?E5_NoLine ?E8_NoLine ?g_Fault ?E1_Fault ?E2_Fault ?E3_Fault ?E4_Fault ?E5_Fault ?E8_Fault ?g_NoRows ?E1_NoRows ?E2_NoRows ?E3_NoRows ?E4_NoRows ?E5_NoRows ?E8_NoRows ?g_NoText ?E1_NoText ?E2_NoText ?E3_NoText ?E4_NoText ?E5_NoText ?E8_NoText ?g_NoDeeds ?E1_NoDeeds ?E2_NoDeeds ?E3_NoDeeds ?E4_NoDeeds ?E5_NoDeeds ?E8_NoDeeds ?g_NoCompartment ?E1_NoCompartment ?E2_NoCompartment ?E3_NoCompartment ?E4_NoCompartment ?E5_NoCompartment ?E8_NoCompartment ?g_TooMany ?E1_TooMany ?E2_TooMany ?E3_TooMany ?E4_TooMany ?E5_TooMany ?E8_TooMany ?g_NoName ?E1_NoName ?E2_NoName ?E3_NoName ?E4_NoName ?E5_NoName ?E8_NoName ?g_Sweeping ?E1_Sweeping ?E2_Sweeping ?E3_Sweeping ?E4_Sweeping ?E5_Sweeping ?E8_Sweeping ?g_NoSweep ?E1_NoSweep ?E2_NoSweep ?E3_NoSweep ?E4_NoSweep ?E5_NoSweep ?E8_NoSweep ?E6 ?E7 ?vB_KeyError ?vB_OverflowError ?sp_ReachError ?rd_ReachError ?vl_ReachError ?xL_Fault ?sa_Fault ?iC_Fault ?tI_Fault ?li_Fault ?oi_Fault ?pi_Fault ?p_Fault ?u_Fault ?y_Fault ?xL_NoRows ?sa_NoRows ?iC_NoRows ?tI_NoRows ?li_NoRows ?oi_NoRows ?pi_NoRows ?p_NoRows ?u_NoRows ?y_NoRows ?xL_NoText ?sa_NoText ?iC_NoText ?tI_NoText ?li_NoText ?oi_NoText ?pi_NoText ?p_NoText ?u_NoText ?y_NoText ?xL_NoDeeds ?sa_NoDeeds ?iC_NoDeeds ?tI_NoDeeds ?li_NoDeeds ?oi_NoDeeds ?pi_NoDeeds ?p_NoDeeds ?u_NoDeeds ?y_NoDeeds ?xL_NoCompartment ?sa_NoCompartment ?iC_NoCompartment ?tI_NoCompartment ?li_NoCompartment ?oi_NoCompartment ?pi_NoCompartment ?p_NoCompartment ?u_NoCompartment ?y_NoCompartment ?xL_TooMany ?sa_TooMany ?iC_TooMany ?tI_TooMany ?li_TooMany ?oi_TooMany ?pi_TooMany ?p_TooMany ?u_TooMany ?y_TooMany ?xL_NoName ?sa_NoName ?iC_NoName ?tI_NoName ?li_NoName ?oi_NoName ?pi_NoName ?p_NoName ?u_NoName ?y_NoName ?no_Fault_word ?no_NoCompartment_number ?no_NoCompartment_part ?no_NoDeeds_number ?no_NoName_name ?no_NoRows_number ?no_NoText_number ?no_TooMany_size ?x_NoAddress ?p_NoAddress ?u_NoAddress ?y_NoAddress ?x_NoBounds ?p_NoBounds ?u_NoBounds ?y_NoBounds ?x_NoFields ?p_NoFields ?u_NoFields ?y_NoFields ?x_NoHands ?p_NoHands ?u_NoHands ?y_NoHands ?x_NoLine ?p_NoLine ?u_NoLine ?y_NoLine ?x_NoNumber ?p_NoNumber ?u_NoNumber ?y_NoNumber ?x_NoOffset ?p_NoOffset ?u_NoOffset ?y_NoOffset ?x_NoRule ?p_NoRule ?u_NoRule ?y_NoRule ?x_NoSweep ?p_NoSweep ?u_NoSweep ?y_NoSweep ?x_NoWord ?p_NoWord ?u_NoWord ?y_NoWord ?x_Sweeping ?p_Sweeping ?u_Sweeping ?y_Sweeping ?q_Fault_Fault ?q_Fault_IndexError ?q_Fault_KeyError ?q_Fault_LookupError ?q_Fault_NoAddress ?q_Fault_NoBounds ?q_Fault_NoCompartment ?q_Fault_NoDeeds ?q_Fault_NoFields ?q_Fault_NoHands ?q_Fault_NoLine ?q_Fault_NoName ?q_Fault_NoNumber ?q_Fault_NoOffset ?q_Fault_NoRows ?q_Fault_NoRule ?q_Fault_NoSweep ?q_Fault_NoText ?q_Fault_NoWord ?q_Fault_OverflowError ?q_Fault_ReachError ?q_Fault_RuntimeError ?q_Fault_Sweeping ?q_Fault_TooMany ?q_Fault_ValueError ?q_NoAddress_Fault ?q_NoAddress_IndexError ?q_NoAddress_KeyError ?q_NoAddress_LookupError ?q_NoAddress_NoAddress ?q_NoAddress_NoBounds ?q_NoAddress_NoCompartment ?q_NoAddress_NoDeeds ?q_NoAddress_NoFields ?q_NoAddress_NoHands ?q_NoAddress_NoLine ?q_NoAddress_NoName ?q_NoAddress_NoNumber ?q_NoAddress_NoOffset ?q_NoAddress_NoRows ?q_NoAddress_NoRule ?q_NoAddress_NoSweep ?q_NoAddress_NoText ?q_NoAddress_NoWord ?q_NoAddress_OverflowError ?q_NoAddress_ReachError ?q_NoAddress_RuntimeError ?q_NoAddress_Sweeping ?q_NoAddress_TooMany ?q_NoAddress_ValueError ?q_NoBounds_Fault ?q_NoBounds_IndexError ?q_NoBounds_KeyError ?q_NoBounds_LookupError ?q_NoBounds_NoAddress ?q_NoBounds_NoBounds ?q_NoBounds_NoCompartment ?q_NoBounds_NoDeeds ?q_NoBounds_NoFields ?q_NoBounds_NoHands ?q_NoBounds_NoLine ?q_NoBounds_NoName ?q_NoBounds_NoNumber ?q_NoBounds_NoOffset ?q_NoBounds_NoRows ?q_NoBounds_NoRule ?q_NoBounds_NoSweep ?q_NoBounds_NoText ?q_NoBounds_NoWord ?q_NoBounds_OverflowError ?q_NoBounds_ReachError ?q_NoBounds_RuntimeError ?q_NoBounds_Sweeping ?q_NoBounds_TooMany ?q_NoBounds_ValueError ?q_NoCompartment_Fault ?q_NoCompartment_IndexError ?q_NoCompartment_KeyError ?q_NoCompartment_LookupError ?q_NoCompartment_NoAddress ?q_NoCompartment_NoBounds ?q_NoCompartment_NoCompartment ?q_NoCompartment_NoDeeds ?q_NoCompartment_NoFields ?q_NoCompartment_NoHands ?q_NoCompartment_NoLine ?q_NoCompartment_NoName ?q_NoCompartment_NoNumber ?q_NoCompartment_NoOffset ?q_NoCompartment_NoRows ?q_NoCompartment_NoRule ?q_NoCompartment_NoSweep ?q_NoCompartment_NoText ?q_NoCompartment_NoWord ?q_NoCompartment_OverflowError ?q_NoCompartment_ReachError ?q_NoCompartment_RuntimeError ?q_NoCompartment_Sweeping ?q_NoCompartment_TooMany ?q_NoCompartment_ValueError ?q_NoDeeds_Fault ?q_NoDeeds_IndexError ?q_NoDeeds_KeyError ?q_NoDeeds_LookupError ?q_NoDeeds_NoAddress ?q_NoDeeds_NoBounds ?q_NoDeeds_NoCompartment ?q_NoDeeds_NoDeeds ?q_NoDeeds_NoFields ?q_NoDeeds_NoHands ?q_NoDeeds_NoLine ?q_NoDeeds_NoName ?q_NoDeeds_NoNumber ?q_NoDeeds_NoOffset ?q_NoDeeds_NoRows ?q_NoDeeds_NoRule ?q_NoDeeds_NoSweep ?q_NoDeeds_NoText ?q_NoDeeds_NoWord ?q_NoDeeds_OverflowError ?q_NoDeeds_ReachError ?q_NoDeeds_RuntimeError ?q_NoDeeds_Sweeping ?q_NoDeeds_TooMany ?q_NoDeeds_ValueError ?q_NoFields_Fault ?q_NoFields_IndexError ?q_NoFields_KeyError ?q_NoFields_LookupError ?q_NoFields_NoAddress ?q_NoFields_NoBounds ?q_NoFields_NoCompartment ?q_NoFields_NoDeeds ?q_NoFields_NoFields ?q_NoFields_NoHands ?q_NoFields_NoLine ?q_NoFields_NoName ?q_NoFields_NoNumber ?q_NoFields_NoOffset ?q_NoFields_NoRows ?q_NoFields_NoRule ?q_NoFields_NoSweep ?q_NoFields_NoText ?q_NoFields_NoWord ?q_NoFields_OverflowError ?q_NoFields_ReachError ?q_NoFields_RuntimeError ?q_NoFields_Sweeping ?q_NoFields_TooMany ?q_NoFields_ValueError ?q_NoHands_Fault ?q_NoHands_IndexError ?q_NoHands_KeyError ?q_NoHands_LookupError ?q_NoHands_NoAddress ?q_NoHands_NoBounds ?q_NoHands_NoCompartment ?q_NoHands_NoDeeds ?q_NoHands_NoFields ?q_NoHands_NoHands ?q_NoHands_NoLine ?q_NoHands_NoName ?q_NoHands_NoNumber ?q_NoHands_NoOffset ?q_NoHands_NoRows ?q_NoHands_NoRule ?q_NoHands_NoSweep ?q_NoHands_NoText ?q_NoHands_NoWord ?q_NoHands_OverflowError ?q_NoHands_ReachError ?q_NoHands_RuntimeError ?q_NoHands_Sweeping ?q_NoHands_TooMany ?q_NoHands_ValueError ?q_NoLine_Fault ?q_NoLine_IndexError ?q_NoLine_KeyError ?q_NoLine_LookupError ?q_NoLine_NoAddress ?q_NoLine_NoBounds ?q_NoLine_NoCompartment ?q_NoLine_NoDeeds ?q_NoLine_NoFields ?q_NoLine_NoHands ?q_NoLine_NoLine ?q_NoLine_NoName ?q_NoLine_NoNumber ?q_NoLine_NoOffset ?q_NoLine_NoRows ?q_NoLine_NoRule ?q_NoLine_NoSweep ?q_NoLine_NoText ?q_NoLine_NoWord ?q_NoLine_OverflowError ?q_NoLine_ReachError ?q_NoLine_RuntimeError ?q_NoLine_Sweeping ?q_NoLine_TooMany ?q_NoLine_ValueError ?q_NoName_Fault ?q_NoName_IndexError ?q_NoName_KeyError ?q_NoName_LookupError ?q_NoName_NoAddress ?q_NoName_NoBounds ?q_NoName_NoCompartment ?q_NoName_NoDeeds ?q_NoName_NoFields ?q_NoName_NoHands ?q_NoName_NoLine ?q_NoName_NoName ?q_NoName_NoNumber ?q_NoName_NoOffset ?q_NoName_NoRows ?q_NoName_NoRule ?q_NoName_NoSweep ?q_NoName_NoText ?q_NoName_NoWord ?q_NoName_OverflowError ?q_NoName_ReachError ?q_NoName_RuntimeError ?q_NoName_Sweeping ?q_NoName_TooMany ?q_NoName_ValueError ?q_NoNumber_Fault ?q_NoNumber_IndexError ?q_NoNumber_KeyError ?q_NoNumber_LookupError ?q_NoNumber_NoAddress ?q_NoNumber_NoBounds ?q_NoNumber_NoCompartment ?q_NoNumber_NoDeeds ?q_NoNumber_NoFields ?q_NoNumber_NoHands ?q_NoNumber_NoLine ?q_NoNumber_NoName ?q_NoNumber_NoNumber ?q_NoNumber_NoOffset ?q_NoNumber_NoRows ?q_NoNumber_NoRule ?q_NoNumber_NoSweep ?q_NoNumber_NoText ?q_NoNumber_NoWord ?q_NoNumber_OverflowError ?q_NoNumber_ReachError ?q_NoNumber_RuntimeError ?q_NoNumber_Sweeping ?q_NoNumber_TooMany ?q_NoNumber_ValueError ?q_NoOffset_Fault ?q_NoOffset_IndexError ?q_NoOffset_KeyError ?q_NoOffset_LookupError ?q_NoOffset_NoAddress ?q_NoOffset_NoBounds ?q_NoOffset_NoCompartment ?q_NoOffset_NoDeeds ?q_NoOffset_NoFields ?q_NoOffset_NoHands ?q_NoOffset_NoLine ?q_NoOffset_NoName ?q_NoOffset_NoNumber ?q_NoOffset_NoOffset ?q_NoOffset_NoRows ?q_NoOffset_NoRule ?q_NoOffset_NoSweep ?q_NoOffset_NoText ?q_NoOffset_NoWord ?q_NoOffset_OverflowError ?q_NoOffset_ReachError ?q_NoOffset_RuntimeError ?q_NoOffset_Sweeping ?q_NoOffset_TooMany ?q_NoOffset_ValueError ?q_NoRows_Fault ?q_NoRows_IndexError ?q_NoRows_KeyError ?q_NoRows_LookupError ?q_NoRows_NoAddress ?q_NoRows_NoBounds ?q_NoRows_NoCompartment ?q_NoRows_NoDeeds ?q_NoRows_NoFields ?q_NoRows_NoHands ?q_NoRows_NoLine ?q_NoRows_NoName ?q_NoRows_NoNumber ?q_NoRows_NoOffset ?q_NoRows_NoRows ?q_NoRows_NoRule ?q_NoRows_NoSweep ?q_NoRows_NoText ?q_NoRows_NoWord ?q_NoRows_OverflowError ?q_NoRows_ReachError ?q_NoRows_RuntimeError ?q_NoRows_Sweeping ?q_NoRows_TooMany ?q_NoRows_ValueError ?q_NoRule_Fault ?q_NoRule_IndexError ?q_NoRule_KeyError ?q_NoRule_LookupError ?q_NoRule_NoAddress ?q_NoRule_NoBounds ?q_NoRule_NoCompartment ?q_NoRule_NoDeeds ?q_NoRule_NoFields ?q_NoRule_NoHands ?q_NoRule_NoLine ?q_NoRule_NoName ?q_NoRule_NoNumber ?q_NoRule_NoOffset ?q_NoRule_NoRows ?q_NoRule_NoRule ?q_NoRule_NoSweep ?q_NoRule_NoText ?q_NoRule_NoWord ?q_NoRule_OverflowError ?q_NoRule_ReachError ?q_NoRule_RuntimeError ?q_NoRule_Sweeping ?q_NoRule_TooMany ?q_NoRule_ValueError ?q_NoSweep_Fault ?q_NoSweep_IndexError ?q_NoSweep_KeyError ?q_NoSweep_LookupError ?q_NoSweep_NoAddress ?q_NoSweep_NoBounds ?q_NoSweep_NoCompartment ?q_NoSweep_NoDeeds ?q_NoSweep_NoFields ?q_NoSweep_NoHands ?q_NoSweep_NoLine ?q_NoSweep_NoName ?q_NoSweep_NoNumber ?q_NoSweep_NoOffset ?q_NoSweep_NoRows ?q_NoSweep_NoRule ?q_NoSweep_NoSweep ?q_NoSweep_NoText ?q_NoSweep_NoWord ?q_NoSweep_OverflowError ?q_NoSweep_ReachError ?q_NoSweep_RuntimeError ?q_NoSweep_Sweeping ?q_NoSweep_TooMany ?q_NoSweep_ValueError ?q_NoText_Fault ?q_NoText_IndexError ?q_NoText_KeyError ?q_NoText_LookupError ?q_NoText_NoAddress ?q_NoText_NoBounds ?q_NoText_NoCompartment ?q_NoText_NoDeeds ?q_NoText_NoFields ?q_NoText_NoHands ?q_NoText_NoLine ?q_NoText_NoName ?q_NoText_NoNumber ?q_NoText_NoOffset ?q_NoText_NoRows ?q_NoText_NoRule ?q_NoText_NoSweep ?q_NoText_NoText ?q_NoText_NoWord ?q_NoText_OverflowError ?q_NoText_ReachError ?q_NoText_RuntimeError ?q_NoText_Sweeping ?q_NoText_TooMany ?q_NoText_ValueError ?q_NoWord_Fault ?q_NoWord_IndexError ?q_NoWord_KeyError ?q_NoWord_LookupError ?q_NoWord_NoAddress ?q_NoWord_NoBounds ?q_NoWord_NoCompartment ?q_NoWord_NoDeeds ?q_NoWord_NoFields ?q_NoWord_NoHands ?q_NoWord_NoLine ?q_NoWord_NoName ?q_NoWord_NoNumber ?q_NoWord_NoOffset ?q_NoWord_NoRows ?q_NoWord_NoRule ?q_NoWord_NoSweep ?q_NoWord_NoText ?q_NoWord_NoWord ?q_NoWord_OverflowError ?q_NoWord_ReachError ?q_NoWord_RuntimeError ?q_NoWord_Sweeping ?q_NoWord_TooMany ?q_NoWord_ValueError ?q_ReachError_Fault ?q_ReachError_IndexError ?q_ReachError_KeyError ?q_ReachError_LookupError ?q_ReachError_NoAddress ?q_ReachError_NoBounds ?q_ReachError_NoCompartment ?q_ReachError_NoDeeds ?q_ReachError_NoFields ?q_ReachError_NoHands ?q_ReachError_NoLine ?q_ReachError_NoName ?q_ReachError_NoNumber ?q_ReachError_NoOffset ?q_ReachError_NoRows ?q_ReachError_NoRule ?q_ReachError_NoSweep ?q_ReachError_NoText ?q_ReachError_NoWord ?q_ReachError_OverflowError ?q_ReachError_ReachError ?q_ReachError_RuntimeError ?q_ReachError_Sweeping ?q_ReachError_TooMany ?q_ReachError_ValueError ?q_Sweeping_Fault ?q_Sweeping_IndexError ?q_Sweeping_KeyError ?q_Sweeping_LookupError ?q_Sweeping_NoAddress ?q_Sweeping_NoBounds ?q_Sweeping_NoCompartment ?q_Sweeping_NoDeeds ?q_Sweeping_NoFields ?q_Sweeping_NoHands ?q_Sweeping_NoLine ?q_Sweeping_NoName ?q_Sweeping_NoNumber ?q_Sweeping_NoOffset ?q_Sweeping_NoRows ?q_Sweeping_NoRule ?q_Sweeping_NoSweep ?q_Sweeping_NoText ?q_Sweeping_NoWord ?q_Sweeping_OverflowError ?q_Sweeping_ReachError ?q_Sweeping_RuntimeError ?q_Sweeping_Sweeping ?q_Sweeping_TooMany ?q_Sweeping_ValueError ?q_TooMany_Fault ?q_TooMany_IndexError ?q_TooMany_KeyError ?q_TooMany_LookupError ?q_TooMany_NoAddress ?q_TooMany_NoBounds ?q_TooMany_NoCompartment ?q_TooMany_NoDeeds ?q_TooMany_NoFields ?q_TooMany_NoHands ?q_TooMany_NoLine ?q_TooMany_NoName ?q_TooMany_NoNumber ?q_TooMany_NoOffset ?q_TooMany_NoRows ?q_TooMany_NoRule ?q_TooMany_NoSweep ?q_TooMany_NoText ?q_TooMany_NoWord ?q_TooMany_OverflowError ?q_TooMany_ReachError ?q_TooMany_RuntimeError ?q_TooMany_Sweeping ?q_TooMany_TooMany ?q_TooMany_ValueError
    (case a0 => first | k_is | rfl); (case l0 => first | k_is | rfl); (case o0 => first | k_is | rfl); (case p0 => first | k_is | rfl); (case a1 => first | k_is | rfl); (case l1 => first | k_is | rfl)
    (case o1 => first | k_is | rfl); (case p1 => first | k_is | rfl); (case a2 => first | k_is | rfl); (case l2 => first | k_is | rfl); (case o2 => first | k_is | rfl); (case p2 => first | k_is | rfl)
    (case a3 => first | k_is | rfl); (case l3 => first | k_is | rfl); (case o3 => first | k_is | rfl); (case p3 => first | k_is | rfl); (case a4 => first | k_is | rfl); (case l4 => first | k_is | rfl)
    (case o4 => first | k_is | rfl); (case p4 => first | k_is | rfl); (case a5 => first | k_is | rfl); (case l5 => first | k_is | rfl); (case o5 => first | k_is | rfl); (case p5 => first | k_is | rfl)
    (case a6 => first | k_is | rfl); (case l6 => first | k_is | rfl); (case o6 => first | k_is | rfl); (case p6 => first | k_is | rfl); (case a7 => first | k_is | rfl); (case l7 => first | k_is | rfl)
    (case o7 => first | k_is | rfl); (case p7 => first | k_is | rfl); (case z_IndexError => first | k_is | rfl); (case z_KeyError => first | k_is | rfl); (case z_LookupError => first | k_is | rfl); (case z_OverflowError => first | k_is | rfl)
    (case z_RuntimeError => first | k_is | rfl); (case z_ValueError => first | k_is | rfl); (case z_abs => first | k_is | rfl); (case z_enumerate => first | k_is | rfl); (case z_int => first | k_is | rfl); (case z_isinstance => first | k_is | rfl)
    (case z_len => first | k_is | rfl); (case z_max => first | k_is | rfl); (case z_min => first | k_is | rfl); (case z_range => first | k_is | rfl); (case z_repr => first | k_is | rfl); (case z_sum => first | k_is | rfl)
    (case g_ReachError => first | k_is | rfl); (case E1_ReachError => first | k_is | rfl); (case E2_ReachError => first | k_is | rfl); (case E3_ReachError => first | k_is | rfl); (case E4_ReachError => first | k_is | rfl); (case E5_ReachError => first | k_is | rfl)
    (case E8_ReachError => first | k_is | rfl); (case g_NoFields => first | k_is | rfl); (case E1_NoFields => first | k_is | rfl); (case E2_NoFields => first | k_is | rfl); (case E3_NoFields => first | k_is | rfl); (case E4_NoFields => first | k_is | rfl)
    (case E5_NoFields => first | k_is | rfl); (case E8_NoFields => first | k_is | rfl); (case g_NoBounds => first | k_is | rfl); (case E1_NoBounds => first | k_is | rfl); (case E2_NoBounds => first | k_is | rfl); (case E3_NoBounds => first | k_is | rfl)
    (case E4_NoBounds => first | k_is | rfl); (case E5_NoBounds => first | k_is | rfl); (case E8_NoBounds => first | k_is | rfl); (case g_NoOffset => first | k_is | rfl); (case E1_NoOffset => first | k_is | rfl); (case E2_NoOffset => first | k_is | rfl)
    (case E3_NoOffset => first | k_is | rfl); (case E4_NoOffset => first | k_is | rfl); (case E5_NoOffset => first | k_is | rfl); (case E8_NoOffset => first | k_is | rfl); (case g_NoAddress => first | k_is | rfl); (case E1_NoAddress => first | k_is | rfl)
    (case E2_NoAddress => first | k_is | rfl); (case E3_NoAddress => first | k_is | rfl); (case E4_NoAddress => first | k_is | rfl); (case E5_NoAddress => first | k_is | rfl); (case E8_NoAddress => first | k_is | rfl); (case g_NoWord => first | k_is | rfl)
    (case E1_NoWord => first | k_is | rfl); (case E2_NoWord => first | k_is | rfl); (case E3_NoWord => first | k_is | rfl); (case E4_NoWord => first | k_is | rfl); (case E5_NoWord => first | k_is | rfl); (case E8_NoWord => first | k_is | rfl)
    (case g_NoHands => first | k_is | rfl); (case E1_NoHands => first | k_is | rfl); (case E2_NoHands => first | k_is | rfl); (case E3_NoHands => first | k_is | rfl); (case E4_NoHands => first | k_is | rfl); (case E5_NoHands => first | k_is | rfl)
    (case E8_NoHands => first | k_is | rfl); (case g_NoRule => first | k_is | rfl); (case E1_NoRule => first | k_is | rfl); (case E2_NoRule => first | k_is | rfl); (case E3_NoRule => first | k_is | rfl); (case E4_NoRule => first | k_is | rfl)
    (case E5_NoRule => first | k_is | rfl); (case E8_NoRule => first | k_is | rfl); (case g_NoNumber => first | k_is | rfl); (case E1_NoNumber => first | k_is | rfl); (case E2_NoNumber => first | k_is | rfl); (case E3_NoNumber => first | k_is | rfl)
    (case E4_NoNumber => first | k_is | rfl); (case E5_NoNumber => first | k_is | rfl); (case E8_NoNumber => first | k_is | rfl); (case g_NoLine => first | k_is | rfl); (case E1_NoLine => first | k_is | rfl); (case E2_NoLine => first | k_is | rfl)
    (case E3_NoLine => first | k_is | rfl); (case E4_NoLine => first | k_is | rfl); (case E5_NoLine => first | k_is | rfl); (case E8_NoLine => first | k_is | rfl); (case g_Fault => first | k_is | rfl); (case E1_Fault => first | k_is | rfl)
    (case E2_Fault => first | k_is | rfl); (case E3_Fault => first | k_is | rfl); (case E4_Fault => first | k_is | rfl); (case E5_Fault => first | k_is | rfl); (case E8_Fault => first | k_is | rfl); (case g_NoRows => first | k_is | rfl)
    (case E1_NoRows => first | k_is | rfl); (case E2_NoRows => first | k_is | rfl); (case E3_NoRows => first | k_is | rfl); (case E4_NoRows => first | k_is | rfl); (case E5_NoRows => first | k_is | rfl); (case E8_NoRows => first | k_is | rfl)
    (case g_NoText => first | k_is | rfl); (case E1_NoText => first | k_is | rfl); (case E2_NoText => first | k_is | rfl); (case E3_NoText => first | k_is | rfl); (case E4_NoText => first | k_is | rfl); (case E5_NoText => first | k_is | rfl)
    (case E8_NoText => first | k_is | rfl); (case g_NoDeeds => first | k_is | rfl); (case E1_NoDeeds => first | k_is | rfl); (case E2_NoDeeds => first | k_is | rfl); (case E3_NoDeeds => first | k_is | rfl); (case E4_NoDeeds => first | k_is | rfl)
    (case E5_NoDeeds => first | k_is | rfl); (case E8_NoDeeds => first | k_is | rfl); (case g_NoCompartment => first | k_is | rfl); (case E1_NoCompartment => first | k_is | rfl); (case E2_NoCompartment => first | k_is | rfl); (case E3_NoCompartment => first | k_is | rfl)
    (case E4_NoCompartment => first | k_is | rfl); (case E5_NoCompartment => first | k_is | rfl); (case E8_NoCompartment => first | k_is | rfl); (case g_TooMany => first | k_is | rfl); (case E1_TooMany => first | k_is | rfl); (case E2_TooMany => first | k_is | rfl)
    (case E3_TooMany => first | k_is | rfl); (case E4_TooMany => first | k_is | rfl); (case E5_TooMany => first | k_is | rfl); (case E8_TooMany => first | k_is | rfl); (case g_NoName => first | k_is | rfl); (case E1_NoName => first | k_is | rfl)
    (case E2_NoName => first | k_is | rfl); (case E3_NoName => first | k_is | rfl); (case E4_NoName => first | k_is | rfl); (case E5_NoName => first | k_is | rfl); (case E8_NoName => first | k_is | rfl); (case g_Sweeping => first | k_is | rfl)
    (case E1_Sweeping => first | k_is | rfl); (case E2_Sweeping => first | k_is | rfl); (case E3_Sweeping => first | k_is | rfl); (case E4_Sweeping => first | k_is | rfl); (case E5_Sweeping => first | k_is | rfl); (case E8_Sweeping => first | k_is | rfl)
    (case g_NoSweep => first | k_is | rfl); (case E1_NoSweep => first | k_is | rfl); (case E2_NoSweep => first | k_is | rfl); (case E3_NoSweep => first | k_is | rfl); (case E4_NoSweep => first | k_is | rfl); (case E5_NoSweep => first | k_is | rfl)
    (case E8_NoSweep => first | k_is | rfl); (case E6 => first | k_is | rfl); (case E7 => first | k_is | rfl); (case vB_KeyError => first | k_is | rfl); (case vB_OverflowError => first | k_is | rfl); (case sp_ReachError => first | k_is | rfl)
    (case rd_ReachError => first | k_is | rfl); (case vl_ReachError => first | k_is | rfl); (case xL_Fault => first | k_is | rfl); (case sa_Fault => first | k_is | rfl); (case iC_Fault => first | k_is | rfl); (case tI_Fault => first | k_is | rfl)
    (case li_Fault => first | k_is | rfl); (case oi_Fault => first | k_is | rfl); (case pi_Fault => first | k_is | rfl); (case p_Fault => first | k_is | rfl); (case u_Fault => first | k_is | rfl); (case y_Fault => first | k_is | rfl)
    (case xL_NoRows => first | k_is | rfl); (case sa_NoRows => first | k_is | rfl); (case iC_NoRows => first | k_is | rfl); (case tI_NoRows => first | k_is | rfl); (case li_NoRows => first | k_is | rfl); (case oi_NoRows => first | k_is | rfl)
    (case pi_NoRows => first | k_is | rfl); (case p_NoRows => first | k_is | rfl); (case u_NoRows => first | k_is | rfl); (case y_NoRows => first | k_is | rfl); (case xL_NoText => first | k_is | rfl); (case sa_NoText => first | k_is | rfl)
    (case iC_NoText => first | k_is | rfl); (case tI_NoText => first | k_is | rfl); (case li_NoText => first | k_is | rfl); (case oi_NoText => first | k_is | rfl); (case pi_NoText => first | k_is | rfl); (case p_NoText => first | k_is | rfl)
    (case u_NoText => first | k_is | rfl); (case y_NoText => first | k_is | rfl); (case xL_NoDeeds => first | k_is | rfl); (case sa_NoDeeds => first | k_is | rfl); (case iC_NoDeeds => first | k_is | rfl); (case tI_NoDeeds => first | k_is | rfl)
    (case li_NoDeeds => first | k_is | rfl); (case oi_NoDeeds => first | k_is | rfl); (case pi_NoDeeds => first | k_is | rfl); (case p_NoDeeds => first | k_is | rfl); (case u_NoDeeds => first | k_is | rfl); (case y_NoDeeds => first | k_is | rfl)
    (case xL_NoCompartment => first | k_is | rfl); (case sa_NoCompartment => first | k_is | rfl); (case iC_NoCompartment => first | k_is | rfl); (case tI_NoCompartment => first | k_is | rfl); (case li_NoCompartment => first | k_is | rfl); (case oi_NoCompartment => first | k_is | rfl)
    (case pi_NoCompartment => first | k_is | rfl); (case p_NoCompartment => first | k_is | rfl); (case u_NoCompartment => first | k_is | rfl); (case y_NoCompartment => first | k_is | rfl); (case xL_TooMany => first | k_is | rfl); (case sa_TooMany => first | k_is | rfl)
    (case iC_TooMany => first | k_is | rfl); (case tI_TooMany => first | k_is | rfl); (case li_TooMany => first | k_is | rfl); (case oi_TooMany => first | k_is | rfl); (case pi_TooMany => first | k_is | rfl); (case p_TooMany => first | k_is | rfl)
    (case u_TooMany => first | k_is | rfl); (case y_TooMany => first | k_is | rfl); (case xL_NoName => first | k_is | rfl); (case sa_NoName => first | k_is | rfl); (case iC_NoName => first | k_is | rfl); (case tI_NoName => first | k_is | rfl)
    (case li_NoName => first | k_is | rfl); (case oi_NoName => first | k_is | rfl); (case pi_NoName => first | k_is | rfl); (case p_NoName => first | k_is | rfl); (case u_NoName => first | k_is | rfl); (case y_NoName => first | k_is | rfl)
    (case no_Fault_word => first | k_is | rfl); (case no_NoCompartment_number => first | k_is | rfl); (case no_NoCompartment_part => first | k_is | rfl); (case no_NoDeeds_number => first | k_is | rfl); (case no_NoName_name => first | k_is | rfl); (case no_NoRows_number => first | k_is | rfl)
    (case no_NoText_number => first | k_is | rfl); (case no_TooMany_size => first | k_is | rfl); (case x_NoAddress => k_exc); (case p_NoAddress => first | k_is | rfl); (case u_NoAddress => first | k_is | rfl); (case y_NoAddress => first | k_is | rfl)
    (case x_NoBounds => k_exc); (case p_NoBounds => first | k_is | rfl); (case u_NoBounds => first | k_is | rfl); (case y_NoBounds => first | k_is | rfl); (case x_NoFields => k_exc); (case p_NoFields => first | k_is | rfl)
    (case u_NoFields => first | k_is | rfl); (case y_NoFields => first | k_is | rfl); (case x_NoHands => k_exc); (case p_NoHands => first | k_is | rfl); (case u_NoHands => first | k_is | rfl); (case y_NoHands => first | k_is | rfl)
    (case x_NoLine => k_exc); (case p_NoLine => first | k_is | rfl); (case u_NoLine => first | k_is | rfl); (case y_NoLine => first | k_is | rfl); (case x_NoNumber => k_exc); (case p_NoNumber => first | k_is | rfl)
    (case u_NoNumber => first | k_is | rfl); (case y_NoNumber => first | k_is | rfl); (case x_NoOffset => k_exc); (case p_NoOffset => first | k_is | rfl); (case u_NoOffset => first | k_is | rfl); (case y_NoOffset => first | k_is | rfl)
    (case x_NoRule => k_exc); (case p_NoRule => first | k_is | rfl); (case u_NoRule => first | k_is | rfl); (case y_NoRule => first | k_is | rfl); (case x_NoSweep => k_exc); (case p_NoSweep => first | k_is | rfl)
    (case u_NoSweep => first | k_is | rfl); (case y_NoSweep => first | k_is | rfl); (case x_NoWord => k_exc); (case p_NoWord => first | k_is | rfl); (case u_NoWord => first | k_is | rfl); (case y_NoWord => first | k_is | rfl)
    (case x_Sweeping => k_exc); (case p_Sweeping => first | k_is | rfl); (case u_Sweeping => first | k_is | rfl); (case y_Sweeping => first | k_is | rfl); (case q_Fault_Fault => first | k_is | rfl); (case q_Fault_IndexError => first | k_is | rfl)
    (case q_Fault_KeyError => first | k_is | rfl); (case q_Fault_LookupError => first | k_is | rfl); (case q_Fault_NoAddress => first | k_is | rfl); (case q_Fault_NoBounds => first | k_is | rfl); (case q_Fault_NoCompartment => first | k_is | rfl); (case q_Fault_NoDeeds => first | k_is | rfl)
    (case q_Fault_NoFields => first | k_is | rfl); (case q_Fault_NoHands => first | k_is | rfl); (case q_Fault_NoLine => first | k_is | rfl); (case q_Fault_NoName => first | k_is | rfl); (case q_Fault_NoNumber => first | k_is | rfl); (case q_Fault_NoOffset => first | k_is | rfl)
    (case q_Fault_NoRows => first | k_is | rfl); (case q_Fault_NoRule => first | k_is | rfl); (case q_Fault_NoSweep => first | k_is | rfl); (case q_Fault_NoText => first | k_is | rfl); (case q_Fault_NoWord => first | k_is | rfl); (case q_Fault_OverflowError => first | k_is | rfl)
    (case q_Fault_ReachError => first | k_is | rfl); (case q_Fault_RuntimeError => first | k_is | rfl); (case q_Fault_Sweeping => first | k_is | rfl); (case q_Fault_TooMany => first | k_is | rfl); (case q_Fault_ValueError => first | k_is | rfl); (case q_NoAddress_Fault => first | k_is | rfl)
    (case q_NoAddress_IndexError => first | k_is | rfl); (case q_NoAddress_KeyError => first | k_is | rfl); (case q_NoAddress_LookupError => first | k_is | rfl); (case q_NoAddress_NoAddress => first | k_is | rfl); (case q_NoAddress_NoBounds => first | k_is | rfl); (case q_NoAddress_NoCompartment => first | k_is | rfl)
    (case q_NoAddress_NoDeeds => first | k_is | rfl); (case q_NoAddress_NoFields => first | k_is | rfl); (case q_NoAddress_NoHands => first | k_is | rfl); (case q_NoAddress_NoLine => first | k_is | rfl); (case q_NoAddress_NoName => first | k_is | rfl); (case q_NoAddress_NoNumber => first | k_is | rfl)
    (case q_NoAddress_NoOffset => first | k_is | rfl); (case q_NoAddress_NoRows => first | k_is | rfl); (case q_NoAddress_NoRule => first | k_is | rfl); (case q_NoAddress_NoSweep => first | k_is | rfl); (case q_NoAddress_NoText => first | k_is | rfl); (case q_NoAddress_NoWord => first | k_is | rfl)
    (case q_NoAddress_OverflowError => first | k_is | rfl); (case q_NoAddress_ReachError => first | k_is | rfl); (case q_NoAddress_RuntimeError => first | k_is | rfl); (case q_NoAddress_Sweeping => first | k_is | rfl); (case q_NoAddress_TooMany => first | k_is | rfl); (case q_NoAddress_ValueError => first | k_is | rfl)
    (case q_NoBounds_Fault => first | k_is | rfl); (case q_NoBounds_IndexError => first | k_is | rfl); (case q_NoBounds_KeyError => first | k_is | rfl); (case q_NoBounds_LookupError => first | k_is | rfl); (case q_NoBounds_NoAddress => first | k_is | rfl); (case q_NoBounds_NoBounds => first | k_is | rfl)
    (case q_NoBounds_NoCompartment => first | k_is | rfl); (case q_NoBounds_NoDeeds => first | k_is | rfl); (case q_NoBounds_NoFields => first | k_is | rfl); (case q_NoBounds_NoHands => first | k_is | rfl); (case q_NoBounds_NoLine => first | k_is | rfl); (case q_NoBounds_NoName => first | k_is | rfl)
    (case q_NoBounds_NoNumber => first | k_is | rfl); (case q_NoBounds_NoOffset => first | k_is | rfl); (case q_NoBounds_NoRows => first | k_is | rfl); (case q_NoBounds_NoRule => first | k_is | rfl); (case q_NoBounds_NoSweep => first | k_is | rfl); (case q_NoBounds_NoText => first | k_is | rfl)
    (case q_NoBounds_NoWord => first | k_is | rfl); (case q_NoBounds_OverflowError => first | k_is | rfl); (case q_NoBounds_ReachError => first | k_is | rfl); (case q_NoBounds_RuntimeError => first | k_is | rfl); (case q_NoBounds_Sweeping => first | k_is | rfl); (case q_NoBounds_TooMany => first | k_is | rfl)
    (case q_NoBounds_ValueError => first | k_is | rfl); (case q_NoCompartment_Fault => first | k_is | rfl); (case q_NoCompartment_IndexError => first | k_is | rfl); (case q_NoCompartment_KeyError => first | k_is | rfl); (case q_NoCompartment_LookupError => first | k_is | rfl); (case q_NoCompartment_NoAddress => first | k_is | rfl)
    (case q_NoCompartment_NoBounds => first | k_is | rfl); (case q_NoCompartment_NoCompartment => first | k_is | rfl); (case q_NoCompartment_NoDeeds => first | k_is | rfl); (case q_NoCompartment_NoFields => first | k_is | rfl); (case q_NoCompartment_NoHands => first | k_is | rfl); (case q_NoCompartment_NoLine => first | k_is | rfl)
    (case q_NoCompartment_NoName => first | k_is | rfl); (case q_NoCompartment_NoNumber => first | k_is | rfl); (case q_NoCompartment_NoOffset => first | k_is | rfl); (case q_NoCompartment_NoRows => first | k_is | rfl); (case q_NoCompartment_NoRule => first | k_is | rfl); (case q_NoCompartment_NoSweep => first | k_is | rfl)
    (case q_NoCompartment_NoText => first | k_is | rfl); (case q_NoCompartment_NoWord => first | k_is | rfl); (case q_NoCompartment_OverflowError => first | k_is | rfl); (case q_NoCompartment_ReachError => first | k_is | rfl); (case q_NoCompartment_RuntimeError => first | k_is | rfl); (case q_NoCompartment_Sweeping => first | k_is | rfl)
    (case q_NoCompartment_TooMany => first | k_is | rfl); (case q_NoCompartment_ValueError => first | k_is | rfl); (case q_NoDeeds_Fault => first | k_is | rfl); (case q_NoDeeds_IndexError => first | k_is | rfl); (case q_NoDeeds_KeyError => first | k_is | rfl); (case q_NoDeeds_LookupError => first | k_is | rfl)
    (case q_NoDeeds_NoAddress => first | k_is | rfl); (case q_NoDeeds_NoBounds => first | k_is | rfl); (case q_NoDeeds_NoCompartment => first | k_is | rfl); (case q_NoDeeds_NoDeeds => first | k_is | rfl); (case q_NoDeeds_NoFields => first | k_is | rfl); (case q_NoDeeds_NoHands => first | k_is | rfl)
    (case q_NoDeeds_NoLine => first | k_is | rfl); (case q_NoDeeds_NoName => first | k_is | rfl); (case q_NoDeeds_NoNumber => first | k_is | rfl); (case q_NoDeeds_NoOffset => first | k_is | rfl); (case q_NoDeeds_NoRows => first | k_is | rfl); (case q_NoDeeds_NoRule => first | k_is | rfl)
    (case q_NoDeeds_NoSweep => first | k_is | rfl); (case q_NoDeeds_NoText => first | k_is | rfl); (case q_NoDeeds_NoWord => first | k_is | rfl); (case q_NoDeeds_OverflowError => first | k_is | rfl); (case q_NoDeeds_ReachError => first | k_is | rfl); (case q_NoDeeds_RuntimeError => first | k_is | rfl)
    (case q_NoDeeds_Sweeping => first | k_is | rfl); (case q_NoDeeds_TooMany => first | k_is | rfl); (case q_NoDeeds_ValueError => first | k_is | rfl); (case q_NoFields_Fault => first | k_is | rfl); (case q_NoFields_IndexError => first | k_is | rfl); (case q_NoFields_KeyError => first | k_is | rfl)
    (case q_NoFields_LookupError => first | k_is | rfl); (case q_NoFields_NoAddress => first | k_is | rfl); (case q_NoFields_NoBounds => first | k_is | rfl); (case q_NoFields_NoCompartment => first | k_is | rfl); (case q_NoFields_NoDeeds => first | k_is | rfl); (case q_NoFields_NoFields => first | k_is | rfl)
    (case q_NoFields_NoHands => first | k_is | rfl); (case q_NoFields_NoLine => first | k_is | rfl); (case q_NoFields_NoName => first | k_is | rfl); (case q_NoFields_NoNumber => first | k_is | rfl); (case q_NoFields_NoOffset => first | k_is | rfl); (case q_NoFields_NoRows => first | k_is | rfl)
    (case q_NoFields_NoRule => first | k_is | rfl); (case q_NoFields_NoSweep => first | k_is | rfl); (case q_NoFields_NoText => first | k_is | rfl); (case q_NoFields_NoWord => first | k_is | rfl); (case q_NoFields_OverflowError => first | k_is | rfl); (case q_NoFields_ReachError => first | k_is | rfl)
    (case q_NoFields_RuntimeError => first | k_is | rfl); (case q_NoFields_Sweeping => first | k_is | rfl); (case q_NoFields_TooMany => first | k_is | rfl); (case q_NoFields_ValueError => first | k_is | rfl); (case q_NoHands_Fault => first | k_is | rfl); (case q_NoHands_IndexError => first | k_is | rfl)
    (case q_NoHands_KeyError => first | k_is | rfl); (case q_NoHands_LookupError => first | k_is | rfl); (case q_NoHands_NoAddress => first | k_is | rfl); (case q_NoHands_NoBounds => first | k_is | rfl); (case q_NoHands_NoCompartment => first | k_is | rfl); (case q_NoHands_NoDeeds => first | k_is | rfl)
    (case q_NoHands_NoFields => first | k_is | rfl); (case q_NoHands_NoHands => first | k_is | rfl); (case q_NoHands_NoLine => first | k_is | rfl); (case q_NoHands_NoName => first | k_is | rfl); (case q_NoHands_NoNumber => first | k_is | rfl); (case q_NoHands_NoOffset => first | k_is | rfl)
    (case q_NoHands_NoRows => first | k_is | rfl); (case q_NoHands_NoRule => first | k_is | rfl); (case q_NoHands_NoSweep => first | k_is | rfl); (case q_NoHands_NoText => first | k_is | rfl); (case q_NoHands_NoWord => first | k_is | rfl); (case q_NoHands_OverflowError => first | k_is | rfl)
    (case q_NoHands_ReachError => first | k_is | rfl); (case q_NoHands_RuntimeError => first | k_is | rfl); (case q_NoHands_Sweeping => first | k_is | rfl); (case q_NoHands_TooMany => first | k_is | rfl); (case q_NoHands_ValueError => first | k_is | rfl); (case q_NoLine_Fault => first | k_is | rfl)
    (case q_NoLine_IndexError => first | k_is | rfl); (case q_NoLine_KeyError => first | k_is | rfl); (case q_NoLine_LookupError => first | k_is | rfl); (case q_NoLine_NoAddress => first | k_is | rfl); (case q_NoLine_NoBounds => first | k_is | rfl); (case q_NoLine_NoCompartment => first | k_is | rfl)
    (case q_NoLine_NoDeeds => first | k_is | rfl); (case q_NoLine_NoFields => first | k_is | rfl); (case q_NoLine_NoHands => first | k_is | rfl); (case q_NoLine_NoLine => first | k_is | rfl); (case q_NoLine_NoName => first | k_is | rfl); (case q_NoLine_NoNumber => first | k_is | rfl)
    (case q_NoLine_NoOffset => first | k_is | rfl); (case q_NoLine_NoRows => first | k_is | rfl); (case q_NoLine_NoRule => first | k_is | rfl); (case q_NoLine_NoSweep => first | k_is | rfl); (case q_NoLine_NoText => first | k_is | rfl); (case q_NoLine_NoWord => first | k_is | rfl)
    (case q_NoLine_OverflowError => first | k_is | rfl); (case q_NoLine_ReachError => first | k_is | rfl); (case q_NoLine_RuntimeError => first | k_is | rfl); (case q_NoLine_Sweeping => first | k_is | rfl); (case q_NoLine_TooMany => first | k_is | rfl); (case q_NoLine_ValueError => first | k_is | rfl)
    (case q_NoName_Fault => first | k_is | rfl); (case q_NoName_IndexError => first | k_is | rfl); (case q_NoName_KeyError => first | k_is | rfl); (case q_NoName_LookupError => first | k_is | rfl); (case q_NoName_NoAddress => first | k_is | rfl); (case q_NoName_NoBounds => first | k_is | rfl)
    (case q_NoName_NoCompartment => first | k_is | rfl); (case q_NoName_NoDeeds => first | k_is | rfl); (case q_NoName_NoFields => first | k_is | rfl); (case q_NoName_NoHands => first | k_is | rfl); (case q_NoName_NoLine => first | k_is | rfl); (case q_NoName_NoName => first | k_is | rfl)
    (case q_NoName_NoNumber => first | k_is | rfl); (case q_NoName_NoOffset => first | k_is | rfl); (case q_NoName_NoRows => first | k_is | rfl); (case q_NoName_NoRule => first | k_is | rfl); (case q_NoName_NoSweep => first | k_is | rfl); (case q_NoName_NoText => first | k_is | rfl)
    (case q_NoName_NoWord => first | k_is | rfl); (case q_NoName_OverflowError => first | k_is | rfl); (case q_NoName_ReachError => first | k_is | rfl); (case q_NoName_RuntimeError => first | k_is | rfl); (case q_NoName_Sweeping => first | k_is | rfl); (case q_NoName_TooMany => first | k_is | rfl)
    (case q_NoName_ValueError => first | k_is | rfl); (case q_NoNumber_Fault => first | k_is | rfl); (case q_NoNumber_IndexError => first | k_is | rfl); (case q_NoNumber_KeyError => first | k_is | rfl); (case q_NoNumber_LookupError => first | k_is | rfl); (case q_NoNumber_NoAddress => first | k_is | rfl)
    (case q_NoNumber_NoBounds => first | k_is | rfl); (case q_NoNumber_NoCompartment => first | k_is | rfl); (case q_NoNumber_NoDeeds => first | k_is | rfl); (case q_NoNumber_NoFields => first | k_is | rfl); (case q_NoNumber_NoHands => first | k_is | rfl); (case q_NoNumber_NoLine => first | k_is | rfl)
    (case q_NoNumber_NoName => first | k_is | rfl); (case q_NoNumber_NoNumber => first | k_is | rfl); (case q_NoNumber_NoOffset => first | k_is | rfl); (case q_NoNumber_NoRows => first | k_is | rfl); (case q_NoNumber_NoRule => first | k_is | rfl); (case q_NoNumber_NoSweep => first | k_is | rfl)
    (case q_NoNumber_NoText => first | k_is | rfl); (case q_NoNumber_NoWord => first | k_is | rfl); (case q_NoNumber_OverflowError => first | k_is | rfl); (case q_NoNumber_ReachError => first | k_is | rfl); (case q_NoNumber_RuntimeError => first | k_is | rfl); (case q_NoNumber_Sweeping => first | k_is | rfl)
    (case q_NoNumber_TooMany => first | k_is | rfl); (case q_NoNumber_ValueError => first | k_is | rfl); (case q_NoOffset_Fault => first | k_is | rfl); (case q_NoOffset_IndexError => first | k_is | rfl); (case q_NoOffset_KeyError => first | k_is | rfl); (case q_NoOffset_LookupError => first | k_is | rfl)
    (case q_NoOffset_NoAddress => first | k_is | rfl); (case q_NoOffset_NoBounds => first | k_is | rfl); (case q_NoOffset_NoCompartment => first | k_is | rfl); (case q_NoOffset_NoDeeds => first | k_is | rfl); (case q_NoOffset_NoFields => first | k_is | rfl); (case q_NoOffset_NoHands => first | k_is | rfl)
    (case q_NoOffset_NoLine => first | k_is | rfl); (case q_NoOffset_NoName => first | k_is | rfl); (case q_NoOffset_NoNumber => first | k_is | rfl); (case q_NoOffset_NoOffset => first | k_is | rfl); (case q_NoOffset_NoRows => first | k_is | rfl); (case q_NoOffset_NoRule => first | k_is | rfl)
    (case q_NoOffset_NoSweep => first | k_is | rfl); (case q_NoOffset_NoText => first | k_is | rfl); (case q_NoOffset_NoWord => first | k_is | rfl); (case q_NoOffset_OverflowError => first | k_is | rfl); (case q_NoOffset_ReachError => first | k_is | rfl); (case q_NoOffset_RuntimeError => first | k_is | rfl)
    (case q_NoOffset_Sweeping => first | k_is | rfl); (case q_NoOffset_TooMany => first | k_is | rfl); (case q_NoOffset_ValueError => first | k_is | rfl); (case q_NoRows_Fault => first | k_is | rfl); (case q_NoRows_IndexError => first | k_is | rfl); (case q_NoRows_KeyError => first | k_is | rfl)
    (case q_NoRows_LookupError => first | k_is | rfl); (case q_NoRows_NoAddress => first | k_is | rfl); (case q_NoRows_NoBounds => first | k_is | rfl); (case q_NoRows_NoCompartment => first | k_is | rfl); (case q_NoRows_NoDeeds => first | k_is | rfl); (case q_NoRows_NoFields => first | k_is | rfl)
    (case q_NoRows_NoHands => first | k_is | rfl); (case q_NoRows_NoLine => first | k_is | rfl); (case q_NoRows_NoName => first | k_is | rfl); (case q_NoRows_NoNumber => first | k_is | rfl); (case q_NoRows_NoOffset => first | k_is | rfl); (case q_NoRows_NoRows => first | k_is | rfl)
    (case q_NoRows_NoRule => first | k_is | rfl); (case q_NoRows_NoSweep => first | k_is | rfl); (case q_NoRows_NoText => first | k_is | rfl); (case q_NoRows_NoWord => first | k_is | rfl); (case q_NoRows_OverflowError => first | k_is | rfl); (case q_NoRows_ReachError => first | k_is | rfl)
    (case q_NoRows_RuntimeError => first | k_is | rfl); (case q_NoRows_Sweeping => first | k_is | rfl); (case q_NoRows_TooMany => first | k_is | rfl); (case q_NoRows_ValueError => first | k_is | rfl); (case q_NoRule_Fault => first | k_is | rfl); (case q_NoRule_IndexError => first | k_is | rfl)
    (case q_NoRule_KeyError => first | k_is | rfl); (case q_NoRule_LookupError => first | k_is | rfl); (case q_NoRule_NoAddress => first | k_is | rfl); (case q_NoRule_NoBounds => first | k_is | rfl); (case q_NoRule_NoCompartment => first | k_is | rfl); (case q_NoRule_NoDeeds => first | k_is | rfl)
    (case q_NoRule_NoFields => first | k_is | rfl); (case q_NoRule_NoHands => first | k_is | rfl); (case q_NoRule_NoLine => first | k_is | rfl); (case q_NoRule_NoName => first | k_is | rfl); (case q_NoRule_NoNumber => first | k_is | rfl); (case q_NoRule_NoOffset => first | k_is | rfl)
    (case q_NoRule_NoRows => first | k_is | rfl); (case q_NoRule_NoRule => first | k_is | rfl); (case q_NoRule_NoSweep => first | k_is | rfl); (case q_NoRule_NoText => first | k_is | rfl); (case q_NoRule_NoWord => first | k_is | rfl); (case q_NoRule_OverflowError => first | k_is | rfl)
    (case q_NoRule_ReachError => first | k_is | rfl); (case q_NoRule_RuntimeError => first | k_is | rfl); (case q_NoRule_Sweeping => first | k_is | rfl); (case q_NoRule_TooMany => first | k_is | rfl); (case q_NoRule_ValueError => first | k_is | rfl); (case q_NoSweep_Fault => first | k_is | rfl)
    (case q_NoSweep_IndexError => first | k_is | rfl); (case q_NoSweep_KeyError => first | k_is | rfl); (case q_NoSweep_LookupError => first | k_is | rfl); (case q_NoSweep_NoAddress => first | k_is | rfl); (case q_NoSweep_NoBounds => first | k_is | rfl); (case q_NoSweep_NoCompartment => first | k_is | rfl)
    (case q_NoSweep_NoDeeds => first | k_is | rfl); (case q_NoSweep_NoFields => first | k_is | rfl); (case q_NoSweep_NoHands => first | k_is | rfl); (case q_NoSweep_NoLine => first | k_is | rfl); (case q_NoSweep_NoName => first | k_is | rfl); (case q_NoSweep_NoNumber => first | k_is | rfl)
    (case q_NoSweep_NoOffset => first | k_is | rfl); (case q_NoSweep_NoRows => first | k_is | rfl); (case q_NoSweep_NoRule => first | k_is | rfl); (case q_NoSweep_NoSweep => first | k_is | rfl); (case q_NoSweep_NoText => first | k_is | rfl); (case q_NoSweep_NoWord => first | k_is | rfl)
    (case q_NoSweep_OverflowError => first | k_is | rfl); (case q_NoSweep_ReachError => first | k_is | rfl); (case q_NoSweep_RuntimeError => first | k_is | rfl); (case q_NoSweep_Sweeping => first | k_is | rfl); (case q_NoSweep_TooMany => first | k_is | rfl); (case q_NoSweep_ValueError => first | k_is | rfl)
    (case q_NoText_Fault => first | k_is | rfl); (case q_NoText_IndexError => first | k_is | rfl); (case q_NoText_KeyError => first | k_is | rfl); (case q_NoText_LookupError => first | k_is | rfl); (case q_NoText_NoAddress => first | k_is | rfl); (case q_NoText_NoBounds => first | k_is | rfl)
    (case q_NoText_NoCompartment => first | k_is | rfl); (case q_NoText_NoDeeds => first | k_is | rfl); (case q_NoText_NoFields => first | k_is | rfl); (case q_NoText_NoHands => first | k_is | rfl); (case q_NoText_NoLine => first | k_is | rfl); (case q_NoText_NoName => first | k_is | rfl)
    (case q_NoText_NoNumber => first | k_is | rfl); (case q_NoText_NoOffset => first | k_is | rfl); (case q_NoText_NoRows => first | k_is | rfl); (case q_NoText_NoRule => first | k_is | rfl); (case q_NoText_NoSweep => first | k_is | rfl); (case q_NoText_NoText => first | k_is | rfl)
    (case q_NoText_NoWord => first | k_is | rfl); (case q_NoText_OverflowError => first | k_is | rfl); (case q_NoText_ReachError => first | k_is | rfl); (case q_NoText_RuntimeError => first | k_is | rfl); (case q_NoText_Sweeping => first | k_is | rfl); (case q_NoText_TooMany => first | k_is | rfl)
    (case q_NoText_ValueError => first | k_is | rfl); (case q_NoWord_Fault => first | k_is | rfl); (case q_NoWord_IndexError => first | k_is | rfl); (case q_NoWord_KeyError => first | k_is | rfl); (case q_NoWord_LookupError => first | k_is | rfl); (case q_NoWord_NoAddress => first | k_is | rfl)
    (case q_NoWord_NoBounds => first | k_is | rfl); (case q_NoWord_NoCompartment => first | k_is | rfl); (case q_NoWord_NoDeeds => first | k_is | rfl); (case q_NoWord_NoFields => first | k_is | rfl); (case q_NoWord_NoHands => first | k_is | rfl); (case q_NoWord_NoLine => first | k_is | rfl)
    (case q_NoWord_NoName => first | k_is | rfl); (case q_NoWord_NoNumber => first | k_is | rfl); (case q_NoWord_NoOffset => first | k_is | rfl); (case q_NoWord_NoRows => first | k_is | rfl); (case q_NoWord_NoRule => first | k_is | rfl); (case q_NoWord_NoSweep => first | k_is | rfl)
    (case q_NoWord_NoText => first | k_is | rfl); (case q_NoWord_NoWord => first | k_is | rfl); (case q_NoWord_OverflowError => first | k_is | rfl); (case q_NoWord_ReachError => first | k_is | rfl); (case q_NoWord_RuntimeError => first | k_is | rfl); (case q_NoWord_Sweeping => first | k_is | rfl)
    (case q_NoWord_TooMany => first | k_is | rfl); (case q_NoWord_ValueError => first | k_is | rfl); (case q_ReachError_Fault => first | k_is | rfl); (case q_ReachError_IndexError => first | k_is | rfl); (case q_ReachError_KeyError => first | k_is | rfl); (case q_ReachError_LookupError => first | k_is | rfl)
    (case q_ReachError_NoAddress => first | k_is | rfl); (case q_ReachError_NoBounds => first | k_is | rfl); (case q_ReachError_NoCompartment => first | k_is | rfl); (case q_ReachError_NoDeeds => first | k_is | rfl); (case q_ReachError_NoFields => first | k_is | rfl); (case q_ReachError_NoHands => first | k_is | rfl)
    (case q_ReachError_NoLine => first | k_is | rfl); (case q_ReachError_NoName => first | k_is | rfl); (case q_ReachError_NoNumber => first | k_is | rfl); (case q_ReachError_NoOffset => first | k_is | rfl); (case q_ReachError_NoRows => first | k_is | rfl); (case q_ReachError_NoRule => first | k_is | rfl)
    (case q_ReachError_NoSweep => first | k_is | rfl); (case q_ReachError_NoText => first | k_is | rfl); (case q_ReachError_NoWord => first | k_is | rfl); (case q_ReachError_OverflowError => first | k_is | rfl); (case q_ReachError_ReachError => first | k_is | rfl); (case q_ReachError_RuntimeError => first | k_is | rfl)
    (case q_ReachError_Sweeping => first | k_is | rfl); (case q_ReachError_TooMany => first | k_is | rfl); (case q_ReachError_ValueError => first | k_is | rfl); (case q_Sweeping_Fault => first | k_is | rfl); (case q_Sweeping_IndexError => first | k_is | rfl); (case q_Sweeping_KeyError => first | k_is | rfl)
    (case q_Sweeping_LookupError => first | k_is | rfl); (case q_Sweeping_NoAddress => first | k_is | rfl); (case q_Sweeping_NoBounds => first | k_is | rfl); (case q_Sweeping_NoCompartment => first | k_is | rfl); (case q_Sweeping_NoDeeds => first | k_is | rfl); (case q_Sweeping_NoFields => first | k_is | rfl)
    (case q_Sweeping_NoHands => first | k_is | rfl); (case q_Sweeping_NoLine => first | k_is | rfl); (case q_Sweeping_NoName => first | k_is | rfl); (case q_Sweeping_NoNumber => first | k_is | rfl); (case q_Sweeping_NoOffset => first | k_is | rfl); (case q_Sweeping_NoRows => first | k_is | rfl)
    (case q_Sweeping_NoRule => first | k_is | rfl); (case q_Sweeping_NoSweep => first | k_is | rfl); (case q_Sweeping_NoText => first | k_is | rfl); (case q_Sweeping_NoWord => first | k_is | rfl); (case q_Sweeping_OverflowError => first | k_is | rfl); (case q_Sweeping_ReachError => first | k_is | rfl)
    (case q_Sweeping_RuntimeError => first | k_is | rfl); (case q_Sweeping_Sweeping => first | k_is | rfl); (case q_Sweeping_TooMany => first | k_is | rfl); (case q_Sweeping_ValueError => first | k_is | rfl); (case q_TooMany_Fault => first | k_is | rfl); (case q_TooMany_IndexError => first | k_is | rfl)
    (case q_TooMany_KeyError => first | k_is | rfl); (case q_TooMany_LookupError => first | k_is | rfl); (case q_TooMany_NoAddress => first | k_is | rfl); (case q_TooMany_NoBounds => first | k_is | rfl); (case q_TooMany_NoCompartment => first | k_is | rfl); (case q_TooMany_NoDeeds => first | k_is | rfl)
    (case q_TooMany_NoFields => first | k_is | rfl); (case q_TooMany_NoHands => first | k_is | rfl); (case q_TooMany_NoLine => first | k_is | rfl); (case q_TooMany_NoName => first | k_is | rfl); (case q_TooMany_NoNumber => first | k_is | rfl); (case q_TooMany_NoOffset => first | k_is | rfl)
    (case q_TooMany_NoRows => first | k_is | rfl); (case q_TooMany_NoRule => first | k_is | rfl); (case q_TooMany_NoSweep => first | k_is | rfl); (case q_TooMany_NoText => first | k_is | rfl); (case q_TooMany_NoWord => first | k_is | rfl); (case q_TooMany_OverflowError => first | k_is | rfl)
    (case q_TooMany_ReachError => first | k_is | rfl); (case q_TooMany_RuntimeError => first | k_is | rfl); (case q_TooMany_Sweeping => first | k_is | rfl); (case q_TooMany_TooMany => first | k_is | rfl); (case q_TooMany_ValueError => first | k_is | rfl)
