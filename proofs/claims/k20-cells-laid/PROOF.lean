import PyProof.Rows.All
import Wide.All
import OpenK.AllK
import Wide.FinOn
import HandS.ForMost
import HandS.ForExc
import HandS.IsInst
import HandS.Flow
import HandS.TupLe
import HandS.TupAny
import HandS.WideBits
import HandS.Wide
import HandS.Style
import KE.DataEq
import HandS.ExcCtx
import HandS.ExcIs
import HandS.EndBits
import KE.KExcIs
import PyProof.Draws
import PyProof.EnumMake
import HandS.Zip
import KE.GoesMore
import HandS.Text
import HandS.Conv
import HandS.Replace
import KE.DatumIndex
import PyProof.ReprRoads
import HandS.Defaults
import HandS.TryOnly
import PyProof.ListStr
import PyProof.TupleOfGen
import PyProof.Rows.StrRev
import HandS.ExcInit
import HandS.ExcField
import HandS.StrSplit
import HandS.ReplaceLit
import HandS.FStr
import HandS.Dict
import HandS.ExcOwn
import HandS.RaiseMore
import HandS.WrittenGet
import PyProof.AutoListH
import PyProof.ListMulRoad
import KE.KUnpackStar
import HandS.SetFor
import HandS.Strs
import HandS.SortOrd
import HandS.SortInts
import HandS.TupMul
import PyProof.NeKinds
import PyProof.Rows.AssignMoreSeq
import HandS.DictComp
import HandS.More
import HandS.OwnEq
import HandS.MakeKwOnly
import HandS.SortRule
import HandS.HotCalls
import HandS.ExcInitHot
import HandS.Deep
import KE.KEqNest
import PyProof.InstNe
import HandS.TryMany
import HandS.Spec
import KE.KBits
import PyProof.StrLawsRepr
import PyProof.FitsInt
import PySem.Challenge.RW_sealedreach_k20_cells_laid_and_cleared
set_option Elab.async false
set_option linter.all false
set_option maxRecDepth 100000
set_option maxHeartbeats 4000000
namespace Ev
open PySem PySem.Spec PyProof.Rows L2
inductive D where
  | non
  | bl (b : Bool)
  | int (i : Int)
  | str (x : Str)
  | tup (xs : List D)
  | lst (xs : List D)
  | dct (ks : List Key) (xs : List D)
  | loc (n : Nat)
  | dcf (ks : List Key) (xs : List D)
  | exn (c : Nat) (ns : List Str) (xs : List D)
  | dcT (ks : List (List Key)) (xs : List D)
  deriving Inhabited
inductive MO where
  | lst (xs : List D)
  | dK (ks : List Key) (xs : List D)
  | ins (c : Nat) (ns : List Str) (xs : List D)
  | dT (ks : List (List Key)) (xs : List D)
  | dL (ks : List Key) (xs : List D)
abbrev Store := List MO
abbrev Env := List (Option D)
structure Exn where
  c : Nat
  ns : List Str
  xs : List D
inductive Res (A : Type) where
  | ok (a : A) (S : Store)
  | err (x : Exn) (S : Store)
  | bad
def Res.bind {A B : Type} : Res A → (A → Store → Res B) → Res B
  | .ok a S, f => f a S
  | .err x S, _ => .err x S
  | .bad, _ => .bad
def ofO {A : Type} : Option A → Store → Res A
  | some a, S => .ok a S
  | none, _ => .bad
structure Io where
  l : List Addr
  h : List (Addr × HO)
  k : List (Addr × (Obj × HO))
def Io.all (io : Io) : List Addr := io.l ++ io.h.map (·.1)
def Fz (io : Io) (H : Hp) : Hp := fun a => if a ∈ io.all then none else H a
theorem Fz_out {io : Io} {H : Hp} {a : Addr} (h : a ∉ io.all) : Fz io H a = H a := by unfold Fz; rw [if_neg h]
theorem Fz_same (io : Io) (H : Hp) : Same (Fz io H) H := fun b o e => by
  unfold Fz at e
  split at e
  · cases e
  · exact e
theorem sqT_same {K : PySem.W.Frag} {H H' : Hp} {a : Addr} {xs : List V} (e : Same H H') (h : SqT K H a xs) : SqT K H' a xs := by
  rcases h with (h | ⟨o, h⟩) | h
  · exact .inl (.inl (e _ _ h))
  · exact .inl (.inr ⟨o, e _ _ h⟩)
  · exact .inr h
def exH (a : Addr) (cls : Value) (d : Option Addr) : HO := .ext fun h => ∃ oe vs, h.get? a = some oe ∧ oe.cls = cls ∧ oe.dict = d ∧ oe.data = .fields vs
variable (K : PySem.W.Frag) (C : Nat → Addr)
mutual
inductive Rep (io : Io) (F : Hp) : D → V → Prop
  | non : Rep io F .non .non
  | bl (b : Bool) : Rep io F (.bl b) (.bl b)
  | int (i : Int) : Rep io F (.int i) (.int i)
  | str (x : Str) : Rep io F (.str x) (.str x)
  | tup {a : Addr} {vs : List V} {ds : List D} : SqT K F a vs → Reps io F ds vs → Rep io F (.tup ds) (.ref a)
  | lst {a : Addr} {vs : List V} {ds : List D} : SqL K F a vs → Reps io F ds vs → Rep io F (.lst ds) (.ref a)
  | dct {a : Addr} {kvs : List (Key × V)} {ks : List Key} {vs : List V} {ds : List D} : F a = some (.dK kvs) → kvs.map (·.1) = ks → kvs.map (·.2) = vs → Reps io F ds vs → Rep io F (.dct ks ds) (.ref a)
  | loc {n : Nat} {a : Addr} : io.l[n]? = some a → Rep io F (.loc n) (.ref a)
  | dcf {a : Addr} {o : Obj} {kvs : List (Key × V)} {ks : List Key} {vs : List V} {ds : List D} : F a = some (.frz o (.dK kvs)) → kvs.map (·.1) = ks → kvs.map (·.2) = vs → Reps io F ds vs → Rep io F (.dcf ks ds) (.ref a)
  | dcT {a : Addr} {o : Obj} {kvs : List (List Key × V)} {ks : List (List Key)} {vs : List V} {ds : List D} : F a = some (.frz o (.dT kvs)) → kvs.map (·.1) = ks → kvs.map (·.2) = vs → Reps io F ds vs → Rep io F (.dcT ks ds) (.ref a)
  | exn0 {c : Nat} {a : Addr} : F a = some (exH a (.ref (C c)) none) → Rep io F (.exn c [] []) (.ref a)
  | exnF {c : Nat} {a d : Addr} {fs : List (Str × V)} {ns : List Str} {vs : List V} {ds : List D} : F a = some (exH a (.ref (C c)) (some d)) → F d = some (.xd fs) → fs.map (·.1) = ns → fs.map (·.2) = vs → Reps io F ds vs → Rep io F (.exn c ns ds) (.ref a)
inductive Reps (io : Io) (F : Hp) : List D → List V → Prop
  | nil : Reps io F [] []
  | cons {d : D} {ds : List D} {v : V} {vs : List V} : Rep io F d v → Reps io F ds vs → Reps io F (d :: ds) (v :: vs)
end
variable {K C}
structure Ext (io : Io) (H : Hp) (io' : Io) (H' : Hp) : Prop where
  pre : ∀ (n : Nat) (a : Addr), io.l[n]? = some a → io'.l[n]? = some a
  hid : io'.h = io.h
  same : Same (Fz io H) (Fz io' H')
  kep : io'.k = io.k
theorem Ext.refl (io : Io) (H : Hp) : Ext io H io H := ⟨fun _ _ h => h, rfl, fun _ _ h => h, rfl⟩
theorem Ext.trans {io io1 io2 : Io} {H H1 H2 : Hp} (a : Ext io H io1 H1) (b : Ext io1 H1 io2 H2) : Ext io H io2 H2 :=
  ⟨fun n x h => b.pre n x (a.pre n x h), b.hid.trans a.hid, a.same.trans b.same, b.kep.trans a.kep⟩
mutual
theorem Rep.mono {io io' : Io} {F F' : Hp} (hp : ∀ (n : Nat) (a : Addr), io.l[n]? = some a → io'.l[n]? = some a) (hs : Same F F') : ∀ {d : D} {v : V}, Rep K C io F d v → Rep K C io' F' d v
  | _, _, .non => .non
  | _, _, .bl b => .bl b
  | _, _, .int i => .int i
  | _, _, .str x => .str x
  | _, _, .tup h r => .tup (sqT_same hs h) (Reps.mono hp hs r)
  | _, _, .lst h r => .lst (hs.seq h) (Reps.mono hp hs r)
  | _, _, .dct h e1 e2 r => .dct (hs _ _ h) e1 e2 (Reps.mono hp hs r)
  | _, _, .loc h => .loc (hp _ _ h)
  | _, _, .dcf h e1 e2 r => .dcf (hs _ _ h) e1 e2 (Reps.mono hp hs r)
  | _, _, .dcT h e1 e2 r => .dcT (hs _ _ h) e1 e2 (Reps.mono hp hs r)
  | _, _, .exn0 h => .exn0 (hs _ _ h)
  | _, _, .exnF h h2 e1 e2 r => .exnF (hs _ _ h) (hs _ _ h2) e1 e2 (Reps.mono hp hs r)
theorem Reps.mono {io io' : Io} {F F' : Hp} (hp : ∀ (n : Nat) (a : Addr), io.l[n]? = some a → io'.l[n]? = some a) (hs : Same F F') : ∀ {ds : List D} {vs : List V}, Reps K C io F ds vs → Reps K C io' F' ds vs
  | _, _, .nil => .nil
  | _, _, .cons h r => .cons (Rep.mono hp hs h) (Reps.mono hp hs r)
end
theorem Rep.ext {io io' : Io} {H H' : Hp} (e : Ext io H io' H') {d : D} {v : V} (r : Rep K C io (Fz io H) d v) : Rep K C io' (Fz io' H') d v := r.mono e.pre e.same
theorem Reps.ext {io io' : Io} {H H' : Hp} (e : Ext io H io' H') {d : List D} {v : List V} (r : Reps K C io (Fz io H) d v) : Reps K C io' (Fz io' H') d v := r.mono e.pre e.same
theorem Reps.length {io : Io} {F : Hp} : ∀ {ds : List D} {vs : List V}, Reps K C io F ds vs → ds.length = vs.length
  | _, _, .nil => rfl
  | _, _, .cons _ r => by simp [Reps.length r]
theorem Reps.get {io : Io} {F : Hp} : ∀ {ds : List D} {vs : List V} {i : Nat} {d : D}, Reps K C io F ds vs → ds[i]? = some d → ∃ v, vs[i]? = some v ∧ Rep K C io F d v
  | _, _, 0, _, .cons h _, e => by simp at e; subst e; exact ⟨_, rfl, h⟩
  | _, _, i + 1, d, .cons _ r, e => by
    obtain ⟨v, h1, h2⟩ := Reps.get (i := i) (d := d) r (by simpa using e)
    exact ⟨v, by simpa using h1, h2⟩
theorem Reps.getV {io : Io} {F : Hp} : ∀ {ds : List D} {vs : List V} {i : Nat} {v : V}, Reps K C io F ds vs → vs[i]? = some v → ∃ d, ds[i]? = some d ∧ Rep K C io F d v
  | _, _, 0, _, .cons h _, e => by simp at e; subst e; exact ⟨_, rfl, h⟩
  | _, _, i + 1, d, .cons _ r, e => by
    obtain ⟨v, h1, h2⟩ := Reps.getV (i := i) (v := d) r (by simpa using e)
    exact ⟨v, by simpa using h1, h2⟩
theorem Reps.append {io : Io} {F : Hp} : ∀ {ds es : List D} {vs us : List V}, Reps K C io F ds vs → Reps K C io F es us → Reps K C io F (ds ++ es) (vs ++ us)
  | _, _, _, _, .nil, s => s
  | _, _, _, _, .cons h r, s => .cons h (Reps.append r s)
theorem Reps.set {io : Io} {F : Hp} {d : D} {v : V} (h : Rep K C io F d v) : ∀ {ds : List D} {vs : List V} (i : Nat), Reps K C io F ds vs → Reps K C io F (ds.set i d) (vs.set i v)
  | _, _, _, .nil => .nil
  | _, _, 0, .cons _ r => .cons h r
  | _, _, i + 1, .cons q r => .cons q (Reps.set h i r)
theorem Reps.take {io : Io} {F : Hp} : ∀ {ds : List D} {vs : List V} (n : Nat), Reps K C io F ds vs → Reps K C io F (ds.take n) (vs.take n)
  | _, _, 0, _ => .nil
  | _, _, _ + 1, .nil => .nil
  | _, _, n + 1, .cons h r => .cons h (Reps.take n r)
theorem Reps.drop {io : Io} {F : Hp} : ∀ {ds : List D} {vs : List V} (n : Nat), Reps K C io F ds vs → Reps K C io F (ds.drop n) (vs.drop n)
  | _, _, 0, r => r
  | _, _, _ + 1, .nil => .nil
  | _, _, n + 1, .cons _ r => Reps.drop n r
variable (K C) in
def ORep (io : Io) (H : Hp) (a : Addr) : MO → Prop
  | .lst ds => ∃ vs, H a = some (.lst vs) ∧ Reps K C io (Fz io H) ds vs
  | .dK ks ds => ∃ kvs, H a = some (.dK kvs) ∧ kvs.map (·.1) = ks ∧ Reps K C io (Fz io H) ds (kvs.map (·.2))
  | .dL ks ds => ∃ kvs o, io.k.lookup a = some (o, .dK kvs) ∧ H a = some (.frz o (.dK kvs)) ∧ kvs.map (·.1) = ks ∧ Reps K C io (Fz io H) ds (kvs.map (·.2))
  | .dT ks ds => ∃ kvs, H a = some (.dT kvs) ∧ kvs.map (·.1) = ks ∧ Reps K C io (Fz io H) ds (kvs.map (·.2))
  | .ins c ns ds => ∃ dx fs, H a = some (.ins (C c) dx fs) ∧ H dx = some (.own a) ∧ fs.map (·.1) = ns ∧ Reps K C io (Fz io H) ds (fs.map (·.2))
def isMut : HO → Bool
  | .lst _ => true
  | .dK _ => true
  | .dT _ => true
  | .frz _ (.dK _) => true
  | .ins _ _ _ => true
  | _ => false
variable (K C) in
structure Den (io : Io) (S : Store) (H : Hp) : Prop where
  len : io.l.length = S.length
  nd : io.all.Nodup
  obj : ∀ (n : Nat) (o : MO) (a : Addr), S[n]? = some o → io.l[n]? = some a → ORep K C io H a o
  hid : ∀ p ∈ io.h, H p.1 = some p.2 ∧ isMut p.2 = true
theorem ORep.at {io : Io} {H : Hp} {a : Addr} {o : MO} (h : ORep K C io H a o) : ∃ u, H a = some u ∧ isMut u = true := by
  cases o with
  | lst ds => obtain ⟨vs, e, _⟩ := h; exact ⟨_, e, rfl⟩
  | dK ks ds => obtain ⟨vs, e, _⟩ := h; exact ⟨_, e, rfl⟩
  | dT ks ds => obtain ⟨vs, e, _⟩ := h; exact ⟨_, e, rfl⟩
  | dL ks ds => obtain ⟨vs, o, _, e, _⟩ := h; exact ⟨_, e, rfl⟩
  | ins c ns ds => obtain ⟨_, _, e, _⟩ := h; exact ⟨_, e, rfl⟩
theorem Den.at {io : Io} {S : Store} {H : Hp} (d : Den K C io S H) {a : Addr} (h : a ∈ io.all) : ∃ u, H a = some u ∧ isMut u = true := by
  rcases List.mem_append.mp h with h | h
  · obtain ⟨n, hn, e⟩ := List.getElem_of_mem h
    have hS : n < S.length := by rw [← d.len]; exact hn
    exact (d.obj n S[n] a (by simp [hS]) (by simp [hn, e])).at
  · obtain ⟨p, hp, rfl⟩ := List.mem_map.mp h
    exact ⟨p.2, d.hid p hp⟩
theorem Den.fresh {io : Io} {S : Store} {H : Hp} (d : Den K C io S H) {p : Addr} (h : H p = none) : p ∉ io.all := fun z => by
  obtain ⟨u, e, _⟩ := d.at z
  rw [h] at e; cases e
theorem Den.notOwn {io : Io} {S : Store} {H : Hp} (d : Den K C io S H) {p x : Addr} (h : H p = some (.own x)) : p ∉ io.all := fun z => by
  obtain ⟨u, e, m⟩ := d.at z
  rw [h] at e; cases e; cases m
theorem mem_all {io : Io} {n : Nat} {a : Addr} (h : io.l[n]? = some a) : a ∈ io.all := List.mem_append_left _ (List.mem_of_getElem? h)
theorem Fz_upd_new {io : Io} {H : Hp} {p : Addr} {o : HO} (hp : p ∉ io.all) : Fz io (upd H p o) = upd (Fz io H) p o := by
  funext b
  unfold Fz upd
  by_cases e : b = p
  · subst e; simp [hp]
  · simp [e]
theorem Fz_upd_old {io : Io} {H : Hp} {p : Addr} {o : HO} (hp : p ∈ io.all) : Fz io (upd H p o) = Fz io H := by
  funext b
  unfold Fz upd
  by_cases e : b = p
  · subst e; simp [hp]
  · simp [e]
def Io.add (io : Io) (p : Addr) : Io := ⟨io.l ++ [p], io.h, io.k⟩
theorem mem_add {io : Io} {p b : Addr} : b ∈ (io.add p).all ↔ b = p ∨ b ∈ io.all := by
  unfold Io.add Io.all
  simp only [List.mem_append, List.mem_singleton]
  constructor
  · rintro ((h | h) | h)
    · exact .inr (.inl h)
    · exact .inl h
    · exact .inr (.inr h)
  · rintro (h | h | h)
    · exact .inl (.inr h)
    · exact .inl (.inl h)
    · exact .inr h
theorem Fz_upd_loc {io : Io} {H : Hp} {p : Addr} {o : HO} (hp : H p = none) : Fz (io.add p) (upd H p o) = Fz io H := by
  funext b
  unfold Fz upd
  simp only [mem_add]
  by_cases e : b = p
  · subst e; simp [hp]
  · simp [e]
theorem same_new {H : Hp} {p : Addr} {o : HO} (h : H p = none) : Same H (upd H p o) := fun b x e => by
  rw [upd_ne (ne_of_none e h)]; exact e
theorem Ext.new {io : Io} {S : Store} {H : Hp} {p : Addr} {o : HO} (d : Den K C io S H) (h : H p = none) : Ext io H io (upd H p o) :=
  ⟨fun _ _ e => e, rfl, by rw [Fz_upd_new (d.fresh h)]; exact same_new (by rw [Fz_out (d.fresh h)]; exact h), rfl⟩
theorem ORep.mono {io io' : Io} {S : Store} {H H' : Hp} {a : Addr} {o : MO} (d : Den K C io S H) (e : Ext io H io' H') (ha : H' a = H a) (h : ORep K C io H a o) : ORep K C io' H' a o := by
  cases o with
  | lst ds => obtain ⟨vs, q, r⟩ := h; exact ⟨vs, by rw [ha]; exact q, r.ext e⟩
  | dK ks ds => obtain ⟨vs, q, q2, r⟩ := h; exact ⟨vs, by rw [ha]; exact q, q2, r.ext e⟩
  | dT ks ds => obtain ⟨vs, q, q2, r⟩ := h; exact ⟨vs, by rw [ha]; exact q, q2, r.ext e⟩
  | dL ks ds => obtain ⟨vs, o, q0, q, q2, r⟩ := h; exact ⟨vs, o, by rw [e.kep]; exact q0, by rw [ha]; exact q, q2, r.ext e⟩
  | ins c ns ds =>
    obtain ⟨dx, fs, q, q1, q2, r⟩ := h
    refine ⟨dx, fs, by rw [ha]; exact q, ?_, q2, r.ext e⟩
    exact Fz_same _ _ _ _ (e.same dx _ (by rw [Fz_out (d.notOwn q1)]; exact q1))
theorem hid_mem {io : Io} {p : Addr × HO} (h : p ∈ io.h) : p.1 ∈ io.all := List.mem_append_right _ (List.mem_map.mpr ⟨p, h, rfl⟩)
theorem Den.new {io : Io} {S : Store} {H : Hp} {p : Addr} {o : HO} (d : Den K C io S H) (h : H p = none) : Den K C io S (upd H p o) :=
  ⟨d.len, d.nd, fun n x a e1 e2 => by
    have e : a ≠ p := fun z => d.fresh h (z ▸ mem_all e2)
    exact (d.obj n x a e1 e2).mono d (Ext.new d h) (upd_ne e), fun q hq => by
    have e : q.1 ≠ p := fun z => d.fresh h (z ▸ hid_mem hq)
    rw [upd_ne e]; exact d.hid q hq⟩
theorem Ext.loc {io : Io} {H : Hp} {p : Addr} {o : HO} (h : H p = none) : Ext io H (io.add p) (upd H p o) :=
  ⟨fun n a e => by
    have := (List.getElem?_eq_some_iff.mp e).1
    show (io.l ++ [p])[n]? = some a
    rw [List.getElem?_append_left this]; exact e, rfl, by rw [Fz_upd_loc h]; exact fun _ _ e => e, rfl⟩
theorem nodup_add {io : Io} {p : Addr} (nd : io.all.Nodup) (h : p ∉ io.all) : (io.add p).all.Nodup := by
  unfold Io.add Io.all at *
  simp only [List.mem_append, not_or] at h
  rw [List.append_assoc]
  rw [List.nodup_append] at nd ⊢
  refine ⟨nd.1, ?_, fun a ha b hb => ?_⟩
  · rw [List.singleton_append, List.nodup_cons]
    exact ⟨h.2, nd.2.1⟩
  · rw [List.singleton_append, List.mem_cons] at hb
    rcases hb with rfl | hb
    · exact fun z => h.1 (z ▸ ha)
    · exact nd.2.2 a ha b hb
theorem Den.loc {io : Io} {S : Store} {H : Hp} {p : Addr} {o : HO} {m : MO} (d : Den K C io S H) (h : H p = none) (hm : ORep K C (io.add p) (upd H p o) p m) : Den K C (io.add p) (S ++ [m]) (upd H p o) := by
  refine ⟨by simp [Io.add, d.len], nodup_add d.nd (d.fresh h), fun n x a e1 e2 => ?_, fun q hq => ?_⟩
  · have e2' : (io.l ++ [p])[n]? = some a := e2
    by_cases hn : n < io.l.length
    · rw [List.getElem?_append_left hn] at e2'
      rw [List.getElem?_append_left (by rw [← d.len]; exact hn)] at e1
      have e : a ≠ p := fun z => d.fresh h (z ▸ mem_all e2')
      exact (d.obj n x a e1 e2').mono d (Ext.loc h) (upd_ne e)
    · have h1 : n = io.l.length := by
        have := (List.getElem?_eq_some_iff.mp e2').1
        simp at this; omega
      subst h1
      rw [List.getElem?_append_right (Nat.le_refl _)] at e2'
      rw [d.len, List.getElem?_append_right (Nat.le_refl _)] at e1
      simp at e1 e2'
      subst e1; subst e2'
      exact hm
  · have hq' : q ∈ io.h := hq
    have e : q.1 ≠ p := fun z => d.fresh h (z ▸ hid_mem hq')
    rw [upd_ne e]; exact d.hid q hq'
theorem Ext.put {io : Io} {H : Hp} {p : Addr} {o : HO} (h : p ∈ io.all) : Ext io H io (upd H p o) :=
  ⟨fun _ _ e => e, rfl, by rw [Fz_upd_old h]; exact fun _ _ e => e, rfl⟩
theorem nodup_at {io : List Addr} (nd : io.Nodup) {n m : Nat} {a : Addr} (h1 : io[n]? = some a) (h2 : io[m]? = some a) : n = m := by
  obtain ⟨p1, e1⟩ := List.getElem?_eq_some_iff.mp h1
  obtain ⟨p2, e2⟩ := List.getElem?_eq_some_iff.mp h2
  exact (List.getElem_inj nd).mp (e1.trans e2.symm)
theorem Den.put {io : Io} {S : Store} {H : Hp} {n : Nat} {p : Addr} {o : HO} {m : MO} (d : Den K C io S H) (h : io.l[n]? = some p) (hm : ORep K C io (upd H p o) p m) : Den K C io (S.set n m) (upd H p o) := by
  have nd := List.nodup_append.mp d.nd
  refine ⟨by simp [d.len], d.nd, fun k x a e1 e2 => ?_, fun q hq => ?_⟩
  · by_cases hk : k = n
    · subst hk
      rw [h] at e2
      cases e2
      rw [List.getElem?_set_self (by have := (List.getElem?_eq_some_iff.mp h).1; rw [← d.len]; exact this)] at e1
      cases e1
      exact hm
    · rw [List.getElem?_set_ne (Ne.symm hk)] at e1
      have e : a ≠ p := fun z => hk (nodup_at nd.1 e2 (z ▸ h))
      exact (d.obj k x a e1 e2).mono d (Ext.put (mem_all h)) (upd_ne e)
  · have e : q.1 ≠ p := fun z => nd.2.2 p (List.mem_of_getElem? h) q.1 (List.mem_map.mpr ⟨q, hq, rfl⟩) z.symm
    rw [upd_ne e]; exact d.hid q hq
def Io.hide (io : Io) (p : Addr) (o : HO) : Io := ⟨io.l, (p, o) :: io.h, io.k⟩
theorem mem_hide {io : Io} {p b : Addr} {o : HO} : b ∈ (io.hide p o).all ↔ b = p ∨ b ∈ io.all := by
  unfold Io.hide Io.all
  simp only [List.mem_append, List.map_cons, List.mem_cons]
  constructor
  · rintro (h | h | h)
    · exact .inr (.inl h)
    · exact .inl h
    · exact .inr (.inr h)
  · rintro (h | h | h)
    · exact .inr (.inl h)
    · exact .inl h
    · exact .inr (.inr h)
theorem Fz_hide {io : Io} {H : Hp} {p : Addr} {o u : HO} (hp : H p = none) : Fz (io.hide p o) (upd H p u) = Fz io H := by
  funext b
  unfold Fz upd
  simp only [mem_hide]
  by_cases e : b = p
  · subst e; simp [hp]
  · simp [e]
theorem Fz_hide_put {io : Io} {H : Hp} {p : Addr} {o o' u : HO} : Fz (io.hide p o') (upd H p u) = Fz (io.hide p o) H := by
  funext b
  unfold Fz upd
  simp only [mem_hide]
  by_cases e : b = p
  · subst e; simp
  · simp [e]
theorem nodup_hide {io : Io} {p : Addr} {o : HO} (nd : io.all.Nodup) (h : p ∉ io.all) : (io.hide p o).all.Nodup := by
  unfold Io.hide Io.all at *
  simp only [List.mem_append, not_or] at h
  rw [List.nodup_append] at nd ⊢
  refine ⟨nd.1, ?_, fun a ha b hb => ?_⟩
  · rw [List.map_cons, List.nodup_cons]
    exact ⟨h.2, nd.2.1⟩
  · rw [List.map_cons, List.mem_cons] at hb
    rcases hb with rfl | hb
    · exact fun z => h.1 (z ▸ ha)
    · exact nd.2.2 a ha b hb
theorem ORep.same {io io' : Io} {S : Store} {H H' : Hp} {a : Addr} {o : MO} (d : Den K C io S H) (hl : io'.l = io.l) (hk : io'.k = io.k) (hs : Same (Fz io H) (Fz io' H')) (ha : H' a = H a) (h : ORep K C io H a o) : ORep K C io' H' a o := by
  have hp : ∀ (n : Nat) (a : Addr), io.l[n]? = some a → io'.l[n]? = some a := fun n a e => by rw [hl]; exact e
  cases o with
  | lst ds => obtain ⟨vs, q, r⟩ := h; exact ⟨vs, by rw [ha]; exact q, r.mono hp hs⟩
  | dK ks ds => obtain ⟨vs, q, q2, r⟩ := h; exact ⟨vs, by rw [ha]; exact q, q2, r.mono hp hs⟩
  | dT ks ds => obtain ⟨vs, q, q2, r⟩ := h; exact ⟨vs, by rw [ha]; exact q, q2, r.mono hp hs⟩
  | dL ks ds => obtain ⟨vs, o, q0, q, q2, r⟩ := h; exact ⟨vs, o, by rw [hk]; exact q0, by rw [ha]; exact q, q2, r.mono hp hs⟩
  | ins c ns ds =>
    obtain ⟨dx, fs, q, q1, q2, r⟩ := h
    refine ⟨dx, fs, by rw [ha]; exact q, ?_, q2, r.mono hp hs⟩
    exact Fz_same _ _ _ _ (hs dx _ (by rw [Fz_out (d.notOwn q1)]; exact q1))
theorem Den.hide {io : Io} {S : Store} {H : Hp} {p : Addr} {o : HO} (d : Den K C io S H) (h : H p = none) (m : isMut o = true) : Den K C (io.hide p o) S (upd H p o) := by
  have hs : Same (Fz io H) (Fz (io.hide p o) (upd H p o)) := by rw [Fz_hide h]; exact fun _ _ e => e
  refine ⟨d.len, nodup_hide d.nd (d.fresh h), fun n x a e1 e2 => ?_, fun q hq => ?_⟩
  · have e : a ≠ p := fun z => d.fresh h (z ▸ mem_all (show io.l[n]? = some a from e2))
    exact (d.obj n x a e1 e2).same d rfl rfl hs (upd_ne e)
  · have hq' : q = (p, o) ∨ q ∈ io.h := List.mem_cons.mp hq
    rcases hq' with rfl | hq'
    · exact ⟨upd_same, m⟩
    · have e : q.1 ≠ p := fun z => d.fresh h (z ▸ hid_mem hq')
      rw [upd_ne e]; exact d.hid q hq'
theorem Den.rehide {io : Io} {S : Store} {H : Hp} {p : Addr} {o o' : HO} (d : Den K C (io.hide p o) S H) (m : isMut o' = true) : Den K C (io.hide p o') S (upd H p o') := by
  have hs : Same (Fz (io.hide p o) H) (Fz (io.hide p o') (upd H p o')) := by rw [Fz_hide_put (o := o)]; exact fun _ _ e => e
  have nd := List.nodup_append.mp d.nd
  have nd2 : p ∉ io.h.map (·.1) ∧ _ := List.nodup_cons.mp (show (p :: io.h.map (·.1)).Nodup from nd.2.1)
  refine ⟨d.len, d.nd, fun n x a e1 e2 => ?_, fun q hq => ?_⟩
  · have e : a ≠ p := fun z => nd.2.2 a (List.mem_of_getElem? e2) p (by simp [Io.hide]) z
    exact (d.obj n x a e1 e2).same d rfl rfl hs (upd_ne e)
  · have hq' : q = (p, o') ∨ q ∈ io.h := List.mem_cons.mp hq
    rcases hq' with rfl | hq'
    · exact ⟨upd_same, m⟩
    · have e : q.1 ≠ p := fun z => nd2.1 (z ▸ List.mem_map.mpr ⟨q, hq', rfl⟩)
      rw [upd_ne e]; exact d.hid q (List.mem_cons_of_mem _ hq')
theorem Fz_unhide {io : Io} {H : Hp} {p : Addr} {o : HO} (hp : p ∉ io.all) (e : H p = some o) : Same (Fz (io.hide p o) H) (Fz io H) ∧ Fz io H p = some o := by
  refine ⟨fun b u q => ?_, by rw [Fz_out hp]; exact e⟩
  unfold Fz at q ⊢
  simp only [mem_hide] at q
  by_cases hb : b ∈ io.all
  · simp [hb] at q
  · simp only [hb, or_false, if_false] at q ⊢
    split at q
    · cases q
    · exact q
theorem Den.unhide {io : Io} {S : Store} {H : Hp} {p : Addr} {o : HO} (d : Den K C (io.hide p o) S H) : Den K C io S H ∧ p ∉ io.all ∧ H p = some o := by
  have nd := List.nodup_append.mp d.nd
  have nd2 : p ∉ io.h.map (·.1) ∧ (io.h.map (·.1)).Nodup := List.nodup_cons.mp (show (p :: io.h.map (·.1)).Nodup from nd.2.1)
  have hp : p ∉ io.all := fun z => by
    rcases List.mem_append.mp z with z | z
    · exact nd.2.2 p z p (by simp [Io.hide]) rfl
    · exact nd2.1 z
  have e : H p = some o := (d.hid (p, o) List.mem_cons_self).1
  refine ⟨⟨d.len, ?_, fun n x a e1 e2 => ?_, fun q hq => d.hid q (List.mem_cons_of_mem _ hq)⟩, hp, e⟩
  · unfold Io.all
    rw [List.nodup_append]
    exact ⟨nd.1, nd2.2, fun a ha b hb => nd.2.2 a ha b (List.mem_cons_of_mem _ hb)⟩
  · exact (d.obj n x a e1 e2).same d rfl rfl (Fz_unhide hp e).1 rfl
end Ev
namespace Ev
open PySem PySem.Spec L2
structure Slots (K : PySem.W.Frag) (C : Nat → Addr) (io : Io) (F : Hp) (e : Env) (sg : St) : Prop where
  len : e.length = sg.length
  get : ∀ (i : Nat) (d : D), e[i]? = some (some d) → ∃ v, sg[i]? = some (some v) ∧ Rep K C io F d v
theorem Slots.ext {K : PySem.W.Frag} {C : Nat → Addr} {io io' : Io} {H H' : Hp} {e : Env} {sg : St} (x : Ext io H io' H') (s : Slots K C io (Fz io H) e sg) : Slots K C io' (Fz io' H') e sg :=
  ⟨s.len, fun i d h => let ⟨v, h1, h2⟩ := s.get i d h; ⟨v, h1, h2.ext x⟩⟩
theorem Slots.set {K : PySem.W.Frag} {C : Nat → Addr} {io : Io} {F : Hp} {e : Env} {sg : St} {d : D} {v : V} (s : Slots K C io F e sg) (i : Nat) (r : Rep K C io F d v) : Slots K C io F (e.set i (some d)) (sg.set i (some v)) := by
  refine ⟨by simp [s.len], fun j x h => ?_⟩
  by_cases hj : j = i
  · subst hj
    by_cases hl : j < e.length
    · rw [List.getElem?_set_self hl] at h
      cases h
      exact ⟨v, by rw [List.getElem?_set_self (by rw [← s.len]; exact hl)], r⟩
    · rw [List.getElem?_eq_none (by simp; omega)] at h; cases h
  · rw [List.getElem?_set_ne (Ne.symm hj)] at h
    obtain ⟨u, h1, h2⟩ := s.get j x h
    exact ⟨u, by rw [List.getElem?_set_ne (Ne.symm hj)]; exact h1, h2⟩
theorem Slots.none {K : PySem.W.Frag} {C : Nat → Addr} {io : Io} {F : Hp} {e : Env} {sg : St} (s : Slots K C io F e sg) (i : Nat) : Slots K C io F (e.set i none) (sg.set i none) := by
  refine ⟨by simp [s.len], fun j x h => ?_⟩
  by_cases hj : j = i
  · subst hj
    by_cases hl : j < e.length
    · rw [List.getElem?_set_self hl] at h; cases h
    · rw [List.getElem?_eq_none (by simp; omega)] at h; cases h
  · rw [List.getElem?_set_ne (Ne.symm hj)] at h
    obtain ⟨u, h1, h2⟩ := s.get j x h
    exact ⟨u, by rw [List.getElem?_set_ne (Ne.symm hj)]; exact h1, h2⟩
def XR (K : PySem.W.Frag) (C : Nat → Addr) (io : Io) (H : Hp) (x : Exn) (cls : Value) (dd : Option Addr) : Prop :=
  cls = .ref (C x.c) ∧ ((x.ns = [] ∧ x.xs = [] ∧ dd = none) ∨ ∃ d fs, dd = some d ∧ H d = some (.xd fs) ∧ fs.map (·.1) = x.ns ∧ Reps K C io (Fz io H) x.xs (fs.map (·.2)))
def Post {A B : Type} (K : PySem.W.Frag) (C : Nat → Addr) (R : Io → Hp → A → B → Prop) (W : WX) (sg : St) (io : Io) (H : Hp) (r : Res A) (Q : B → Hp → Prop) : Prop :=
  match r with
  | .ok a S => ∀ b H' io', Ext io H io' H' → Den K C io' S H' → R io' (Fz io' H') a b → Q b H'
  | .err x S => ∀ cls dd H' io', Ext io H io' H' → Den K C io' S H' → XR K C io' H' x cls dd → W cls dd sg H'
  | .bad => False
abbrev RepR (K : PySem.W.Frag) (C : Nat → Addr) : Io → Hp → D → V → Prop := fun io F d v => Rep K C io F d v
abbrev RepsR (K : PySem.W.Frag) (C : Nat → Addr) : Io → Hp → List D → List V → Prop := fun io F d v => Reps K C io F d v
abbrev EqR {A : Type} : Io → Hp → A → A → Prop := fun _ _ a b => a = b
section
variable {K : PySem.W.Frag} {C : Nat → Addr} {A B A' B' : Type} {R : Io → Hp → A → B → Prop} {R' : Io → Hp → A' → B' → Prop} {W : WX} {sg : St} {io io' : Io} {H H' : Hp} {r : Res A} {Q Q' : B → Hp → Prop}
theorem Post.ext (e : Ext io H io' H') (h : Post K C R W sg io H r Q) : Post K C R W sg io' H' r Q := by
  cases r with
  | ok a S => exact fun b H2 io2 x d q => h b H2 io2 (e.trans x) d q
  | err x S => exact fun c dd H2 io2 x' d q => h c dd H2 io2 (e.trans x') d q
  | bad => exact h
theorem Post.mono (h : Post K C R W sg io H r Q) (m : ∀ b H', Q b H' → Q' b H') : Post K C R W sg io H r Q' := by
  cases r with
  | ok a S => exact fun b H2 io2 x d q => m _ _ (h b H2 io2 x d q)
  | err x S => exact h
  | bad => exact h
theorem Post.bind {k : A → Store → Res A'} {Q : B' → Hp → Prop} (h : Post K C R' W sg io H (r.bind k) Q) :
    Post K C R W sg io H r (fun b H1 => ∃ io1 S1 a, Ext io H io1 H1 ∧ Den K C io1 S1 H1 ∧ R io1 (Fz io1 H1) a b ∧ Post K C R' W sg io1 H1 (k a S1) Q) := by
  cases r with
  | ok a S => exact fun b H2 io2 x d q => ⟨io2, S, a, x, d, q, Post.ext x h⟩
  | err x S => exact h
  | bad => exact h
theorem Post.ofO {o : Option A} {S : Store} (h : Post K C R W sg io H (ofO o S) Q) : ∃ a, o = some a ∧ ∀ b H' io', Ext io H io' H' → Den K C io' S H' → R io' (Fz io' H') a b → Q b H' := by
  cases o with
  | some a => exact ⟨a, rfl, h⟩
  | none => exact h.elim
theorem Post.here {a : A} {S : Store} {b : B} (h : Post K C R W sg io H (.ok a S) Q) (d : Den K C io S H) (q : R io (Fz io H) a b) : Q b H := h b H io (Ext.refl io H) d q
end
abbrev RE := Env → Store → Res D
abbrev RT := Env → Store → Res Bool
abbrev RA := Env → Store → Res (List D)
def tR {A B : Type} (K : PySem.W.Frag) (C : Nat → Addr) (R : Io → Hp → A → B → Prop) (W : WX) (r : Env → Store → Res A) : St → Hp → (B → Hp → Prop) → Prop := fun sg H Q =>
  ∃ (e : Env) (S : Store) (io : Io), Den K C io S H ∧ Slots K C io (Fz io H) e sg ∧ Post K C R W sg io H (r e S) Q
abbrev tE (K : PySem.W.Frag) (C : Nat → Addr) (W : WX) (r : RE) : TE := tR K C (RepR K C) W r
abbrev tT (K : PySem.W.Frag) (C : Nat → Addr) (W : WX) (r : RT) : TT := tR K C EqR W r
abbrev tA (K : PySem.W.Frag) (C : Nat → Addr) (W : WX) (r : RA) : TA := tR K C (RepsR K C) W r
section
variable {K : PySem.W.Frag} {C : Nat → Addr} {A B A' B' A2 B2 : Type} {R : Io → Hp → A → B → Prop} {R' : Io → Hp → A' → B' → Prop} {R2 : Io → Hp → A2 → B2 → Prop} {W : WX} {sg : St} {H : Hp}
theorem tR.mono {r : Env → Store → Res A} {Q Q' : B → Hp → Prop} (h : tR K C R W r sg H Q) (m : ∀ b H', Q b H' → Q' b H') : tR K C R W r sg H Q' := by
  obtain ⟨e, S, io, d, s, p⟩ := h
  exact ⟨e, S, io, d, s, p.mono m⟩
theorem tR.seq1 {r : Env → Store → Res A} {r' : Env → Store → Res A'} {Q : B' → Hp → Prop} (k : Env → A → Store → Res A') (h : tR K C R' W r' sg H Q) (e' : ∀ e S, r' e S = (r e S).bind (k e)) :
    tR K C R W r sg H fun b H1 => ∃ e S io a, Den K C io S H1 ∧ Slots K C io (Fz io H1) e sg ∧ R io (Fz io H1) a b ∧ Post K C R' W sg io H1 (k e a S) Q := by
  obtain ⟨e, S, io, d, s, p⟩ := h
  rw [e'] at p
  exact ⟨e, S, io, d, s, p.bind.mono fun b H1 ⟨io1, S1, a, x, d1, q, p1⟩ => ⟨e, S1, io1, a, d1, s.ext x, q, p1⟩⟩
theorem tR.seq2 {r : Env → Store → Res A} {r2 : Env → Store → Res A2} {r' : Env → Store → Res A'} (hm : ∀ {io io' H H' a b}, Ext io H io' H' → R io (Fz io H) a b → R io' (Fz io' H') a b) {Q : B' → Hp → Prop} (k : Env → A → A2 → Store → Res A')
    (h : tR K C R' W r' sg H Q) (e' : ∀ e S, r' e S = (r e S).bind fun a S1 => (r2 e S1).bind (k e a)) :
    tR K C R W r sg H fun b H1 => tR K C R2 W r2 sg H1 fun b2 H2 => ∃ e S io a a2, Den K C io S H2 ∧ Slots K C io (Fz io H2) e sg ∧ R io (Fz io H2) a b ∧ R2 io (Fz io H2) a2 b2 ∧ Post K C R' W sg io H2 (k e a a2 S) Q := by
  obtain ⟨e, S, io, d, s, p⟩ := h
  rw [e'] at p
  refine ⟨e, S, io, d, s, p.bind.mono fun b H1 ⟨io1, S1, a, x, d1, q, p1⟩ => ?_⟩
  exact ⟨e, S1, io1, d1, s.ext x, p1.bind.mono fun b2 H2 ⟨io2, S2, a2, x2, d2, q2, p2⟩ => ⟨e, S2, io2, a, a2, d2, (s.ext x).ext x2, hm x2 q, q2, p2⟩⟩
theorem bind_assoc {A B E : Type} (r : Res A) (f : A → Store → Res B) (g : B → Store → Res E) : (r.bind f).bind g = r.bind fun a S => (f a S).bind g := by cases r <;> rfl
end
theorem repM {K : PySem.W.Frag} {C : Nat → Addr} {io io' : Io} {H H' : Hp} {a : D} {b : V} (x : Ext io H io' H') (h : RepR K C io (Fz io H) a b) : RepR K C io' (Fz io' H') a b := Rep.ext x h
theorem _root_.L2.PE.imp {X : Cx} {e : Expr} {t t' : TE} (h : PE X e t) (hi : ∀ sg H Q, t' sg H Q → t sg H Q) : PE X e t' := ⟨fun pins s sg H Q I hw => h.run pins s sg H Q I (hi _ _ _ hw)⟩
theorem _root_.L2.PT.imp {X : Cx} {e : Expr} {t t' : TT} (h : PT X e t) (hi : ∀ sg H Q, t' sg H Q → t sg H Q) : PT X e t' := ⟨fun pins s sg H Q I hw => h.run pins s sg H Q I (hi _ _ _ hw)⟩
theorem _root_.L2.PW.imp {X : Cx} {e : Expr} {t t' : TT} (h : PW X e t) (hi : ∀ sg H Q, t' sg H Q → t sg H Q) : PW X e t' := ⟨fun wh pins s sg H Q I hw => h.run wh pins s sg H Q I (hi _ _ _ hw)⟩
theorem _root_.L2.PA.imp {X : Cx} {e : List Expr} {t t' : TA} (h : PA X e t) (hi : ∀ sg H Q, t' sg H Q → t sg H Q) : PA X e t' := ⟨fun p pins s sg H Q I hw => h.run p pins s sg H Q I (hi _ _ _ hw)⟩
theorem _root_.L2.PS.imp {X : Cx} {e : Stmt} {t t' : TS} (h : PS X e t) (hi : ∀ D sg H, t' D sg H → t D sg H) : PS X e t' := ⟨fun pins s sg H D I hw => h.run pins s sg H D I (hi _ _ _ hw)⟩
theorem _root_.L2.PSs.imp {X : Cx} {e : List Stmt} {t t' : TS} (h : PSs X e t) (hi : ∀ D sg H, t' D sg H → t D sg H) : PSs X e t' := ⟨fun pins s sg H D I hw => h.run pins s sg H D I (hi _ _ _ hw)⟩
theorem _root_.L2.PE.or {X : Cx} {e : Expr} {t t' : TE} (h : PE X e t) (h' : PE X e t') : PE X e (fun sg H Q => t sg H Q ∨ t' sg H Q) := ⟨fun pins s sg H Q I hw => hw.elim (h.run pins s sg H Q I) (h'.run pins s sg H Q I)⟩
def OpD (X : Cx) (C : Nat → Addr) (g : Value → Value → Sem Value) (f : Store → D → D → Option D) : Prop :=
  OpR X g (fun x y H Q => ∃ io S a b d, Den X.K C io S H ∧ Rep X.K C io (Fz io H) a x ∧ Rep X.K C io (Fz io H) b y ∧ f S a b = some d ∧ ∀ v H' io', Ext io H io' H' → Den X.K C io' S H' → Rep X.K C io' (Fz io' H') d v → Q v H')
def UnD (X : Cx) (C : Nat → Addr) (g : Value → Sem Value) (f : Store → D → Option D) : Prop :=
  UnR X g (fun x H Q => ∃ io S a d, Den X.K C io S H ∧ Rep X.K C io (Fz io H) a x ∧ f S a = some d ∧ ∀ v H' io', Ext io H io' H' → Den X.K C io' S H' → Rep X.K C io' (Fz io' H') d v → Q v H')
def CallD (X : Cx) (C : Nat → Addr) (g : Value) (f : Store → List D → Option D) : Prop :=
  CallR X g (fun xs H Q => ∃ io S as d, Den X.K C io S H ∧ Reps X.K C io (Fz io H) as xs ∧ f S as = some d ∧ ∀ v H' io', Ext io H io' H' → Den X.K C io' S H' → Rep X.K C io' (Fz io' H') d v → Q v H')
def rBin (f : Store → D → D → Option D) (a b : RE) : RE := fun e S => (a e S).bind fun x S1 => (b e S1).bind fun y S2 => ofO (f S2 x y) S2
def rUn (f : Store → D → Option D) (a : RE) : RE := fun e S => (a e S).bind fun x S1 => ofO (f S1 x) S1
def rCal (f : Store → List D → Option D) (a : RA) : RE := fun e S => (a e S).bind fun xs S1 => ofO (f S1 xs) S1
section
variable {X : Cx} {C : Nat → Addr} {W : WX} {a b : Expr} {ra rb : RE} {pos : Pos}
theorem ee_op {op : Operator} {f : Store → D → D → Option D} (ho : OpD X C (binaryOp op) f) (ha : PE X a (tE X.K C W ra)) (hb : PE X b (tE X.K C W rb)) : PE X (.BinOp a op b pos) (tE X.K C W (rBin f ra rb)) :=
  (pe_op ho ha hb).imp fun sg H Q h => (tR.seq2 repM (fun _ x y S => ofO (f S x y) S) h fun _ _ => rfl).mono fun x H1 h1 => h1.mono fun y H2 ⟨e, S, io, x1, y1, d, s, r1, r2, p⟩ => by
    obtain ⟨z, ez, p⟩ := p.ofO
    exact ⟨io, S, x1, y1, z, d, r1, r2, ez, p⟩
theorem ee_un {op : UnaryOp} {f : Store → D → Option D} (ho : UnD X C (unaryOp op) f) (ha : PE X a (tE X.K C W ra)) : PE X (.UnaryOp op a pos) (tE X.K C W (rUn f ra)) :=
  (pe_un ho ha).imp fun sg H Q h => (tR.seq1 (fun _ x S => ofO (f S x) S) h fun _ _ => rfl).mono fun x H1 ⟨e, S, io, x1, d, s, r1, p⟩ => by
    obtain ⟨z, ez, p⟩ := p.ofO
    exact ⟨io, S, x1, z, d, r1, ez, p⟩
theorem ee_cmp {op : CmpOp} {f : Store → D → D → Option D} (ho : OpD X C (compareOp op) f) (ha : PE X a (tE X.K C W ra)) (hb : PE X b (tE X.K C W rb)) (hm : behindInMarks op b = false) : PE X (.Compare a [op] [b] pos) (tE X.K C W (rBin f ra rb)) :=
  (pe_cmpR ho ha hb hm).imp fun sg H Q h => (tR.seq2 repM (fun _ x y S => ofO (f S x y) S) h fun _ _ => rfl).mono fun x H1 h1 => h1.mono fun y H2 ⟨e, S, io, x1, y1, d, s, r1, r2, p⟩ => by
    obtain ⟨z, ez, p⟩ := p.ofO
    exact ⟨io, S, x1, y1, z, d, r1, r2, ez, p⟩
def asB : D → Option Bool
  | .bl b => some b
  | _ => none
def rTest (a : RE) : RT := fun e S => (a e S).bind fun x S1 => ofO (asB x) S1
theorem asB_rep {K : PySem.W.Frag} {C : Nat → Addr} {io : Io} {F : Hp} {d : D} {v : V} {k : Bool} (h : asB d = some k) (r : Rep K C io F d v) : v = .bl k := by
  cases d <;> cases h
  cases r
  rfl
theorem tTest_of {t : TE} {r : RE} (h1 : ∀ sg H Q, tE X.K C W r sg H Q → t sg H Q) (sg : L2.St) (H : Hp) (Q : Bool → Hp → Prop) (h : tT X.K C W (rTest r) sg H Q) : tTest t sg H Q :=
  h1 sg H _ ((tR.seq1 (R := RepR X.K C) (r := r) (fun _ x S => ofO (asB x) S) h fun _ _ => rfl).mono fun x H1 ⟨e, S, io, x1, d, s, r1, p⟩ => by
    obtain ⟨k, ek, p⟩ := p.ofO
    exact ⟨k, asB_rep ek r1, p k H1 io (Ext.refl _ _) d rfl⟩)
theorem et_cmp {op : CmpOp} {f : Store → D → D → Option D} (ho : OpD X C (compareOp op) f) (ha : PE X a (tE X.K C W ra)) (hb : PE X b (tE X.K C W rb)) (hm : behindInMarks op b = false) : PT X (.Compare a [op] [b] pos) (tT X.K C W (rTest (rBin f ra rb))) :=
  (pt_cmpR ho ha hb hm).imp (tTest_of fun sg H Q h => (tR.seq2 repM (fun _ x y S => ofO (f S x y) S) h fun _ _ => rfl).mono fun x H1 h1 => h1.mono fun y H2 ⟨e, S, io, x1, y1, d, s, r1, r2, p⟩ => by
    obtain ⟨z, ez, p⟩ := p.ofO
    exact ⟨io, S, x1, y1, z, d, r1, r2, ez, p⟩)
end
end Ev
namespace Ev
open PySem PySem.Spec L2
def rVar (i : Nat) : RE := fun e S => match e[i]? with
  | some (some d) => .ok d S
  | _ => .bad
def rCon (d : D) : RE := fun _ S => .ok d S
section
variable {X : Cx} {C : Nat → Addr} {W : WX}
theorem ee_var (i : Nat) {x : Str} {pos : Pos} (hN : X.N[i]? = some x := by rfl) (hv : Vis X.env.scope x := by first | exact Or.inl rfl | exact Or.inr (Or.inl rfl) | exact Or.inr (Or.inr rfl)) (hd : (x == ("__debug__" : Str)) = false := by decide)
    (hcd : (x == ("__classdict__" : Str)) = false := by decide) : PE X (.Name x pos) (tE X.K C W (rVar i)) :=
  (pv i hN hv hd hcd).imp fun sg H Q h => by
    obtain ⟨e, S, io, d, s, p⟩ := h
    unfold rVar at p
    split at p
    · rename_i y ey
      obtain ⟨v, h1, h2⟩ := s.get i y ey
      exact ⟨v, h1, p.here d h2⟩
    · exact p.elim
theorem ee_con {v : V} {d : D} {e : Expr} (h : PE X e (tC v)) (r : ∀ io F, Rep X.K C io F d v) : PE X e (tE X.K C W (rCon d)) :=
  h.imp fun sg H Q h => by
    obtain ⟨e, S, io, d, s, p⟩ := h
    exact p.here d (r _ _)
theorem ee_int {i j pos} : PE X (.Constant (.int i) j pos) (tE X.K C W (rCon (.int i))) := ee_con pe_int fun _ _ => .int i
theorem ee_bl {i j pos} : PE X (.Constant (.bool i) j pos) (tE X.K C W (rCon (.bl i))) := ee_con pe_bl fun _ _ => .bl i
theorem ee_str {i j pos} : PE X (.Constant (.str i) j pos) (tE X.K C W (rCon (.str i))) := ee_con pe_str fun _ _ => .str i
theorem ee_non {j pos} : PE X (.Constant .none j pos) (tE X.K C W (rCon .non)) := ee_con pe_non fun _ _ => .non
theorem ee_glob {x : Str} {v : V} {u : Value} {d : D} {pos : Pos} (hg : Gl X x) (hm : X.mg x = some u) (r : RelV v u) (rd : ∀ io F, Rep X.K C io F d v) (hd : (x == ("__debug__" : Str)) = false := by decide) : PE X (.Name x pos) (tE X.K C W (rCon d)) :=
  ee_con (pe_glob hg hm r hd) rd
end
def asL (S : Store) : D → Option (List D)
  | .lst xs => some xs
  | .loc n => match S[n]? with
    | some (.lst xs) => some xs
    | _ => none
  | _ => none
theorem asL_rep {K : PySem.W.Frag} {C : Nat → Addr} {io : Io} {S : Store} {H : Hp} {d : D} {v : V} {xs : List D} (h : asL S d = some xs) (dn : Den K C io S H) (r : Rep K C io (Fz io H) d v) :
    ∃ a vs, v = .ref a ∧ SqL K H a vs ∧ Reps K C io (Fz io H) xs vs := by
  cases r with
  | lst q rs => cases h; exact ⟨_, _, rfl, (Fz_same _ _).seq q, rs⟩
  | @loc n a q =>
    simp only [asL] at h
    split at h
    · rename_i ys e
      cases h
      obtain ⟨vs, h1, h2⟩ := dn.obj n _ a e q
      exact ⟨a, vs, rfl, .of h1, h2⟩
    · cases h
  | _ => cases h
theorem SqL.len {X : Cx} {pins : List (Addr × Obj)} {sg : L2.St} {H : Hp} {s : Shared} {a : Addr} {vs : List V} (I : Inv X pins sg H s) (h : SqL X.K H a vs) : vs.length ≤ sizeLine := let ⟨_, _, _, z⟩ := I.list h; z
def truthD (S : Store) : D → Option Bool
  | .non => some false
  | .bl b => some b
  | .int i => some (i != 0)
  | .str x => if x.length ≤ sizeLine then some ((x.length : Int) != 0) else none
  | .tup xs => some (!xs.isEmpty)
  | .lst xs => some (!xs.isEmpty)
  | .dct ks _ => some (!ks.isEmpty)
  | .loc n => match S[n]? with
    | some (.lst xs) => some (!xs.isEmpty)
    | some (.dK ks _) => some (!ks.isEmpty)
    | _ => none
  | .exn _ _ _ => none
  | .dcf _ _ => none
  | .dcT _ _ => none
theorem isEmpty_len {A B : Type} {xs : List A} {ys : List B} (h : xs.length = ys.length) : xs.isEmpty = ys.isEmpty := by
  cases xs <;> cases ys <;> first | rfl | cases h
theorem truth_rep {K : PySem.W.Frag} {C : Nat → Addr} {io : Io} {S : Store} {H : Hp} {d : D} {v : V} {k : Bool} (h : truthD S d = some k) (dn : Den K C io S H) (r : Rep K C io (Fz io H) d v) : TruV K v H k := by
  cases r with
  | non => cases h; rfl
  | bl => cases h; rfl
  | int => cases h; rfl
  | str x =>
    simp only [truthD] at h
    split at h
    · cases h; exact ⟨by assumption, rfl⟩
    · cases h
  | tup q rs => cases h; exact .inr (.inl ⟨_, sqT_same (Fz_same _ _) q, by rw [isEmpty_len rs.length]⟩)
  | lst q rs => cases h; exact .inl ⟨_, (Fz_same _ _).seq q, by rw [isEmpty_len rs.length]⟩
  | dcf _ _ _ _ => cases h
  | dcT _ _ _ _ => cases h
  | dct q e1 e2 rs => cases h; subst e1; exact .inr (.inr ⟨_, Fz_same _ _ _ _ q, by rw [isEmpty_len (List.length_map ..)]⟩)
  | @loc n a q =>
    simp only [truthD] at h
    split at h
    · rename_i ys e
      cases h
      obtain ⟨vs, h1, h2⟩ := dn.obj n _ a e q
      exact .inl ⟨vs, .of h1, by rw [isEmpty_len h2.length]⟩
    · rename_i ks ys e
      cases h
      obtain ⟨kvs, h1, h2, h3⟩ := dn.obj n _ a e q
      subst h2
      exact .inr (.inr ⟨kvs, h1, by rw [isEmpty_len (List.length_map ..)]⟩)
    · cases h
  | exn0 => cases h
  | exnF => cases h
def rTruth (a : RE) : RT := fun e S => (a e S).bind fun x S1 => ofO (truthD S1 x) S1
def rAndT (a b : RT) : RT := fun e S => (a e S).bind fun k S1 => if k = true then b e S1 else .ok false S1
def rOrT (a b : RT) : RT := fun e S => (a e S).bind fun k S1 => if k = true then .ok true S1 else b e S1
def rNotT (a : RT) : RT := fun e S => (a e S).bind fun k S1 => .ok (!k) S1
def rAnd (a b : RE) : RE := fun e S => (a e S).bind fun x S1 => (ofO (truthD S1 x) S1).bind fun k S2 => if k = true then b e S2 else .ok x S2
def rOr (a b : RE) : RE := fun e S => (a e S).bind fun x S1 => (ofO (truthD S1 x) S1).bind fun k S2 => if k = true then .ok x S2 else b e S2
def rNot (a : RE) : RE := fun e S => (a e S).bind fun x S1 => (ofO (truthD S1 x) S1).bind fun k S2 => .ok (.bl (!k)) S2
def rIf (t : RT) (a b : RE) : RE := fun e S => (t e S).bind fun k S1 => if k = true then a e S1 else b e S1
section
variable {X : Cx} {C : Nat → Addr} {W : WX} {a b c : Expr} {ra rb : RE} {ta tb tc : RT} {rest : List Expr} {pos : Pos}
theorem et_val (ha : PE X a (tE X.K C W ra)) (he : ∀ whole, isTrue a X.env whole = (do let v ← whole; standAt a.pos; holding [v] (truthy v)) := by intro _; rfl) : PT X a (tT X.K C W (rTruth ra)) :=
  (pt_truth ha he).imp fun sg H Q h => (tR.seq1 (fun _ x S => ofO (truthD S x) S) h fun _ _ => rfl).mono fun x H1 ⟨e, S, io, x1, d, s, r1, p⟩ => by
    obtain ⟨k, ek, p⟩ := p.ofO
    exact ⟨k, truth_rep ek d r1, p k H1 io (Ext.refl _ _) d rfl⟩
theorem et_and1 (ha : PT X a (tT X.K C W ta)) : PW X (.BoolOp .And [a] pos) (tT X.K C W ta) := pw_and1 ha
theorem et_or1 (ha : PT X a (tT X.K C W ta)) : PW X (.BoolOp .Or [a] pos) (tT X.K C W ta) := pw_or1 ha
theorem et_and (ha : PT X a (tT X.K C W ta)) (hb : PW X (.BoolOp .And (b :: rest) pos) (tT X.K C W tb)) : PW X (.BoolOp .And (a :: b :: rest) pos) (tT X.K C W (rAndT ta tb)) :=
  (pw_and ha hb).imp fun sg H Q h => (tR.seq1 (R := EqR) (fun e k S1 => if k = true then tb e S1 else .ok false S1) h fun _ _ => rfl).mono fun x H1 ⟨e, S, io, x1, d, s, r1, p⟩ => by
    cases r1
    cases x with
    | true => exact ⟨e, S, io, d, s, p⟩
    | false => exact p false H1 io (Ext.refl _ _) d rfl
theorem et_or (ha : PT X a (tT X.K C W ta)) (hb : PW X (.BoolOp .Or (b :: rest) pos) (tT X.K C W tb)) : PW X (.BoolOp .Or (a :: b :: rest) pos) (tT X.K C W (rOrT ta tb)) :=
  (pw_or ha hb).imp fun sg H Q h => (tR.seq1 (R := EqR) (fun e k S1 => if k = true then .ok true S1 else tb e S1) h fun _ _ => rfl).mono fun x H1 ⟨e, S, io, x1, d, s, r1, p⟩ => by
    cases r1
    cases x with
    | true => exact p true H1 io (Ext.refl _ _) d rfl
    | false => exact ⟨e, S, io, d, s, p⟩
theorem et_not (ha : PT X a (tT X.K C W ta)) : PT X (.UnaryOp .Not a pos) (tT X.K C W (rNotT ta)) :=
  (pt_not ha).imp fun sg H Q h => (tR.seq1 (R := EqR) (fun e k S1 => .ok (!k) S1) h fun _ _ => rfl).mono fun x H1 ⟨e, S, io, x1, d, s, r1, p⟩ => by
    cases r1
    exact p _ H1 io (Ext.refl _ _) d rfl
theorem ee_one {op} (h : PE X a (tE X.K C W ra)) : PE X (.BoolOp op [a] pos) (tE X.K C W ra) := pe_one h
theorem ee_and (ha : PE X a (tE X.K C W ra)) (hb : PE X (.BoolOp .And (b :: rest) pos) (tE X.K C W rb)) : PE X (.BoolOp .And (a :: b :: rest) pos) (tE X.K C W (rAnd ra rb)) :=
  (pe_andT ha hb).imp fun sg H Q h => (tR.seq1 (R := RepR X.K C) (fun e x S1 => (ofO (truthD S1 x) S1).bind fun k S2 => if k = true then rb e S2 else .ok x S2) h fun _ _ => rfl).mono fun x H1 ⟨e, S, io, x1, d, s, r1, p⟩ => by
    cases ek : truthD S x1 with
    | none => simp only [ek, ofO, Res.bind] at p; exact p.elim
    | some k =>
      simp only [ek, ofO, Res.bind] at p
      refine ⟨k, truth_rep ek d r1, ?_⟩
      cases k with
      | true => exact ⟨e, S, io, d, s, p⟩
      | false => exact p _ H1 io (Ext.refl _ _) d r1
theorem ee_or (ha : PE X a (tE X.K C W ra)) (hb : PE X (.BoolOp .Or (b :: rest) pos) (tE X.K C W rb)) : PE X (.BoolOp .Or (a :: b :: rest) pos) (tE X.K C W (rOr ra rb)) :=
  (pe_orT ha hb).imp fun sg H Q h => (tR.seq1 (R := RepR X.K C) (fun e x S1 => (ofO (truthD S1 x) S1).bind fun k S2 => if k = true then .ok x S2 else rb e S2) h fun _ _ => rfl).mono fun x H1 ⟨e, S, io, x1, d, s, r1, p⟩ => by
    cases ek : truthD S x1 with
    | none => simp only [ek, ofO, Res.bind] at p; exact p.elim
    | some k =>
      simp only [ek, ofO, Res.bind] at p
      refine ⟨k, truth_rep ek d r1, ?_⟩
      cases k with
      | true => exact p _ H1 io (Ext.refl _ _) d r1
      | false => exact ⟨e, S, io, d, s, p⟩
theorem ee_not (ha : PE X a (tE X.K C W ra)) : PE X (.UnaryOp .Not a pos) (tE X.K C W (rNot ra)) :=
  (pe_notT ha).imp fun sg H Q h => (tR.seq1 (R := RepR X.K C) (fun e x S1 => (ofO (truthD S1 x) S1).bind fun k S2 => .ok (.bl (!k)) S2) h fun _ _ => rfl).mono fun x H1 ⟨e, S, io, x1, d, s, r1, p⟩ => by
    cases ek : truthD S x1 with
    | none => simp only [ek, ofO, Res.bind] at p; exact p.elim
    | some k =>
      simp only [ek, ofO, Res.bind] at p
      exact ⟨k, truth_rep ek d r1, p _ H1 io (Ext.refl _ _) d (.bl _)⟩
theorem ee_if (hc : PT X c (tT X.K C W tc)) (ha : PE X a (tE X.K C W ra)) (hb : PE X b (tE X.K C W rb)) : PE X (.IfExp c a b pos) (tE X.K C W (rIf tc ra rb)) :=
  (pe_ifExp hc ha hb).imp fun sg H Q h => (tR.seq1 (R := EqR) (fun e k S1 => if k = true then ra e S1 else rb e S1) h fun _ _ => rfl).mono fun x H1 ⟨e, S, io, x1, d, s, r1, p⟩ => by
    cases r1
    cases x with
    | true => exact ⟨e, S, io, d, s, p⟩
    | false => exact ⟨e, S, io, d, s, p⟩
end
def rNil : RA := fun _ S => .ok [] S
def rCons (a : RE) (r : RA) : RA := fun e S => (a e S).bind fun x S1 => (r e S1).bind fun xs S2 => .ok (x :: xs) S2
def AL (n : Nat) (r : RA) : Prop := ∀ e S xs S', r e S = .ok xs S' → xs.length = n
theorem al_nil : AL 0 rNil := fun e S xs S' h => by cases h; rfl
theorem al_cons {n : Nat} {a : RE} {r : RA} (h : AL n r) : AL (n + 1) (rCons a r) := fun e S xs S' q => by
  unfold rCons at q
  cases h1 : a e S with
  | ok x S1 =>
    rw [h1] at q
    simp only [Res.bind] at q
    cases h2 : r e S1 with
    | ok ys S2 =>
      rw [h2] at q
      cases q
      simp [h e S1 ys _ h2]
    | err x S2 => rw [h2] at q; cases q
    | bad => rw [h2] at q; cases q
  | err x S1 => rw [h1] at q; cases q
  | bad => rw [h1] at q; cases q
def rTup (r : RA) : RE := fun e S => (r e S).bind fun xs S1 => .ok (.tup xs) S1
def rLst (r : RA) : RE := fun e S => (r e S).bind fun xs S1 => .ok (.lst xs) S1
def rLstM (r : RA) : RE := fun e S => (r e S).bind fun xs S1 => .ok (.loc S1.length) (S1 ++ [.lst xs])
section
variable {X : Cx} {C : Nat → Addr} {W : WX} {a : Expr} {es : List Expr} {ra : RE} {rs : RA} {pos : Pos}
theorem ea_nil : PA X [] (tA X.K C W rNil) := pa_nil.imp fun sg H Q h => by
  obtain ⟨e, S, io, d, s, p⟩ := h
  exact p.here d .nil
theorem ea_cons (ha : PE X a (tE X.K C W ra)) (hr : PA X es (tA X.K C W rs)) (hs : starEach (a :: es) X.env = (false, eval a X.env) :: starEach es X.env := by rfl) : PA X (a :: es) (tA X.K C W (rCons ra rs)) :=
  (pa_cons ha hr hs).imp fun sg H Q h => (tR.seq2 repM (fun _ x xs S => .ok (x :: xs) S) h fun _ _ => rfl).mono fun x H1 h1 => h1.mono fun y H2 ⟨e, S, io, x1, y1, d, s, r1, r2, p⟩ =>
    p _ H2 io (Ext.refl _ _) d (.cons r1 r2)
theorem new_tup {K : PySem.W.Frag} {C : Nat → Addr} {io : Io} {S : Store} {H : Hp} {xs : List D} {vs : List V} {p : Addr} (d : Den K C io S H) (r : Reps K C io (Fz io H) xs vs) (hp : H p = none) :
    Ext io H io (upd H p (.tup vs)) ∧ Den K C io S (upd H p (.tup vs)) ∧ Rep K C io (Fz io (upd H p (.tup vs))) (.tup xs) (.ref p) :=
  ⟨Ext.new d hp, d.new hp, .tup (.inl (.inl (by rw [Fz_out (d.fresh hp)]; exact upd_same))) (r.ext (Ext.new d hp))⟩
theorem new_lst {K : PySem.W.Frag} {C : Nat → Addr} {io : Io} {S : Store} {H : Hp} {xs : List D} {vs : List V} {p : Addr} (d : Den K C io S H) (r : Reps K C io (Fz io H) xs vs) (hp : H p = none) :
    Ext io H io (upd H p (.lst vs)) ∧ Den K C io S (upd H p (.lst vs)) ∧ Rep K C io (Fz io (upd H p (.lst vs))) (.lst xs) (.ref p) :=
  ⟨Ext.new d hp, d.new hp, .lst (.inl (.inl (by rw [Fz_out (d.fresh hp)]; exact upd_same))) (r.ext (Ext.new d hp))⟩
theorem new_lstM {K : PySem.W.Frag} {C : Nat → Addr} {io : Io} {S : Store} {H : Hp} {xs : List D} {vs : List V} {p : Addr} (d : Den K C io S H) (r : Reps K C io (Fz io H) xs vs) (hp : H p = none) :
    Ext io H (io.add p) (upd H p (.lst vs)) ∧ Den K C (io.add p) (S ++ [.lst xs]) (upd H p (.lst vs)) ∧ Rep K C (io.add p) (Fz (io.add p) (upd H p (.lst vs))) (.loc S.length) (.ref p) :=
  ⟨Ext.loc hp, d.loc hp ⟨vs, upd_same, r.ext (Ext.loc hp)⟩, .loc (by rw [← d.len]; show (io.l ++ [p])[io.l.length]? = some p; rw [List.getElem?_append_right (Nat.le_refl _)]; simp)⟩
theorem tA.alen {n : Nat} {K : PySem.W.Frag} {C : Nat → Addr} {sg : L2.St} {H : Hp} {Q : List V → Hp → Prop} (hn : AL n rs) (h : tA K C W rs sg H Q) : tA K C W rs sg H (fun vs H1 => vs.length = n ∧ Q vs H1) := by
  obtain ⟨e, S, io, d, s, p⟩ := h
  refine ⟨e, S, io, d, s, ?_⟩
  cases q : rs e S with
  | ok xs S1 =>
    rw [q] at p
    exact fun b H' io' x d' r => ⟨r.length.symm.trans (hn e S xs S1 q), p b H' io' x d' r⟩
  | err x S1 => rw [q] at p; exact p
  | bad => rw [q] at p; exact p
theorem ee_tup {n : Nat} {k} (h : PA X es (tA X.K C W rs)) (hn : AL n rs) (hz : n ≤ sizeLine := by decide) : PE X (.Tuple es k pos) (tE X.K C W (rTup rs)) :=
  (pe_tup h).imp fun sg H Q h => tR.mono (tA.alen hn (tR.seq1 (fun _ xs S => .ok (.tup xs) S) h fun _ _ => rfl)) fun vs H1 ⟨hl, e, S, io, xs, d, s, r1, p⟩ =>
    ⟨by rw [hl]; exact hz, fun q hq => let ⟨x, d', r'⟩ := new_tup d r1 hq; p _ _ _ x d' r'⟩
theorem ee_lst {n : Nat} (h : PA X es (tA X.K C W rs)) (hn : AL n rs) (hz : n ≤ sizeLine := by decide) : PE X (.List es pos) (tE X.K C W (rLst rs)) :=
  (pe_lst h).imp fun sg H Q h => tR.mono (tA.alen hn (tR.seq1 (fun _ xs S => .ok (.lst xs) S) h fun _ _ => rfl)) fun vs H1 ⟨hl, e, S, io, xs, d, s, r1, p⟩ =>
    ⟨by rw [hl]; exact hz, fun q hq => let ⟨x, d', r'⟩ := new_lst d r1 hq; p _ _ _ x d' r'⟩
theorem ee_lstM {n : Nat} (h : PA X es (tA X.K C W rs)) (hn : AL n rs) (hz : n ≤ sizeLine := by decide) : PE X (.List es pos) (tE X.K C W (rLstM rs)) :=
  (pe_lst h).imp fun sg H Q h => tR.mono (tA.alen hn (tR.seq1 (fun _ xs S => .ok (.loc S.length) (S ++ [.lst xs])) h fun _ _ => rfl)) fun vs H1 ⟨hl, e, S, io, xs, d, s, r1, p⟩ =>
    ⟨by rw [hl]; exact hz, fun q hq => let ⟨x, d', r'⟩ := new_lstM d r1 hq; p _ _ _ x d' r'⟩
end
end Ev
namespace Ev
open PySem PySem.Spec L2
section
variable {X : Cx} {C : Nat → Addr}
theorem opD_flat {g : Value → Value → Sem Value} {f : Store → D → D → Option D} {r : R2} (h : OpR X g r)
    (hf : ∀ io S H a b d x y, Den X.K C io S H → Rep X.K C io (Fz io H) a x → Rep X.K C io (Fz io H) b y → f S a b = some d → ∃ z, (∀ F, Rep X.K C io F d z) ∧ ∀ Q : VK, Q z H → r x y H Q) : OpD X C g f := by
  intro pins s sg H x y v u Q I rx ry ⟨io, S, a, b, d, dn, ra, rb, e, q⟩
  obtain ⟨z, rz, hq⟩ := hf io S H a b d x y dn ra rb e
  exact h pins s sg H x y v u Q I rx ry (hq Q (q z H io (Ext.refl _ _) dn (rz _)))
theorem OpD.or {g : Value → Value → Sem Value} {f f1 f2 : Store → D → D → Option D} (h1 : OpD X C g f1) (h2 : OpD X C g f2) (h : ∀ S a b d, f S a b = some d → f1 S a b = some d ∨ f2 S a b = some d) : OpD X C g f := by
  intro pins s sg H x y v u Q I rx ry ⟨io, S, a, b, d, dn, ra, rb, e, q⟩
  rcases h S a b d e with e | e
  · exact h1 pins s sg H x y v u Q I rx ry ⟨io, S, a, b, d, dn, ra, rb, e, q⟩
  · exact h2 pins s sg H x y v u Q I rx ry ⟨io, S, a, b, d, dn, ra, rb, e, q⟩
def i2 (c : Int → Int → Bool) (g : Int → Int → D) : Store → D → D → Option D
  | _, .int i, .int j => if c i j = true then some (g i j) else none
  | _, _, _ => none
theorem i2_some {c : Int → Int → Bool} {g : Int → Int → D} {S : Store} {a b d : D} (h : i2 c g S a b = some d) : ∃ i j, a = .int i ∧ b = .int j ∧ c i j = true ∧ d = g i j := by
  cases a <;> cases b <;> simp only [i2] at h <;> first | cases h | skip
  rename_i i j
  split at h
  · cases h; exact ⟨i, j, rfl, rfl, by assumption, rfl⟩
  · cases h
theorem opD_i2 {g : Value → Value → Sem Value} {c : Int → Int → Bool} {Cc : Int → Int → Prop} {k : Int → Int → V} {kd : Int → Int → D} (h : OpR X g (rI Cc k)) (hc : ∀ i j, c i j = true → Cc i j) (hk : ∀ io F i j, Rep X.K C io F (kd i j) (k i j)) : OpD X C g (i2 c kd) :=
  opD_flat h fun io S H a b d x y dn ra rb e => by
    obtain ⟨i, j, rfl, rfl, hb, rfl⟩ := i2_some e
    cases ra; cases rb
    exact ⟨k i j, fun F => hk io F i j, fun Q q => ⟨i, j, rfl, rfl, hc i j hb, q⟩⟩
theorem opD_i20 {g : Value → Value → Sem Value} {k : Int → Int → V} {kd : Int → Int → D} (h : OpR X g (rI0 k)) (hk : ∀ io F i j, Rep X.K C io F (kd i j) (k i j)) : OpD X C g (i2 (fun _ _ => true) kd) :=
  opD_flat h fun io S H a b d x y dn ra rb e => by
    obtain ⟨i, j, rfl, rfl, hb, rfl⟩ := i2_some e
    cases ra; cases rb
    exact ⟨k i j, fun F => hk io F i j, fun Q q => ⟨i, j, rfl, rfl, q⟩⟩
def addD (S : Store) (a b : D) : Option D := match a, b with
  | .int i, .int j => some (.int (i + j))
  | .str x, .str y => if x.length + y.length ≤ sizeLine then some (.str (x ++ y)) else none
  | .tup xs, .tup ys => if xs.length + ys.length ≤ sizeLine then some (.tup (xs ++ ys)) else none
  | a, b => match asL S a, asL S b with
    | some xs, some ys => if xs.length + ys.length ≤ sizeLine then some (.lst (xs ++ ys)) else none
    | _, _ => none
def rCatL (K : PySem.W.Frag) : R2 := fun x y H Q => ∃ l b xs zs, x = .ref l ∧ y = .ref b ∧ SqL K H l xs ∧ SqL K H b zs ∧ xs.length + zs.length ≤ sizeLine ∧ ∀ p, H p = none → Q (.ref p) (upd H p (.lst (xs ++ zs)))
open PyProof.Rows PySem.P in
theorem op_catL : OpR X (binaryOp .Add) (rCatL X.K) := by
  intro pins s sg H x y v u Q I rx ry h
  obtain ⟨l, b, xs, zs, rfl, rfl, hH, hB, hz, q⟩ := h
  cases rx
  cases ry
  obtain ⟨its, r, ⟨⟨c1, d1, t1, sl1⟩, n, e, hc, hd, hs⟩, z⟩ := I.list hH
  obtain ⟨its2, r2, ⟨⟨c2, d2, t2, sl2⟩, n2, e2, hc2, hd2, hs2⟩, z2⟩ := I.list hB
  simp only at hc hd hs hc2 hd2 hs2
  subst hc hd hs hc2 hd2 hs2
  have hl := r.length
  have hl2 := r2.length
  have ea : its.toArray ++ its2.toArray = (its ++ its2).toArray := by simp
  refine concat_meets ⟨_, e, rfl⟩ ⟨_, e2, rfl⟩ noFill_list_add seq_list_add PySem.F.slot_list_add PySem.F.entry_list_add (PySem.F.args_list_add_2 _ _) (list_addW l b its.toArray its2.toArray n n2 none none sl1 sl2 (by rw [List.size_toArray, List.size_toArray]; omega)) ⟨e, e2, ?_⟩
  rw [ea]
  exact ⟨.ref _, _, I.lnew (t' := s.toks) (r.append r2) (by rw [List.length_append]; omega), rfl, q _ I.fresh⟩
theorem addD_ok : OpD X C (binaryOp .Add) addD := by
  intro pins s sg H x y v u Q I rx ry ⟨io, S, a, b, d, dn, ra, rb, e, q⟩
  unfold addD at e
  split at e
  · cases e; cases ra; cases rb
    exact op_add pins s sg H _ _ v u Q I rx ry ⟨_, _, rfl, rfl, q _ H io (Ext.refl _ _) dn (.int _)⟩
  · split at e
    · cases e; cases ra; cases rb
      exact op_add_str pins s sg H _ _ v u Q I rx ry ⟨_, _, rfl, rfl, by assumption, q _ H io (Ext.refl _ _) dn (.str _)⟩
    · cases e
  · split at e
    · rename_i xs ys hz
      cases e
      cases ra with
      | @tup pa va _ qa ra =>
      cases rb with
      | @tup pb vb _ qb rb =>
      have l1 := ra.length
      have l2 := rb.length
      refine op_catA pins s sg H _ _ v u Q I rx ry ⟨_, _, _, _, rfl, rfl, sqT_same (Fz_same _ _) qa, sqT_same (Fz_same _ _) qb, by omega, fun ex => ?_, fun nx ey => ?_, fun nx ny p hp => ?_⟩
      · subst ex
        cases xs with
        | nil => exact q _ H io (Ext.refl _ _) dn (.tup qb rb)
        | cons _ _ => cases l1
      · subst ey
        cases ys with
        | nil => rw [List.append_nil] at q; exact q _ H io (Ext.refl _ _) dn (.tup qa ra)
        | cons _ _ => cases l2
      · obtain ⟨x1, d1, r1⟩ := new_tup dn (ra.append rb) hp
        exact q _ _ io x1 d1 r1
    · cases e
  · split at e
    · rename_i xs ys e1 e2
      split at e
      · cases e
        obtain ⟨p1, v1, rfl, h1, r1⟩ := asL_rep e1 dn ra
        obtain ⟨p2, v2, rfl, h2, r2⟩ := asL_rep e2 dn rb
        have l1 := r1.length
        have l2 := r2.length
        refine op_catL pins s sg H _ _ v u Q I rx ry ⟨_, _, _, _, rfl, rfl, h1, h2, by omega, fun p hp => ?_⟩
        obtain ⟨x1, d1, r1⟩ := new_lst dn (r1.append r2) hp
        exact q _ _ io x1 d1 r1
      · cases e
    · cases e
def mulOk (i j : Int) : Bool := (decide (-(2 ^ 64) < i) && decide (i < 2 ^ 64)) || (decide (-(2 ^ 64) < j) && decide (j < 2 ^ 64))
def subD : Store → D → D → Option D := i2 (fun _ _ => true) fun i j => .int (i - j)
def mulD : Store → D → D → Option D := i2 mulOk fun i j => .int (i * j)
def divD : Store → D → D → Option D := i2 (fun _ j => decide (0 < j) && decide (j < 18446744073709551616)) fun i j => .int (i / j)
def modD : Store → D → D → Option D := i2 (fun _ j => decide (0 < j)) fun i j => .int (i % j)
def powOk (i j : Int) : Bool := decide (0 ≤ j) && decide (j ≤ 1000000) && decide (i.natAbs < 2 ^ 64)
def powD : Store → D → D → Option D := i2 powOk fun i j => .int (i ^ j.toNat)
def shlD : Store → D → D → Option D := i2 powOk fun i j => .int (i * 2 ^ j.toNat)
def shrD : Store → D → D → Option D := i2 (fun _ j => decide (0 ≤ j)) fun i j => .int (i / 2 ^ j.toNat)
def andD : Store → D → D → Option D := i2 (fun _ _ => true) fun i j => .int (Builtin.bitAnd i j)
def orD : Store → D → D → Option D := i2 (fun _ _ => true) fun i j => .int (Builtin.bitOr i j)
def ltD : Store → D → D → Option D := i2 (fun _ _ => true) fun i j => .bl (decide (i < j))
def leD : Store → D → D → Option D := i2 (fun _ _ => true) fun i j => .bl (decide (i ≤ j))
def gtD : Store → D → D → Option D := i2 (fun _ _ => true) fun i j => .bl (decide (j < i))
def geD : Store → D → D → Option D := i2 (fun _ _ => true) fun i j => .bl (decide (j ≤ i))
theorem subD_ok : OpD X C (binaryOp .Sub) subD := opD_i20 op_sub fun _ _ _ _ => .int _
theorem mulD_ok : OpD X C (binaryOp .Mult) mulD := opD_i2 op_mul (fun i j h => by simpa [mulOk, CMul] using h) fun _ _ _ _ => .int _
theorem divD_ok : OpD X C (binaryOp .FloorDiv) divD := opD_i2 op_fdivW (fun i j h => by
  simp only [Bool.and_eq_true, decide_eq_true_eq] at h
  exact wide_div (b := 64) h.1 (by omega) (by decide) (by decide)) fun _ _ _ _ => .int _
theorem modD_ok : OpD X C (binaryOp .Mod) modD := opD_i2 op_mod (fun i j h => by simpa using h) fun _ _ _ _ => .int _
theorem powOk_of {i j : Int} (h : powOk i j = true) : CPow i j := by
  unfold powOk at h
  rw [Bool.and_eq_true, Bool.and_eq_true, decide_eq_true_iff, decide_eq_true_iff, decide_eq_true_iff] at h
  exact ⟨h.1.1, h.1.2, h.2⟩
theorem powD_ok : OpD X C (binaryOp .Pow) powD := opD_i2 op_pow (fun i j h => powOk_of h) fun _ _ _ _ => .int _
theorem shlD_ok : OpD X C (binaryOp .LShift) shlD := opD_i2 op_shl (fun i j h => powOk_of h) fun _ _ _ _ => .int _
theorem shrD_ok : OpD X C (binaryOp .RShift) shrD := opD_i2 op_shr (fun i j h => by simpa using h) fun _ _ _ _ => .int _
theorem andD_ok : OpD X C (binaryOp .BitAnd) andD := opD_i20 op_and fun _ _ _ _ => .int _
theorem orD_ok : OpD X C (binaryOp .BitOr) orD := opD_i20 op_or fun _ _ _ _ => .int _
theorem ltD_ok : OpD X C (compareOp .Lt) ltD := opD_i20 op_lt fun _ _ _ _ => .bl _
theorem leD_ok : OpD X C (compareOp .LtE) leD := opD_i20 op_le fun _ _ _ _ => .bl _
theorem gtD_ok : OpD X C (compareOp .Gt) gtD := opD_i20 op_gt fun _ _ _ _ => .bl _
theorem geD_ok : OpD X C (compareOp .GtE) geD := opD_i20 op_ge fun _ _ _ _ => .bl _
def negD : Store → D → Option D
  | _, .int i => some (.int (-i))
  | _, _ => none
theorem negD_ok : UnD X C (unaryOp .USub) negD := by
  intro pins s sg H x v Q I rx ⟨io, S, a, d, dn, ra, e, q⟩
  cases ra <;> cases e
  exact un_neg pins s sg H _ v Q I rx ⟨_, rfl, q _ H io (Ext.refl _ _) dn (.int _)⟩
def isN : Store → D → D → Option D
  | _, .non, .non => some (.bl true)
  | _, .loc _, .non => some (.bl false)
  | _, .exn _ _ _, .non => some (.bl false)
  | _, .bl _, .non => some (.bl false)
  | _, .int _, .non => some (.bl false)
  | _, .str _, .non => some (.bl false)
  | _, .tup _, .non => some (.bl false)
  | _, .lst _, .non => some (.bl false)
  | _, .dct _ _, .non => some (.bl false)
  | _, .dcf _ _, .non => some (.bl false)
  | _, .dcT _ _, .non => some (.bl false)
  | _, .bl a, .bl b => some (.bl (decide (a = b)))
  | _, _, _ => none
def isNot : Store → D → D → Option D
  | _, .non, .non => some (.bl false)
  | _, .loc _, .non => some (.bl true)
  | _, .exn _ _ _, .non => some (.bl true)
  | _, .bl _, .non => some (.bl true)
  | _, .int _, .non => some (.bl true)
  | _, .str _, .non => some (.bl true)
  | _, .tup _, .non => some (.bl true)
  | _, .lst _, .non => some (.bl true)
  | _, .dct _ _, .non => some (.bl true)
  | _, .dcf _ _, .non => some (.bl true)
  | _, .dcT _ _, .non => some (.bl true)
  | _, .bl a, .bl b => some (.bl (!decide (a = b)))
  | _, _, _ => none
theorem isNot_ok : OpD X C (compareOp .IsNot) isNot := opD_flat (op_notN.or op_isnot_bl) fun io S H a b d x y dn ra rb e => by
  cases rb <;> cases ra <;> cases e <;> first
    | exact ⟨.bl true, fun _ => .bl _, fun Q q => .inl ⟨rfl, q⟩⟩
    | exact ⟨.bl false, fun _ => .bl _, fun Q q => .inl ⟨rfl, q⟩⟩
    | exact ⟨_, fun _ => .bl _, fun Q q => .inr ⟨_, _, rfl, rfl, q⟩⟩
end
def pyAll (f : D → Option PyData) : List D → Option (List PyData)
  | [] => some []
  | x :: xs => (f x).bind fun y => (pyAll f xs).bind fun ys => some (y :: ys)
def pyD (S : Store) : Nat → D → Option PyData
  | _, .non => some .none
  | _, .bl b => some (.bool b)
  | _, .int i => some (.int i)
  | _, .str x => some (.str x)
  | n + 1, .tup xs => (pyAll (pyD S n) xs).bind fun ys => some (.tuple ys)
  | n + 1, .lst xs => (pyAll (pyD S n) xs).bind fun ys => some (.list ys)
  | n + 1, .loc k => match S[k]? with
    | some (.lst xs) => (pyAll (pyD S n) xs).bind fun ys => some (.list ys)
    | _ => none
  | _, _ => none
theorem pyAll_cons {f : D → Option PyData} {x : D} {xs : List D} {ps : List PyData} (h : pyAll f (x :: xs) = some ps) : ∃ y ys, f x = some y ∧ pyAll f xs = some ys ∧ ps = y :: ys := by
  simp only [pyAll] at h
  cases h1 : f x with
  | none => rw [h1] at h; cases h
  | some y =>
    rw [h1] at h
    cases h2 : pyAll f xs with
    | none => rw [h2] at h; cases h
    | some ys => rw [h2] at h; cases h; exact ⟨y, ys, rfl, rfl, rfl⟩
theorem bind_some' {A B : Type} {o : Option A} {f : A → Option B} {b : B} (h : o.bind f = some b) : ∃ a, o = some a ∧ f a = some b := by
  cases o with
  | none => cases h
  | some a => exact ⟨a, rfl, h⟩
section
variable {X : Cx} {C : Nat → Addr} {io : Io} {S : Store} {H : Hp} {pins : List (Addr × Obj)} {sg : L2.St} {s : Shared}
theorem pyAll_reads {K : PySem.W.Frag} {C : Nat → Addr} {f : D → Option PyData} (hf : ∀ d v p, f d = some p → Rep K C io (Fz io H) d v → Dp K H v p ∧ p.plain = true) : ∀ {xs : List D} {vs : List V} {ps : List PyData}, pyAll f xs = some ps → Reps K C io (Fz io H) xs vs → DpAll K H vs ps ∧ PyData.plainAll ps = true
  | _, _, _, h, .nil => by cases h; exact ⟨.nil, rfl⟩
  | _, _, _, h, .cons r rs => by
    obtain ⟨y, ys, h1, h2, rfl⟩ := pyAll_cons h
    obtain ⟨a, b⟩ := hf _ _ _ h1 r
    obtain ⟨c, d⟩ := pyAll_reads hf h2 rs
    exact ⟨.cons a c, by simp only [PyData.plainAll, b, d, Bool.and_self]⟩
theorem pyD_reads {K : PySem.W.Frag} {C : Nat → Addr} (dn : Den K C io S H) : ∀ (n : Nat) (d : D) (v : V) (p : PyData), pyD S n d = some p → Rep K C io (Fz io H) d v → Dp K H v p ∧ p.plain = true := by
  intro n
  induction n with
  | zero =>
    intro d v p h r
    cases r <;> simp only [pyD] at h <;> cases h
    · exact ⟨.non, rfl⟩
    · exact ⟨.bl _, rfl⟩
    · exact ⟨.int _, rfl⟩
    · exact ⟨.str _, rfl⟩
  | succ n ih =>
    intro d v p h r
    cases r with
    | non => cases h; exact ⟨.non, rfl⟩
    | bl => cases h; exact ⟨.bl _, rfl⟩
    | int => cases h; exact ⟨.int _, rfl⟩
    | str => cases h; exact ⟨.str _, rfl⟩
    | tup q rs =>
      obtain ⟨ys, h1, h2⟩ := bind_some' h
      cases h2
      obtain ⟨a, b⟩ := pyAll_reads ih h1 rs
      exact ⟨.tup (sqT_same (Fz_same _ _) q) a, by simp only [PyData.plain]; exact b⟩
    | lst q rs =>
      obtain ⟨ys, h1, h2⟩ := bind_some' h
      cases h2
      obtain ⟨a, b⟩ := pyAll_reads ih h1 rs
      exact ⟨.lst ((Fz_same _ _).seq q) a, by simp only [PyData.plain]; exact b⟩
    | @loc k a q =>
      simp only [pyD] at h
      split at h
      · rename_i xs e
        obtain ⟨ys, h1, h2⟩ := bind_some' h
        cases h2
        obtain ⟨vs, e1, rs⟩ := dn.obj k _ a e q
        obtain ⟨a, b⟩ := pyAll_reads ih h1 rs
        exact ⟨.lst (.of e1) a, by simp only [PyData.plain]; exact b⟩
      · cases h
    | dct => cases h
    | dcf => cases h
    | dcT => cases h
    | exn0 => cases h
    | exnF => cases h
theorem pyAll_depth {f : D → Option PyData} {n : Nat} (hf : ∀ d p, f d = some p → p.depth ≤ n) : ∀ {xs : List D} {ps : List PyData}, pyAll f xs = some ps → PyData.depthAll ps ≤ n
  | [], _, h => by cases h; simp [PyData.depthAll]
  | x :: xs, _, h => by
    obtain ⟨y, ys, h1, h2, rfl⟩ := pyAll_cons h
    have a := hf _ _ h1
    have b := pyAll_depth hf h2
    simp only [PyData.depthAll]
    omega
theorem pyD_depth : ∀ (n : Nat) (d : D) (p : PyData), pyD S n d = some p → p.depth ≤ n := by
  intro n
  induction n with
  | zero => intro d p h; cases d <;> simp only [pyD] at h <;> cases h <;> simp [PyData.depth]
  | succ n ih =>
    intro d p h
    cases d with
    | non => cases h; simp [PyData.depth]
    | bl => cases h; simp [PyData.depth]
    | int => cases h; simp [PyData.depth]
    | str => cases h; simp [PyData.depth]
    | tup xs =>
      obtain ⟨ys, h1, h2⟩ := bind_some' h
      cases h2
      simp only [PyData.depth]
      exact Nat.succ_le_succ (pyAll_depth ih h1)
    | lst xs =>
      obtain ⟨ys, h1, h2⟩ := bind_some' h
      cases h2
      simp only [PyData.depth]
      exact Nat.succ_le_succ (pyAll_depth ih h1)
    | loc k =>
      simp only [pyD] at h
      split at h
      · obtain ⟨ys, h1, h2⟩ := bind_some' h
        cases h2
        simp only [PyData.depth]
        exact Nat.succ_le_succ (pyAll_depth ih h1)
      · cases h
    | dct => cases h
    | dcf => cases h
    | dcT => cases h
    | exn => cases h
theorem reads_of (I : L2.Inv X pins sg H s) (dn : Den X.K C io S H) {n : Nat} {d : D} {v : V} {p : PyData} {u : Value} (h : pyD S n d = some p) (r : Rep X.K C io (Fz io H) d v) (ru : RelV v u) :
    (∃ as, Reads s.heap u p as) ∧ p.plain = true ∧ p.depth ≤ n := by
  obtain ⟨a, b⟩ := pyD_reads dn n d v p h r
  exact ⟨Dp.reads I p v u a ru, b, pyD_depth n d p h⟩
end
def deepN : Nat := 60
def eqB (S : Store) (a b : D) : Option Bool := (pyD S deepN a).bind fun x => (pyD S deepN b).bind fun y => some (PyData.eqv x y)
def eqD (S : Store) (a b : D) : Option D := (eqB S a b).bind fun k => some (.bl k)
def neD (S : Store) (a b : D) : Option D := (eqB S a b).bind fun k => some (.bl (!k))
section
variable {X : Cx} {C : Nat → Addr}
theorem eqD_ok (hu : X.A.units + 64 < cLine) : OpD X C (compareOp .Eq) eqD := by
  intro pins s sg H x y v u Q I rx ry ⟨io, S, a, b, d, dn, ra, rb, e, q⟩
  obtain ⟨k, e1, e2⟩ := bind_some' e
  obtain ⟨p, h1, e1⟩ := bind_some' e1
  obtain ⟨p', h2, e1⟩ := bind_some' e1
  cases e1; cases e2
  obtain ⟨⟨as, r1⟩, b1, l1⟩ := reads_of I dn h1 ra rx
  obtain ⟨⟨bs, r2⟩, b2, l2⟩ := reads_of I dn h2 rb ry
  have hl : min p.depth p'.depth ≤ 60 := Nat.le_trans (Nat.min_le_left _ _) l1
  exact SeqAt.eq_plain r1 r2 b1 b2 (by omega) ⟨.bl _, H, I, rfl, q _ H io (Ext.refl _ _) dn (.bl _)⟩
theorem neD_ok (hu : X.A.units + 64 < cLine) : OpD X C (compareOp .NotEq) neD := by
  intro pins s sg H x y v u Q I rx ry ⟨io, S, a, b, d, dn, ra, rb, e, q⟩
  obtain ⟨k, e1, e2⟩ := bind_some' e
  obtain ⟨p, h1, e1⟩ := bind_some' e1
  obtain ⟨p', h2, e1⟩ := bind_some' e1
  cases e1; cases e2
  obtain ⟨⟨as, r1⟩, b1, l1⟩ := reads_of I dn h1 ra rx
  obtain ⟨⟨bs, r2⟩, b2, l2⟩ := reads_of I dn h2 rb ry
  have hl : min p.depth p'.depth ≤ 60 := Nat.le_trans (Nat.min_le_left _ _) l1
  exact SeqAt.ne_plain r1 r2 b1 b2 (by omega) ⟨.bl _, H, I, rfl, q _ H io (Ext.refl _ _) dn (.bl _)⟩
end
end Ev
namespace Ev
open PySem PySem.Spec L2
abbrev RC := D → RE
def rLast (f : Store → D → D → Option D) (b : RE) : RC := fun x e S => (b e S).bind fun y S1 => ofO (f S1 x y) S1
def rLink (f : Store → D → D → Option D) (b : RE) (k : RC) : RC := fun x e S => (b e S).bind fun y S1 => (ofO ((f S1 x y).bind asB) S1).bind fun t S2 => if t = true then k y e S2 else .ok (.bl false) S2
def rChain (a : RE) (k : RC) : RE := fun e S => (a e S).bind fun x S1 => k x e S1
structure PCh (X : Cx) (C : Nat → Addr) (W : WX) (ops : List CmpOp) (es : List Expr) (r : RC) : Prop where
  run : ∀ (pos : Pos) (pins : List (Addr × Obj)) (s : Shared) (sg : L2.St) (H : Hp) (Q : VK) (x : V) (v : Value) (e : Env) (S : Store) (io : Io) (d : D), L2.Inv X pins sg H s → RelV x v → Den X.K C io S H → Slots X.K C io (Fz io H) e sg → Rep X.K C io (Fz io H) d x →
    Post X.K C (RepR X.K C) W sg io H (r d e S) Q → wpAny (model X.prog X.w) X.A (compareChain pos v ops (evalEach es X.env)) (EP X pins sg Q) X.xe s
  runT : ∀ (pos : Pos) (pins : List (Addr × Obj)) (s : Shared) (sg : L2.St) (H : Hp) (Q : Bool → Hp → Prop) (x : V) (v : Value) (e : Env) (S : Store) (io : Io) (d : D), L2.Inv X pins sg H s → RelV x v → Den X.K C io S H → Slots X.K C io (Fz io H) e sg → Rep X.K C io (Fz io H) d x →
    Post X.K C EqR W sg io H ((r d e S).bind fun z S1 => ofO (asB z) S1) Q → wpAny (model X.prog X.w) X.A (testChain pos v ops (evalEach es X.env)) (TP X pins sg Q) X.xe s
section
variable {X : Cx} {C : Nat → Addr} {W : WX} {a b b' c : Expr} {bs : List Expr} {ra rb : RE} {op op' : CmpOp} {ops : List CmpOp} {f : Store → D → D → Option D} {k : RC} {pos : Pos}
theorem Post.asB {K : PySem.W.Frag} {C : Nat → Addr} {sg : L2.St} {io : Io} {H : Hp} {z : D} {S : Store} {Q : Bool → Hp → Prop} (h : Post K C EqR W sg io H (Ev.ofO (Ev.asB z) S) Q) : ∃ t, Ev.asB z = some t ∧ ∀ H' io', Ext io H io' H' → Den K C io' S H' → Q t H' := by
  obtain ⟨t, e, p⟩ := h.ofO
  exact ⟨t, e, fun H' io' x d => p t H' io' x d rfl⟩
theorem ch_last (ho : OpD X C (compareOp op) f) (hb : PE X b (tE X.K C W rb)) : PCh X C W [op] [b] (rLast f rb) where
  run := fun pos pins s sg H Q x v e S io d I rx dn sl r p =>
    PyProof.Rows.chain_last (thn (hb.run pins s sg H _ I ⟨e, S, io, dn, sl, Post.bind (R := RepR X.K C) (k := fun y S1 => ofO (f S1 d y) S1) p⟩) fun u s1 ⟨y, H1, I1, r1, io1, S1, y1, x1, d1, q1, p1⟩ => by
      obtain ⟨z, ez, p1⟩ := p1.ofO
      exact ho pins s1 sg H1 x y v u Q I1 rx r1 ⟨io1, S1, d, y1, z, d1, r.ext x1, q1, ez, p1⟩)
  runT := fun pos pins s sg H Q x v e S io d I rx dn sl r p =>
    PyProof.Rows.test_last (thn (hb.run pins s sg H _ I ⟨e, S, io, dn, sl, Post.bind (R := RepR X.K C) (R' := EqR) (Q := Q) (k := fun y S1 => (ofO (f S1 d y) S1).bind fun z S2 => ofO (asB z) S2) (by rw [← bind_assoc]; exact p)⟩) fun u s1 ⟨y, H1, I1, r1, io1, S1, y1, x1, d1, q1, p1⟩ => by
      cases ez : f S1 d y1 with
      | none => rw [ez] at p1; exact p1.elim
      | some z =>
        rw [ez] at p1
        obtain ⟨t, et, p1⟩ := p1.asB
        refine thn (ho pins s1 sg H1 x y v u (fun w H' => w = .bl t ∧ Q t H') I1 rx r1 ⟨io1, S1, d, y1, z, d1, r.ext x1, q1, ez, fun w H' io' x' d' r' => ⟨asB_rep et r', p1 H' io' x' d'⟩⟩) fun w s2 ⟨w', H2, I2, r2, e2, q2⟩ => ?_
        subst e2
        cases r2
        exact wpAny_truthy_bool ⟨H2, I2, q2⟩)
theorem ch_link (ho : OpD X C (compareOp op) f) (hb : PE X b (tE X.K C W rb)) (hr : PCh X C W (op' :: ops) (b' :: bs) k) : PCh X C W (op :: op' :: ops) (b :: b' :: bs) (rLink f rb k) where
  run := fun pos pins s sg H Q x v e S io d I rx dn sl r p =>
    PyProof.Rows.chain_link (thn (hb.run pins s sg H _ I ⟨e, S, io, dn, sl, Post.bind (R := RepR X.K C) (k := fun y S1 => (ofO ((f S1 d y).bind asB) S1).bind fun t S2 => if t = true then k y e S2 else .ok (.bl false) S2) p⟩) fun u s1 ⟨y, H1, I1, r1, io1, S1, y1, x1, d1, q1, p1⟩ => by
      cases ez : f S1 d y1 with
      | none => rw [ez] at p1; exact p1.elim
      | some z =>
        rw [ez] at p1
        cases et : asB z with
        | none => simp only [Option.bind, et] at p1; exact p1.elim
        | some t =>
        simp only [Option.bind, et, Ev.ofO, Res.bind] at p1
        refine thn (ho pins s1 sg H1 x y v u (fun w H' => w = .bl t ∧ ∃ io', Ext io1 H1 io' H' ∧ Den X.K C io' S1 H') I1 rx r1 ⟨io1, S1, d, y1, z, d1, r.ext x1, q1, ez, fun w H' io' x' d' r' => ⟨asB_rep et r', io', x', d'⟩⟩) fun w s2 ⟨w', H2, I2, r2, e2, io2, x2, d2⟩ => ?_
        subst e2
        cases r2
        refine wpAny_truthy_bool ?_
        cases t with
        | true => exact hr.run pos pins s2 sg H2 Q y u e S1 io2 y1 I2 r1 d2 ((sl.ext x1).ext x2) (q1.ext x2) (p1.ext x2)
        | false => exact ⟨.bl false, H2, I2, rfl, p1 _ H2 io2 x2 d2 (.bl _)⟩)
  runT := fun pos pins s sg H Q x v e S io d I rx dn sl r p =>
    PyProof.Rows.test_link (thn (hb.run pins s sg H _ I ⟨e, S, io, dn, sl, Post.bind (R := RepR X.K C) (R' := EqR) (Q := Q) (k := fun y S1 => ((ofO ((f S1 d y).bind asB) S1).bind fun t S2 => if t = true then k y e S2 else .ok (.bl false) S2).bind fun z S2 => ofO (asB z) S2) (by rw [← bind_assoc]; exact p)⟩) fun u s1 ⟨y, H1, I1, r1, io1, S1, y1, x1, d1, q1, p1⟩ => by
      cases ez : f S1 d y1 with
      | none => rw [ez] at p1; exact p1.elim
      | some z =>
        rw [ez] at p1
        cases et : asB z with
        | none => simp only [Option.bind, et] at p1; exact p1.elim
        | some t =>
        simp only [Option.bind, et, Ev.ofO, Res.bind] at p1
        refine thn (ho pins s1 sg H1 x y v u (fun w H' => w = .bl t ∧ ∃ io', Ext io1 H1 io' H' ∧ Den X.K C io' S1 H') I1 rx r1 ⟨io1, S1, d, y1, z, d1, r.ext x1, q1, ez, fun w H' io' x' d' r' => ⟨asB_rep et r', io', x', d'⟩⟩) fun w s2 ⟨w', H2, I2, r2, e2, io2, x2, d2⟩ => ?_
        subst e2
        cases r2
        refine wpAny_truthy_bool ?_
        cases t with
        | true => exact hr.runT pos pins s2 sg H2 Q y u e S1 io2 y1 I2 r1 d2 ((sl.ext x1).ext x2) (q1.ext x2) (p1.ext x2)
        | false => exact ⟨H2, I2, p1 _ H2 io2 x2 d2 rfl⟩)
theorem ee_chain (ha : PE X a (tE X.K C W ra)) (hr : PCh X C W (op :: op' :: ops) (b :: b' :: bs) k) (hm : lastMarks (op :: op' :: ops) (b :: b' :: bs) = false := by with_unfolding_all rfl) : PE X (.Compare a (op :: op' :: ops) (b :: b' :: bs) pos) (tE X.K C W (rChain ra k)) :=
  ⟨fun pins s sg H Q I h => PyProof.Rows.Compare_chain (thn (ha.run pins s sg H _ I (tR.seq1 (R := RepR X.K C) (fun e x S => k x e S) h fun _ _ => rfl)) fun v s1 ⟨x, H1, I1, r1, e, S, io, x1, d, sl, q, p⟩ =>
    hr.run pos pins s1 sg H1 Q x v e S io x1 I1 r1 d sl q p) hm⟩
theorem et_chain (ha : PE X a (tE X.K C W ra)) (hr : PCh X C W (op :: op' :: ops) (b :: b' :: bs) k) (hm : lastMarks (op :: op' :: ops) (b :: b' :: bs) = false := by with_unfolding_all rfl) : PT X (.Compare a (op :: op' :: ops) (b :: b' :: bs) pos) (tT X.K C W (rTest (rChain ra k))) :=
  ⟨fun pins s sg H Q I h => PyProof.Rows.isTrue_chain (thn (ha.run pins s sg H _ I (tR.seq1 (R := RepR X.K C) (fun e x S => (k x e S).bind fun z S1 => ofO (asB z) S1) h fun e S => by
      show (rChain ra k e S).bind _ = _
      unfold rChain
      rw [bind_assoc])) fun v s1 ⟨x, H1, I1, r1, e, S, io, x1, d, sl, q, p⟩ =>
    hr.runT pos pins s1 sg H1 Q x v e S io x1 I1 r1 d sl q p) hm⟩
end
section
variable {X : Cx} {C : Nat → Addr} {W : WX} {e : Expr} {es : List Expr} {rs : RA} {x : Str} {p pos : Pos} {bid T : String} {f : Store → List D → Option D}
theorem ee_callB (hc : CallD X C (.builtin bid) f) (hg : Gl X x) (hm : X.mg x = none) (hv : bootBuiltins x = some (.builtin bid)) (ha : PA X (e :: es) (tA X.K C W rs)) (hn : x ≠ "__name__" := by decide) (hdb : (x == ("__debug__" : Str)) = false := by decide)
    (he : starEach (e :: es) X.env = (false, eval e X.env) :: starEach es X.env := by rfl) (hpl : (backTo pos (starEach es X.env)).any (·.1) = false := by rfl) : PE X (.Call (.Name x p) (e :: es) [] pos) (tE X.K C W (rCal f rs)) :=
  (pe_callB hc hg hm hv ha hn hdb he hpl).imp fun sg H Q h => (tR.seq1 (R := RepsR X.K C) (fun _ xs S => ofO (f S xs) S) h fun _ _ => rfl).mono fun vs H1 ⟨e, S, io, x1, d, s, r1, p⟩ => by
    obtain ⟨z, ez, p⟩ := p.ofO
    exact ⟨io, S, x1, z, d, r1, ez, p⟩
theorem ee_callTy (hc : CallD X C (.type T) f) (hg : Gl X x) (hm : X.mg x = none) (hv : bootBuiltins x = some (.type T)) (ha : PA X (e :: es) (tA X.K C W rs)) (hn : x ≠ "__name__" := by decide) (hdb : (x == ("__debug__" : Str)) = false := by decide)
    (he : starEach (e :: es) X.env = (false, eval e X.env) :: starEach es X.env := by rfl) (hpl : (backTo pos (starEach es X.env)).any (·.1) = false := by rfl) : PE X (.Call (.Name x p) (e :: es) [] pos) (tE X.K C W (rCal f rs)) :=
  (pe_callTy hc hg hm hv ha hn hdb he hpl).imp fun sg H Q h => (tR.seq1 (R := RepsR X.K C) (fun _ xs S => ofO (f S xs) S) h fun _ _ => rfl).mono fun vs H1 ⟨e, S, io, x1, d, s, r1, p⟩ => by
    obtain ⟨z, ez, p⟩ := p.ofO
    exact ⟨io, S, x1, z, d, r1, ez, p⟩
theorem callD_flat {g : Value} {r : List V → Hp → VK → Prop} (h : CallR X g r)
    (hf : ∀ io S H as d xs, Den X.K C io S H → Reps X.K C io (Fz io H) as xs → f S as = some d → ∃ z, (∀ F, Rep X.K C io F d z) ∧ ∀ Q : VK, Q z H → r xs H Q) : CallD X C g f := by
  intro pins s sg H xs us Q I rx ⟨io, S, as, d, dn, ra, e, q⟩
  obtain ⟨z, rz, hq⟩ := hf io S H as d xs dn ra e
  exact h pins s sg H xs us Q I rx (hq Q (q z H io (Ext.refl _ _) dn (rz _)))
def absD : Store → List D → Option D
  | _, [.int i] => some (.int (if i < 0 then -i else i))
  | _, _ => none
theorem reps1 {K : PySem.W.Frag} {C : Nat → Addr} {io : Io} {F : Hp} {a : D} {xs : List V} (r : Reps K C io F [a] xs) : ∃ v, xs = [v] ∧ Rep K C io F a v := by
  cases r with
  | cons h t => cases t; exact ⟨_, rfl, h⟩
theorem reps2 {K : PySem.W.Frag} {C : Nat → Addr} {io : Io} {F : Hp} {a b : D} {xs : List V} (r : Reps K C io F [a, b] xs) : ∃ v u, xs = [v, u] ∧ Rep K C io F a v ∧ Rep K C io F b u := by
  cases r with
  | cons h t => obtain ⟨u, rfl, h2⟩ := reps1 t; exact ⟨_, u, rfl, h, h2⟩
theorem absD_ok : CallD X C (.builtin "abs") absD := callD_flat call_abs fun io S H as d xs dn ra e => by
  unfold absD at e
  split at e <;> cases e
  obtain ⟨v, rfl, h⟩ := reps1 ra
  cases h
  exact ⟨.int _, fun _ => .int _, fun Q q => ⟨_, rfl, q⟩⟩
def maxD2 : Store → List D → Option D
  | _, [.int i, .int j] => some (.int (if j > i then j else i))
  | _, _ => none
def minD2 : Store → List D → Option D
  | _, [.int i, .int j] => some (.int (if j < i then j else i))
  | _, _ => none
theorem maxD2_ok (hc : X.calm = true) : CallD X C (.builtin "max") maxD2 := callD_flat (call_max2 hc) fun io S H as d xs dn ra e => by
  unfold maxD2 at e
  split at e <;> cases e
  obtain ⟨v, u, rfl, h, h2⟩ := reps2 ra
  cases h; cases h2
  exact ⟨.int _, fun _ => .int _, fun Q q => ⟨_, _, rfl, q⟩⟩
theorem minD2_ok (hc : X.calm = true) : CallD X C (.builtin "min") minD2 := callD_flat (call_min2 hc) fun io S H as d xs dn ra e => by
  unfold minD2 at e
  split at e <;> cases e
  obtain ⟨v, u, rfl, h, h2⟩ := reps2 ra
  cases h; cases h2
  exact ⟨.int _, fun _ => .int _, fun Q q => ⟨_, _, rfl, q⟩⟩
def intD : Store → List D → Option D
  | _, [.int i] => some (.int i)
  | _, [.bl b] => some (.int (if b then 1 else 0))
  | _, _ => none
theorem intD_ok : CallD X C (.type "int") intD := callD_flat call_int1 fun io S H as d xs dn ra e => by
  unfold intD at e
  split at e <;> cases e
  · obtain ⟨v, rfl, h⟩ := reps1 ra
    cases h
    exact ⟨.int _, fun _ => .int _, fun Q q => .inl ⟨_, rfl, q⟩⟩
  · obtain ⟨v, rfl, h⟩ := reps1 ra
    cases h
    exact ⟨.int _, fun _ => .int _, fun Q q => .inr ⟨_, rfl, q⟩⟩
def lenD : Store → List D → Option D
  | _, [.str x] => if x.length ≤ sizeLine then some (.int x.length) else none
  | _, [.tup xs] => some (.int xs.length)
  | S, [a] => (asL S a).bind fun xs => some (.int xs.length)
  | _, _ => none
theorem lenD_ok : CallD X C (.builtin "len") lenD := callD_flat call_len fun io S H as d xs dn ra e => by
  unfold lenD at e
  split at e
  · split at e <;> cases e
    obtain ⟨v, rfl, h⟩ := reps1 ra
    cases h
    exact ⟨.int _, fun _ => .int _, fun Q q => ⟨_, _, rfl, ⟨by assumption, rfl⟩, q⟩⟩
  · cases e
    obtain ⟨v, rfl, h⟩ := reps1 ra
    cases h with
    | tup q rs => exact ⟨.int _, fun _ => .int _, fun Q q' => ⟨_, _, rfl, .inr ⟨_, sqT_same (Fz_same _ _) q, rs.length⟩, q'⟩⟩
  · obtain ⟨ys, e1, e2⟩ := bind_some' e
    cases e2
    obtain ⟨v, rfl, h⟩ := reps1 ra
    obtain ⟨a, vs, rfl, hq, rs⟩ := asL_rep e1 dn h
    exact ⟨.int _, fun _ => .int _, fun Q q' => ⟨_, _, rfl, .inl ⟨_, hq, rs.length⟩, q'⟩⟩
  · cases e
def asI : D → Option Int
  | .int i => some i
  | _ => none
def allI : List D → Option (List Int)
  | [] => some []
  | .int i :: r => (allI r).bind fun l => some (i :: l)
  | _ => none
theorem allI_rep {K : PySem.W.Frag} {C : Nat → Addr} {io : Io} {F : Hp} : ∀ {xs : List D} {vs : List V} {ns : List Int}, allI xs = some ns → Reps K C io F xs vs → vs = ns.map V.int ∧ xs = ns.map D.int
  | _, _, _, h, .nil => by cases h; exact ⟨rfl, rfl⟩
  | _, _, _, h, .cons r rs => by
    cases r <;> simp only [allI] at h <;> first | cases h | skip
    obtain ⟨l, h1, h2⟩ := bind_some' h
    cases h2
    obtain ⟨a, b⟩ := allI_rep h1 rs
    exact ⟨by rw [a]; rfl, by rw [b]; rfl⟩
theorem allI_map (ns : List Int) : allI (ns.map D.int) = some ns := by
  induction ns with
  | nil => rfl
  | cons i r ih => simp [allI, ih]
def sumD : Store → List D → Option D
  | S, [a] => (asL S a).bind fun xs => (allI xs).bind fun ns => some (.int ns.sum)
  | _, _ => none
theorem sumD_ok (hc : X.calm = true) : CallD X C (.builtin "sum") sumD := callD_flat (cr_sum hc) fun io S H as d xs dn ra e => by
  unfold sumD at e
  split at e
  · obtain ⟨ys, e1, e2⟩ := bind_some' e
    obtain ⟨ns, e4, e3⟩ := bind_some' e2
    cases e3
    obtain ⟨v, rfl, h⟩ := reps1 ra
    obtain ⟨a, vs, rfl, hq, rs⟩ := asL_rep e1 dn h
    obtain ⟨rfl, _⟩ := allI_rep e4 rs
    exact ⟨.int _, fun _ => .int _, fun Q q' => ⟨_, _, rfl, hq, q'⟩⟩
  · cases e
def allB : List D → Option (List Bool)
  | [] => some []
  | .bl i :: r => (allB r).bind fun l => some (i :: l)
  | _ => none
theorem allB_rep {K : PySem.W.Frag} {C : Nat → Addr} {io : Io} {F : Hp} : ∀ {xs : List D} {vs : List V} {ns : List Bool}, allB xs = some ns → Reps K C io F xs vs → vs = ns.map V.bl ∧ xs = ns.map D.bl
  | _, _, _, h, .nil => by cases h; exact ⟨rfl, rfl⟩
  | _, _, _, h, .cons r rs => by
    cases r <;> simp only [allB] at h <;> first | cases h | skip
    obtain ⟨l, h1, h2⟩ := bind_some' h
    cases h2
    obtain ⟨a, b⟩ := allB_rep h1 rs
    exact ⟨by rw [a]; rfl, by rw [b]; rfl⟩
theorem allB_map (ns : List Bool) : allB (ns.map D.bl) = some ns := by
  induction ns with
  | nil => rfl
  | cons i r ih => simp [allB, ih]
def anyD : Store → List D → Option D
  | S, [a] => (asL S a).bind fun xs => (allB xs).bind fun ns => some (.bl (ns.any id))
  | _, _ => none
theorem anyD_ok (hc : X.calm = true) : CallD X C (.builtin "any") anyD := callD_flat (cr_any hc) fun io S H as d xs dn ra e => by
  unfold anyD at e
  split at e
  · obtain ⟨ys, e1, e2⟩ := bind_some' e
    obtain ⟨ns, e4, e3⟩ := bind_some' e2
    cases e3
    obtain ⟨v, rfl, h⟩ := reps1 ra
    obtain ⟨a, vs, rfl, hq, rs⟩ := asL_rep e1 dn h
    obtain ⟨rfl, _⟩ := allB_rep e4 rs
    exact ⟨.bl _, fun _ => .bl _, fun Q q' => ⟨_, _, rfl, hq, q'⟩⟩
  · cases e
end
def ixD (S : Store) (a b : D) : Option D := match a, b with
  | .tup xs, .int i => atI xs i
  | .str z, .int i => if z.length ≤ sizeLine then (atI z.cps.toList i).bind fun c => some (.str ⟨#[c]⟩) else none
  | a, .int i => (asL S a).bind fun xs => atI xs i
  | _, _ => none
theorem atI_reps {K : PySem.W.Frag} {C : Nat → Addr} {io : Io} {F : Hp} {xs : List D} {vs : List V} {i : Int} {d : D} (h : atI xs i = some d) (r : Reps K C io F xs vs) : ∃ v, atI vs i = some v ∧ Rep K C io F d v := by
  unfold atI at h ⊢
  obtain ⟨j, h1, h2⟩ := bind_some' h
  obtain ⟨v, h3, h4⟩ := r.get h2
  exact ⟨v, by rw [← r.length, h1]; exact h3, h4⟩
def cutD (xs : List D) (lo hi : Option Int) : List D := (xs.drop (HT.sIx xs.length 0 lo)).take (HT.sIx xs.length xs.length hi - HT.sIx xs.length 0 lo)
theorem cut_reps {K : PySem.W.Frag} {C : Nat → Addr} {io : Io} {F : Hp} {xs : List D} {vs : List V} (r : Reps K C io F xs vs) (lo hi : Option Int) : Reps K C io F (cutD xs lo hi) (cutV vs lo hi) := by
  unfold cutD cutV
  rw [r.length]
  exact (r.drop _).take _
abbrev RO := Env → Store → Res (Option Int)
def rNoP : RO := fun _ S => .ok none S
def rPart (a : RE) : RO := fun e S => (a e S).bind fun x S1 => (ofO (asI x) S1).bind fun i S2 => .ok (some i) S2
abbrev tO (K : PySem.W.Frag) (C : Nat → Addr) (W : WX) (r : RO) : TO := tR K C EqR W r
def slD (S : Store) (a : D) (lo hi : Option Int) : Option D := match a with
  | .tup xs => some (.tup (cutD xs lo hi))
  | .str z => if z.length ≤ sizeLine then some (.str (cutS z lo hi)) else none
  | a => (asL S a).bind fun xs => some (.lst (cutD xs lo hi))
def rSl (a : RE) (lo hi : RO) : RE := fun e S => (a e S).bind fun x S1 => (lo e S1).bind fun l S2 => (hi e S2).bind fun h S3 => ofO (slD S3 x l h) S3
section
variable {X : Cx} {C : Nat → Addr} {W : WX} {a b : Expr} {ra rb : RE} {lo hi : Option Expr} {rl rh : RO} {pos p2 : Pos}
theorem ixD_ok : IxR X (fun x y H Q => ∃ io S a b d, Den X.K C io S H ∧ Rep X.K C io (Fz io H) a x ∧ Rep X.K C io (Fz io H) b y ∧ ixD S a b = some d ∧ ∀ v H' io', Ext io H io' H' → Den X.K C io' S H' → Rep X.K C io' (Fz io' H') d v → Q v H') := by
  intro value slice pins s sg H x y v u Q I rx ry ⟨io, S, a, b, d, dn, ra, rb, e, q⟩ hs
  refine ix_seq value slice pins s sg H x y v u Q I rx ry ?_ hs
  unfold ixD at e
  split at e
  · cases rb
    cases ra with
    | tup q1 rs =>
      obtain ⟨w, h1, h2⟩ := atI_reps e rs
      exact .inr (.inl ⟨_, _, _, w, rfl, rfl, sqT_same (Fz_same _ _) q1, h1, q _ H io (Ext.refl _ _) dn h2⟩)
  · split at e
    · obtain ⟨c, h1, h2⟩ := bind_some' e
      cases h2
      cases ra; cases rb
      exact .inr (.inr ⟨_, _, c, rfl, rfl, by assumption, h1, q _ H io (Ext.refl _ _) dn (.str _)⟩)
    · cases e
  · obtain ⟨xs, h1, h2⟩ := bind_some' e
    cases rb
    obtain ⟨p, vs, rfl, hq, rs⟩ := asL_rep h1 dn ra
    obtain ⟨w, h3, h4⟩ := atI_reps h2 rs
    exact .inl ⟨_, _, _, w, rfl, rfl, hq, h3, q _ H io (Ext.refl _ _) dn h4⟩
  · cases e
theorem ee_ix (ha : PE X a (tE X.K C W ra)) (hb : PE X b (tE X.K C W rb)) (hs : PlainIx b := by exact fun _ _ => rfl) : PE X (.Subscript a b pos) (tE X.K C W (rBin ixD ra rb)) :=
  (pe_ix ixD_ok ha hb hs).imp fun sg H Q h => (tR.seq2 repM (fun _ x y S => ofO (ixD S x y) S) h fun _ _ => rfl).mono fun x H1 h1 => h1.mono fun y H2 ⟨e, S, io, x1, y1, d, s, r1, r2, p⟩ => by
    obtain ⟨z, ez, p⟩ := p.ofO
    exact ⟨io, S, x1, y1, z, d, r1, r2, ez, p⟩
theorem eo_none : PO X none (tO X.K C W rNoP) := ⟨fun pins s sg H Q I h => po_none.run pins s sg H Q I (by
  obtain ⟨e, S, io, d, sl, p⟩ := h
  exact p none H io (Ext.refl _ _) d rfl)⟩
theorem eo_some (ha : PE X a (tE X.K C W ra)) : PO X (some a) (tO X.K C W (rPart ra)) := ⟨fun pins s sg H Q I h => (po_some ha).run pins s sg H Q I (by
  refine (tR.seq1 (R := RepR X.K C) (fun _ x S => (ofO (asI x) S).bind fun i S2 => .ok (some i) S2) h fun _ _ => rfl).mono fun x H1 ⟨e, S, io, x1, d, sl, r1, p⟩ => ?_
  cases x1 <;> simp only [asI, ofO, Res.bind] at p <;> first | exact p.elim | skip
  cases r1
  exact ⟨_, rfl, p _ H1 io (Ext.refl _ _) d rfl⟩)⟩
theorem slD_ok : SlR X (fun x l h H Q => ∃ io S a d, Den X.K C io S H ∧ Rep X.K C io (Fz io H) a x ∧ slD S a l h = some d ∧ ∀ v H' io', Ext io H io' H' → Den X.K C io' S H' → Rep X.K C io' (Fz io' H') d v → Q v H') := by
  have hr := (SlR.or (SlR.or (sl_list (X := X)) sl_tupA) sl_str)
  intro pins s sg H x v vl vu l h sl Q I rx h1 h2 h3 ⟨io, S, a, d, dn, ra, e, q⟩
  refine hr pins s sg H x v vl vu l h sl Q I rx h1 h2 h3 ?_
  unfold slD at e
  split at e
  · cases e
    cases ra with
    | tup q1 rs =>
      refine .inl (.inr ⟨_, _, rfl, sqT_same (Fz_same _ _) q1, fun hw => ?_, fun hw p hp => ?_⟩)
      · refine q _ H io (Ext.refl _ _) dn ?_
        rename_i xs va vs
        have e2 : cutD xs l h = xs := by
          unfold cutD
          rw [rs.length, hw.1, hw.2, List.drop_zero, Nat.sub_zero, ← rs.length, List.take_length]
        rw [e2]
        exact .tup q1 rs
      · obtain ⟨x1, d1, r1⟩ := new_tup dn (cut_reps rs l h) hp
        exact q _ _ io x1 d1 r1
  · split at e
    · cases e
      cases ra
      exact .inr ⟨_, rfl, by assumption, q _ H io (Ext.refl _ _) dn (.str _)⟩
    · cases e
  · obtain ⟨xs, e1, e2⟩ := bind_some' e
    cases e2
    obtain ⟨p, vs, rfl, hq, rs⟩ := asL_rep e1 dn ra
    refine .inl (.inl ⟨_, _, rfl, hq, fun p hp => ?_⟩)
    obtain ⟨x1, d1, r1⟩ := new_lst dn (cut_reps rs l h) hp
    exact q _ _ io x1 d1 r1
theorem ee_sl (ha : PE X a (tE X.K C W ra)) (hl : PO X lo (tO X.K C W rl)) (hh : PO X hi (tO X.K C W rh)) : PE X (.Subscript a (.Slice lo hi none p2) pos) (tE X.K C W (rSl ra rl rh)) :=
  (pe_slice slD_ok ha hl hh).imp fun sg H Q h => (tR.seq2 (R2 := EqR) repM (fun e x l S2 => (rh e S2).bind fun h S3 => ofO (slD S3 x l h) S3) h fun _ _ => rfl).mono fun x H1 h1 => h1.mono fun l H2 ⟨e, S, io, x1, l1, d, sl, r1, r2, p⟩ => by
    cases r2
    exact ⟨e, S, io, d, sl, p.bind.mono fun h H3 ⟨io3, S3, h3, x3, d3, r3, p3⟩ => by
      cases r3
      obtain ⟨z, ez, p3⟩ := p3.ofO
      exact ⟨io3, S3, x1, z, d3, r1.ext x3, ez, p3⟩⟩
end
end Ev
namespace Ev
open PySem PySem.Spec L2
theorem _root_.L2.Fun.okN {CX : CXT} {P : Program} {w : World} {K : PySem.W.Frag} {mg : Str → Option Value} {base : Heap} {x qual : Str} {st : Stmt} {f : Addr} {fd : FuncData} {N ps : List Str} {k : Nat} {sp : Sp} (F : Fun K x qual st f fd) (S : FnScope N ps (defScope st)) (len : ∀ vs H Q E, sp vs H Q E → vs.length = ps.length)
    (hbody : ∀ (cdv : Value) (A : Around) (outer : List PySem.Env) (s : Shared) (H : Hp) (vs : List V) (Q : VK) (E : XK), Room k (A.deeper (PyProof.Rows.envOfC qual (defScope st) s.heap.objs.size f cdv)) → sp vs H Q E →
      ∃ t, PSs (cxOf CX P w K mg base N qual (defScope st) f cdv A outer s H E) (defBody st) t ∧ t { nx := fun _ H' => Q .non H', rt := Q } (L2.start N vs) H) : FnOk P w K mg base CX (k + 1) f fd ps sp := by
  obtain ⟨oc, od, kV, doc, pm, an, cdv, ct, osl, rfl, lk, hcd⟩ := F.ex
  exact fn_of lk hcd S len fun A outer s H vs Q E hr hsp => hbody cdv A outer s H vs Q E hr hsp
theorem takes0 {X : L2.Cx} : L2N.Takes X (fun _ _ _ _ => False) := fun _ _ x => by
  obtain ⟨_, _, _, _, _, _, _, _, _, _, _, _, _, _, _, _, w⟩ := x
  exact w.elim
inductive Fl where
  | nx (e : Env) (S : Store)
  | rt (d : D) (S : Store)
  | er (x : Exn) (e : Env) (S : Store)
  | bad
abbrev RS := Env → Store → Fl
def Res.fl {A : Type} (e : Env) : Res A → (A → Store → Fl) → Fl
  | .ok a S, k => k a S
  | .err x S, _ => .er x e S
  | .bad, _ => .bad
def Fl.andThen : Fl → RS → Fl
  | .nx e S, k => k e S
  | .rt d S, _ => .rt d S
  | .er x e S, _ => .er x e S
  | .bad, _ => .bad
def PostS (K : PySem.W.Frag) (C : Nat → Addr) (W : WX) (io : Io) (H : Hp) (f : Fl) (Dn : Ends) : Prop :=
  match f with
  | .nx e S => ∀ sg H' io', Ext io H io' H' → Den K C io' S H' → Slots K C io' (Fz io' H') e sg → Dn.nx sg H'
  | .rt d S => ∀ v H' io', Ext io H io' H' → Den K C io' S H' → Rep K C io' (Fz io' H') d v → Dn.rt v H'
  | .er x e S => ∀ cls dd sg H' io', Ext io H io' H' → Den K C io' S H' → Slots K C io' (Fz io' H') e sg → XR K C io' H' x cls dd → W cls dd sg H'
  | .bad => False
def tS (K : PySem.W.Frag) (C : Nat → Addr) (W : WX) (r : RS) : TS := fun Dn sg H =>
  ∃ (e : Env) (S : Store) (io : Io), Den K C io S H ∧ Slots K C io (Fz io H) e sg ∧ PostS K C W io H (r e S) Dn
section
variable {K : PySem.W.Frag} {C : Nat → Addr} {A B : Type} {R : Io → Hp → A → B → Prop} {W : WX} {sg : L2.St} {io io' : Io} {H H' : Hp} {Dn : Ends}
theorem PostS.ext {f : Fl} (e : Ext io H io' H') (h : PostS K C W io H f Dn) : PostS K C W io' H' f Dn := by
  cases f with
  | nx a S => exact fun sg H2 io2 x d q => h sg H2 io2 (e.trans x) d q
  | rt a S => exact fun sg H2 io2 x d q => h sg H2 io2 (e.trans x) d q
  | er x a S => exact fun c dd sg H2 io2 x' d q => h c dd sg H2 io2 (e.trans x') d q
  | bad => exact h
theorem PostS.of_res {r : Res A} {e : Env} {k : A → Store → Fl} (h : PostS K C W io H (r.fl e k) Dn) (s : Slots K C io (Fz io H) e sg) :
    Post K C R W sg io H r (fun b H1 => ∃ io1 S1 a, Ext io H io1 H1 ∧ Den K C io1 S1 H1 ∧ R io1 (Fz io1 H1) a b ∧ PostS K C W io1 H1 (k a S1) Dn) := by
  cases r with
  | ok a S => exact fun b H2 io2 x d q => ⟨io2, S, a, x, d, q, PostS.ext x h⟩
  | err x S => exact fun cls dd H2 io2 x' d q => h cls dd sg H2 io2 x' d (s.ext x') q
  | bad => exact h
theorem tS.seq {r : Env → Store → Res A} {m : RS} (k : Env → A → Store → Fl) (h : tS K C W m Dn sg H) (e' : ∀ e S, m e S = (r e S).fl e (k e)) :
    tR K C R W r sg H fun b H1 => ∃ e S io a, Den K C io S H1 ∧ Slots K C io (Fz io H1) e sg ∧ R io (Fz io H1) a b ∧ PostS K C W io H1 (k e a S) Dn := by
  obtain ⟨e, S, io, d, s, p⟩ := h
  rw [e'] at p
  exact ⟨e, S, io, d, s, (p.of_res s).mono fun b H1 ⟨io1, S1, a, x, d1, q, p1⟩ => ⟨e, S1, io1, a, d1, s.ext x, q, p1⟩⟩
end
def sNil : RS := fun e S => .nx e S
def sSeq (a b : RS) : RS := fun e S => (a e S).andThen b
def sIf (t : RT) (a b : RS) : RS := fun e S => (t e S).fl e fun k S1 => if k = true then a e S1 else b e S1
def sRet (a : RE) : RS := fun e S => (a e S).fl e fun d S1 => .rt d S1
def sExp (a : RE) : RS := fun e S => (a e S).fl e fun _ S1 => .nx e S1
def sSet (i : Nat) (a : RE) : RS := fun e S => (a e S).fl e fun d S1 => .nx (e.set i (some d)) S1
section
variable {X : Cx} {C : Nat → Addr} {W : WX} {st : Stmt} {rest sa sb : List Stmt} {ma mb : RS} {a c : Expr} {ra : RE} {tc : RT} {pos : Pos}
theorem es_nil : PSs X [] (tS X.K C W sNil) := pss_nil.imp fun Dn sg H ⟨e, S, io, d, s, p⟩ => p sg H io (Ext.refl _ _) d s
theorem es_cons (h1 : PS X st (tS X.K C W ma)) (h2 : PSs X rest (tS X.K C W mb)) : PSs X (st :: rest) (tS X.K C W (sSeq ma mb)) :=
  (pss_cons h1 h2).imp fun Dn sg H ⟨e, S, io, d, s, p⟩ => ⟨e, S, io, d, s, by
    unfold sSeq at p
    cases q : ma e S with
    | nx e1 S1 =>
      rw [q] at p
      exact fun sg' H' io' x d' s' => ⟨e1, S1, io', d', s', PostS.ext x p⟩
    | rt d1 S1 => rw [q] at p; exact p
    | er x e1 S1 => rw [q] at p; exact p
    | bad => rw [q] at p; exact p⟩
theorem es_one (h1 : PS X st (tS X.K C W ma)) : PSs X [st] (tS X.K C W ma) := pss_one h1
theorem s_if (hc : PT X c (tT X.K C W tc)) (ha : PSs X sa (tS X.K C W ma)) (hb : PSs X sb (tS X.K C W mb)) : PS X (.If c sa sb pos) (tS X.K C W (sIf tc ma mb)) :=
  (ps_if hc ha hb).imp fun Dn sg H h => (tS.seq (R := EqR) (fun e k S1 => if k = true then ma e S1 else mb e S1) h fun _ _ => rfl).mono fun k H1 ⟨e, S, io, k1, d, s, q, p⟩ => by
    cases q
    cases k with
    | true => exact ⟨e, S, io, d, s, p⟩
    | false => exact ⟨e, S, io, d, s, p⟩
theorem s_ret (ha : PE X a (tE X.K C W ra)) : PS X (.Return (some a) pos) (tS X.K C W (sRet ra)) :=
  (ps_ret ha).imp fun Dn sg H h => (tS.seq (R := RepR X.K C) (fun e d S1 => .rt d S1) h fun _ _ => rfl).mono fun v H1 ⟨e, S, io, k1, d, s, q, p⟩ => p v H1 io (Ext.refl _ _) d q
theorem s_exp (ha : PE X a (tE X.K C W ra)) (hs : swapsWith a none pos.line X.env = pure false := by rfl) : PS X (.Expr a pos) (tS X.K C W (sExp ra)) :=
  (ps_expr ha hs).imp fun Dn sg H h => (tS.seq (R := RepR X.K C) (fun e d S1 => .nx e S1) h fun _ _ => rfl).mono fun v H1 ⟨e, S, io, k1, d, s, q, p⟩ => p sg H1 io (Ext.refl _ _) d s
theorem s_set (i : Nat) {x : Str} {pos' : Pos} (hN : X.N.Nodup) (ha : PE X a (tE X.K C W ra)) (hi : X.N[i]? = some x := by rfl) (hx : Loc X.env.scope x := by first | exact Or.inl rfl | exact Or.inr rfl) (hs : swapsWith a (some (.Name x pos')) pos.line X.env = pure false := by rfl)
    (hf : X.fn x = true ∨ X.env.scope.names.lookup x = some .local := by first | exact .inl rfl | exact .inr rfl | assumption) : PS X (.Assign [.Name x pos'] a pos) (tS X.K C W (sSet i ra)) :=
  (ps_set hN hi hx ha hs hf).imp fun Dn sg H h => (tS.seq (R := RepR X.K C) (fun e d S1 => .nx (e.set i (some d)) S1) h fun _ _ => rfl).mono fun v H1 ⟨e, S, io, k1, d, s, q, p⟩ => p _ H1 io (Ext.refl _ _) d (s.set i q)
end
def setAll {A : Type} : List Nat → List A → List (Option A) → List (Option A)
  | i :: is, d :: ds, e => setAll is ds (e.set i (some d))
  | _, _, e => e
def parts (S : Store) : D → Option (List D)
  | .tup xs => some xs
  | d => asL S d
inductive Tg where
  | nm (i : Nat)
  | tp (is : List Nat)
  | tn (qs : List (Nat ⊕ List Nat))
def bindN (S : Store) : List (Nat ⊕ List Nat) → List D → Env → Option Env
  | [], [], e => some e
  | .inl i :: qs, d :: ds, e => bindN S qs ds (e.set i (some d))
  | .inr is :: qs, d :: ds, e => (parts S d).bind fun xs => if xs.length = is.length then bindN S qs ds (setAll is xs e) else none
  | _, _, _ => none
def tnIx : List (Nat ⊕ List Nat) → List Nat
  | [] => []
  | .inl i :: qs => i :: tnIx qs
  | .inr is :: qs => is ++ tnIx qs
def bindT (S : Store) (d : D) (e : Env) : Tg → Option Env
  | .nm i => some (e.set i (some d))
  | .tp is => (parts S d).bind fun ds => if ds.length = is.length then some (setAll is ds e) else none
  | .tn qs => (parts S d).bind fun ds => bindN S qs ds e
theorem setAll_slots {K : PySem.W.Frag} {C : Nat → Addr} {io : Io} {F : Hp} : ∀ (is : List Nat) {ds : List D} {vs : List V} {e : Env} {sg : L2.St}, Slots K C io F e sg → Reps K C io F ds vs → Slots K C io F (setAll is ds e) (setAll is vs sg)
  | [], _, _, _, _, s, _ => s
  | _ :: _, _, _, _, _, s, .nil => s
  | i :: is, _, _, _, _, s, .cons h r => setAll_slots is (s.set i h) r
def Tg.ixs : Tg → List Nat
  | .nm i => [i]
  | .tp is => is
  | .tn qs => tnIx qs
def Agree (t : Tg) (sg sg' : L2.St) : Prop := ∀ vs : List Nat, (∀ i ∈ t.ixs, i ∈ vs) → wipe sg' vs = wipe sg vs
theorem wipe_get (sg : L2.St) (j : Nat) : ∀ vs : List Nat, (wipe sg vs)[j]? = if j ∈ vs then (if j < sg.length then some none else none) else sg[j]?
  | [] => by simp [wipe]
  | v :: vs => by
    have ih := wipe_get sg j vs
    have hl := wipe_length sg vs
    unfold wipe
    by_cases hv : j = v
    · subst hv
      by_cases hj : j < sg.length
      · rw [List.getElem?_set_self (by rw [hl]; exact hj)]
        simp [hj]
      · rw [List.getElem?_eq_none (by rw [List.length_set, hl]; omega)]
        simp [hj]
    · rw [List.getElem?_set_ne (Ne.symm hv), ih]
      simp [hv]
theorem wipe_set (sg : L2.St) (i : Nat) (x : Option V) {vs : List Nat} (h : i ∈ vs) : wipe (sg.set i x) vs = wipe sg vs := by
  apply List.ext_getElem?
  intro j
  rw [wipe_get, wipe_get, List.length_set]
  by_cases hj : j ∈ vs
  · simp [hj]
  · have : i ≠ j := fun e => hj (e ▸ h)
    rw [if_neg hj, if_neg hj, List.getElem?_set_ne this]
theorem wipe_setAll : ∀ (is : List Nat) (us : List V) (sg : L2.St) {vs : List Nat}, (∀ i ∈ is, i ∈ vs) → wipe (setAll is us sg) vs = wipe sg vs
  | [], _, _, _, _ => by simp [setAll]
  | i :: is, [], sg, vs, h => by simp [setAll]
  | i :: is, u :: us, sg, vs, h => by
    show wipe (setAll is us (sg.set i (some u))) vs = wipe sg vs
    rw [wipe_setAll is us _ (fun j hj => h j (List.mem_cons_of_mem _ hj)), wipe_set _ _ _ (h i List.mem_cons_self)]
def GD (X : Cx) (C : Nat → Addr) (tg : Expr) (t : Tg) : Prop :=
  PG X tg (fun v sg H Q => ∃ e S io d e', Den X.K C io S H ∧ Slots X.K C io (Fz io H) e sg ∧ Rep X.K C io (Fz io H) d v ∧ bindT S d e t = some e' ∧ ∀ sg', Slots X.K C io (Fz io H) e' sg' → Agree t sg sg' → Q sg' H)
theorem _root_.L2.PG.imp {X : Cx} {e : Expr} {t t' : TG} (h : PG X e t) (hi : ∀ v sg H Q, t' v sg H Q → t v sg H Q) : PG X e t' := ⟨fun pins s sg H v u Q I r hw => h.run pins s sg H v u Q I r (hi _ _ _ _ hw)⟩
theorem _root_.L2.PG.or {X : Cx} {e : Expr} {t t' : TG} (h : PG X e t) (h' : PG X e t') : PG X e (fun v sg H Q => t v sg H Q ∨ t' v sg H Q) := ⟨fun pins s sg H v u Q I r hw => hw.elim (h.run pins s sg H v u Q I r) (h'.run pins s sg H v u Q I r)⟩
section
variable {X : Cx} {C : Nat → Addr} {W : WX} {pos : Pos}
theorem g_nm (i : Nat) {x : Str} (hN : X.N.Nodup) (hi : X.N[i]? = some x := by rfl) (hx : Loc X.env.scope x := by first | exact Or.inl rfl | exact Or.inr rfl) (hf : X.fn x = true ∨ X.env.scope.names.lookup x = some .local := by first | exact .inl rfl | exact .inr rfl | assumption) : GD X C (.Name x pos) (.nm i) :=
  (pg_name hN hi hx hf).imp fun v sg H Q ⟨e, S, io, d, e', dn, s, r, b, q⟩ => by cases b; exact q _ (s.set i r) fun vs h => wipe_set _ _ _ (h i (by simp [Tg.ixs]))
def gAll (is : List Nat) : TGs := fun vs sg H Q => vs.length = is.length ∧ Q (setAll is vs sg) H
theorem gs_nil : PGs X [] (gAll []) := ⟨fun pins s sg H vs us Q I r h => pgs_nil.run pins s sg H vs us Q I r ⟨List.eq_nil_of_length_eq_zero h.1, by
  have := List.eq_nil_of_length_eq_zero h.1
  subst this
  exact h.2⟩⟩
theorem gs_cons (i : Nat) {is : List Nat} {x : Str} {es : List Expr} (hN : X.N.Nodup) (h2 : PGs X es (gAll is)) (hi : X.N[i]? = some x := by rfl) (hx : Loc X.env.scope x := by first | exact Or.inl rfl | exact Or.inr rfl) (hf : X.fn x = true ∨ X.env.scope.names.lookup x = some .local := by first | exact .inl rfl | exact .inr rfl | assumption) :
    PGs X (.Name x pos :: es) (gAll (i :: is)) := ⟨fun pins s sg H vs us Q I r h => (pgs_cons (pg_name hN hi hx hf) h2).run pins s sg H vs us Q I r (by
  obtain ⟨hl, h⟩ := h
  cases vs with
  | nil => cases hl
  | cons v vr => exact ⟨v, vr, rfl, by simpa using hl, h⟩)⟩
theorem g_tp {is : List Nat} {es : List Expr} {k : Nat} (hc : X.calm = true) (h : PGs X es (gAll is)) (hn : (assignEach es X.env).length = is.length := by rfl) (hst : (assignEach es X.env).findIdx? (·.1) = none := by rfl) : GD X C (.Tuple es k pos) (.tp is) :=
  ((pg_tup hc h hn hst).or (pg_lst hc h hn hst)).imp fun v sg H Q ⟨e, S, io, d, e', dn, s, r, b, q⟩ => by
    obtain ⟨ds, h1, h2⟩ := bind_some' b
    split at h2
    · rename_i hl
      cases h2
      unfold parts at h1
      split at h1
      · cases h1
        cases r with
        | tup q1 rs => exact .inl ⟨_, _, rfl, sqT_same (Fz_same _ _) q1, by rw [← rs.length]; exact hl, by rw [← rs.length]; exact hl, q _ (setAll_slots is s rs) fun vs h => wipe_setAll is _ _ h⟩
      · obtain ⟨p, vs, rfl, hq, rs⟩ := asL_rep h1 dn r
        exact .inr ⟨_, _, rfl, hq, by rw [← rs.length]; exact hl, by rw [← rs.length]; exact hl, q _ (setAll_slots is s rs) fun vs h => wipe_setAll is _ _ h⟩
    · cases h2
def gN (K : PySem.W.Frag) (C : Nat → Addr) (qs : List (Nat ⊕ List Nat)) : TGs := fun vs sg H Q => ∃ e S io ds e', Den K C io S H ∧ Slots K C io (Fz io H) e sg ∧ Reps K C io (Fz io H) ds vs ∧ bindN S qs ds e = some e' ∧ ∀ sg', Slots K C io (Fz io H) e' sg' → (∀ ws : List Nat, (∀ i ∈ tnIx qs, i ∈ ws) → wipe sg' ws = wipe sg ws) → Q sg' H
def sAsg (t : Tg) (a : RE) : RS := fun e S => (a e S).fl e fun d S1 => match bindT S1 d e t with
  | some e' => .nx e' S1
  | none => .bad
theorem s_asg {a tg : Expr} {t : Tg} {ra : RE} (ha : PE X a (tE X.K C W ra)) (hg : GD X C tg t) (hs : swapsWithSole [tg] a pos.line X.env = pure false := by rfl) (hw : swappedStores [tg] a X.env = pure none := by rfl)
    (h1 : (assignEach [tg] X.env).map (·.2) = [assign tg X.env] := by rfl) : PS X (.Assign [tg] a pos) (tS X.K C W (sAsg t ra)) :=
  (ps_asg ha hg hs hw h1).imp fun Dn sg H h => (tS.seq (R := RepR X.K C) (fun e d S1 => match bindT S1 d e t with | some e' => .nx e' S1 | none => .bad) h fun _ _ => rfl).mono fun v H1 ⟨e, S, io, k1, d, s, q, p⟩ => by
    cases hb : bindT S k1 e t with
    | none => rw [hb] at p; exact p.elim
    | some e' =>
      rw [hb] at p
      exact ⟨e, S, io, k1, e', d, s, q, hb, fun sg' s' _ => p sg' H1 io (Ext.refl _ _) d s'⟩
def sPar (is : List Nat) (as : RA) : RS := fun e S => (as e S).fl e fun ds S1 => if ds.length = is.length then .nx (setAll is ds e) S1 else .bad
theorem s_par3 (i j l : Nat) {x y z : Str} {a b c : Expr} {rs : RA} {px py pz pt : Pos} {kt k2 pt2} (hc : X.calm = true) (hN : X.N.Nodup) (ha : PA X [a, b, c] (tA X.K C W rs)) (hi : X.N[i]? = some x := by rfl) (hj : X.N[j]? = some y := by rfl) (hl : X.N[l]? = some z := by rfl) (hij : i ≠ j := by decide) (hil : i ≠ l := by decide) (hjl : j ≠ l := by decide)
    (hx : X.env.scope.names.lookup x = some .local := by rfl) (hy : X.env.scope.names.lookup y = some .local := by rfl) (hz : X.env.scope.names.lookup z = some .local := by rfl)
    (hw : swappedStores [.Tuple [.Name x px, .Name y py, .Name z pz] kt pt] (.Tuple [a, b, c] k2 pt2) X.env = pure (some [x, y, z]) := by rfl)
    (hs : swapsWithSole [.Tuple [.Name x px, .Name y py, .Name z pz] kt pt] (.Tuple [a, b, c] k2 pt2) pos.line X.env = pure false := by rfl) :
    PS X (.Assign [.Tuple [.Name x px, .Name y py, .Name z pz] kt pt] (.Tuple [a, b, c] k2 pt2) pos) (tS X.K C W (sPar [i, j, l] rs)) :=
  (ps_par3 hc hN hi hj hl hij hil hjl hx hy hz ha hw hs).imp fun Dn sg H h => (tS.seq (R := RepsR X.K C) (fun e ds S1 => if ds.length = [i, j, l].length then .nx (setAll [i, j, l] ds e) S1 else .bad) h fun _ _ => rfl).mono fun vs H1 ⟨e, S, io, k1, d, s, q, p⟩ => by
    split at p
    · rename_i hl
      match k1, vs, q, hl with
      | [d1, d2, d3], [v1, v2, v3], q, hl => exact ⟨v1, v2, v3, rfl, p _ H1 io (Ext.refl _ _) d (setAll_slots [i, j, l] s q)⟩
      | [_, _, _], [_, _], q, hl => exact nomatch q.length
      | [_, _, _], [_], q, hl => exact nomatch q.length
      | [_, _, _], [], q, hl => exact nomatch q.length
      | [_, _, _], _ :: _ :: _ :: _ :: _, q, hl => exact nomatch q.length
    · exact p.elim
end
def Fl.res : Fl → Res D
  | .nx _ S1 => .ok .non S1
  | .rt d S1 => .ok d S1
  | .er x _ S1 => .err x S1
  | .bad => .bad
def runDef (n : Nat) (m : RS) (ds : List D) (S : Store) : Res D := (m (ds.map some ++ List.replicate (n - ds.length) none) S).res
def spOf (K : PySem.W.Frag) (C : Nat → Addr) (n : Nat) (g : List D → Store → Res D) : Sp := fun vs H Q E =>
  vs.length = n ∧ ∃ ds S io, Den K C io S H ∧ Reps K C io (Fz io H) ds vs ∧ Post K C (RepR K C) (fun cls dd _ H' => E cls dd H') [] io H (g ds S) Q
theorem slots_start {K : PySem.W.Frag} {C : Nat → Addr} {io : Io} {F : Hp} {N : List Str} {ds : List D} {vs : List V} (r : Reps K C io F ds vs) : Slots K C io F (ds.map some ++ List.replicate (N.length - ds.length) none) (L2.start N vs) := by
  refine ⟨by simp [L2.start, r.length], fun i d h => ?_⟩
  by_cases hi : i < ds.length
  · rw [List.getElem?_append_left (by simpa using hi), List.getElem?_map] at h
    cases e : ds[i]? with
    | none => rw [e] at h; cases h
    | some x =>
      rw [e] at h
      cases h
      obtain ⟨v, h1, h2⟩ := r.get e
      refine ⟨v, ?_, h2⟩
      unfold L2.start
      rw [List.getElem?_append_left (by rw [List.length_map, ← r.length]; exact hi), List.getElem?_map, h1]
      rfl
  · rw [List.getElem?_append_right (by simpa using hi), List.getElem?_replicate] at h
    split at h <;> cases h
section
variable {P : Program} {w : World} {K : PySem.W.Frag} {mg : Str → Option Value} {base : Heap} {C : Nat → Addr}
theorem fn_ev {x qual : Str} {st : Stmt} {f : Addr} {fd : FuncData} {N ps : List Str} {k : Nat} {m : RS} (F : Fun K x qual st f fd) (S : FnScope N ps (defScope st))
    (hbody : ∀ (cdv : Value) (A : Around) (outer : List PySem.Env) (s : Shared) (H : Hp) (E : XK), Room k (A.deeper (PyProof.Rows.envOfC qual (defScope st) s.heap.objs.size f cdv)) →
      L2N.Takes (cxOf (L2N.CX P w) P w K mg base N qual (defScope st) f cdv A outer s H E) (fun cls d _ H => E cls d H) →
      PassesOwn (model P w) (cxOf (L2N.CX P w) P w K mg base N qual (defScope st) f cdv A outer s H E).A (cxOf (L2N.CX P w) P w K mg base N qual (defScope st) f cdv A outer s H E).env (cxOf (L2N.CX P w) P w K mg base N qual (defScope st) f cdv A outer s H E).xe →
      PSs (cxOf (L2N.CX P w) P w K mg base N qual (defScope st) f cdv A outer s H E) (defBody st) (tS K C (fun cls d _ H => E cls d H) m)) :
    FnOk P w K mg base (L2N.CX P w) (k + 1) f fd ps (spOf K C ps.length (runDef N.length m)) := by
  refine F.okN S (fun vs H Q E h => h.1) (fun cdv A outer s H vs Q E hr h => ?_)
  refine ⟨_, hbody cdv A outer s H E hr (L2N.takes_of rfl rfl rfl rfl) (passes_of rfl), ?_⟩
  obtain ⟨hl, ds, S, io, dn, rs, p⟩ := h
  refine ⟨_, S, io, dn, slots_start rs, ?_⟩
  unfold runDef Fl.res at p
  split at p
  · rename_i e S1 q
    rw [q]
    exact fun sg H' io' x d s => p _ H' io' x d .non
  · rename_i d S1 q
    rw [q]
    exact p
  · rename_i x e S1 q
    rw [q]
    exact fun cls dd sg H' io' x d s xr => p cls dd H' io' x d xr
  · exact p.elim
end
def rCall (g : List D → Store → Res D) (as : RA) : RE := fun e S => (as e S).bind fun ds S1 => g ds S1
end Ev
namespace Ev
open PySem PySem.Spec L2
def Wk (K : PySem.W.Frag) (C : Nat → Addr) : Io → Hp → List D → It → Prop := fun io F ds J =>
  ∀ (io' : Io) (H' : Hp) (S' : Store), (∀ (n : Nat) (a : Addr), io.l[n]? = some a → io'.l[n]? = some a) → Same F (Fz io' H') → Den K C io' S' H' →
    (∀ i, i < ds.length → J.go i H') ∧ J.stop ds.length H' ∧ ∀ i x H'', i < ds.length → J.yld i H' x H'' → ∃ d, ds[i]? = some d ∧ Ext io' H' io' H'' ∧ Den K C io' S' H'' ∧ Rep K C io' (Fz io' H'') d x
abbrev tI (K : PySem.W.Frag) (C : Nat → Addr) (W : WX) (r : RA) : TI := tR K C (Wk K C) W r
theorem wk_list {K : PySem.W.Frag} {C : Nat → Addr} {io : Io} {F : Hp} {a : Addr} {vs : List V} {ds : List D} (h : SqL K F a vs) (r : Reps K C io F ds vs) : Wk K C io F ds (Itl K a) := fun io' H' S' hp hs dn => by
  have h' : SqL K H' a vs := (Fz_same _ _).seq (hs.seq h)
  refine ⟨fun i hi => ?_, ⟨vs, h', by rw [r.length]; exact Nat.le_refl _⟩, fun i x H'' hi y => ?_⟩
  · have hv : i < vs.length := by rw [← r.length]; exact hi
    exact ⟨vs, vs[i], h', by simp [hv]⟩
  · obtain ⟨rfl, y⟩ := y
    obtain ⟨d, e1, e2⟩ := r.getV (y vs h')
    exact ⟨d, e1, Ext.refl _ _, dn, e2.mono hp hs⟩
theorem wk_tup {K : PySem.W.Frag} {C : Nat → Addr} {io : Io} {F : Hp} {a : Addr} {vs : List V} {ds : List D} (h : SqT K F a vs) (r : Reps K C io F ds vs) : Wk K C io F ds (Itt K a) := fun io' H' S' hp hs dn => by
  have h' : SqT K H' a vs := sqT_same (Fz_same _ _) (sqT_same hs h)
  refine ⟨fun i hi => ?_, ⟨vs, h', by rw [r.length]; exact Nat.le_refl _⟩, fun i x H'' hi y => ?_⟩
  · have hv : i < vs.length := by rw [← r.length]; exact hi
    exact ⟨vs, vs[i], h', by simp [hv]⟩
  · obtain ⟨rfl, y⟩ := y
    obtain ⟨d, e1, e2⟩ := r.getV (y vs h')
    exact ⟨d, e1, Ext.refl _ _, dn, e2.mono hp hs⟩
def rangeD (lo : Int) (n : Nat) : List D := (List.range n).map fun (i : Nat) => D.int (lo + (i : Int))
theorem wk_range {K : PySem.W.Frag} {C : Nat → Addr} {io : Io} {F : Hp} (lo : Int) (n : Nat) : Wk K C io F (rangeD lo n) (Itr lo n) := fun io' H' S' hp hs dn => by
  refine ⟨fun i hi => by show i < n; simpa [rangeD] using hi, by show n ≤ _; simp [rangeD], fun i x H'' hi y => ?_⟩
  obtain ⟨rfl, rfl⟩ := y
  have hi' : i < n := by simpa [rangeD] using hi
  exact ⟨.int (lo + i), by simp [rangeD, hi'], Ext.refl _ _, dn, .int _⟩
theorem _root_.L2.PI.imp {X : Cx} {tg e : Expr} {t t' : TI} (h : PI X tg e t) (hi : ∀ sg H Q, t' sg H Q → t sg H Q) : PI X tg e t' := ⟨fun pins s sg H Q I hw => h.run pins s sg H Q I (hi _ _ _ hw)⟩
theorem _root_.L2.PI.or {X : Cx} {tg e : Expr} {t t' : TI} (h : PI X tg e t) (h' : PI X tg e t') : PI X tg e (fun sg H Q => t sg H Q ∨ t' sg H Q) := ⟨fun pins s sg H Q I hw => hw.elim (h.run pins s sg H Q I) (h'.run pins s sg H Q I)⟩
def signsD (x : Str) : List D := x.cps.toList.map fun c => .str ⟨#[c]⟩
def itemsD : D → Option (List D)
  | .tup xs => some xs
  | .lst xs => some xs
  | .str x => some (signsD x)
  | _ => none
theorem wk_str {K : PySem.W.Frag} {C : Nat → Addr} {io : Io} {F : Hp} (x : Str) : Wk K C io F (signsD x) (Its x) := fun io' H' S' hp hs dn => by
  have hl : (signsD x).length = x.cps.size := by simp [signsD]
  refine ⟨fun i hi => by rw [hl] at hi; exact hi, by show x.cps.size ≤ _; rw [hl]; exact Nat.le_refl _, fun i v H'' hi y => ?_⟩
  obtain ⟨rfl, c, hc, rfl⟩ := y
  exact ⟨.str ⟨#[c]⟩, by simp [signsD, hc], Ext.refl _ _, dn, .str _⟩
def rIt (a : RE) : RA := fun e S => (a e S).bind fun d S1 => ofO (itemsD d) S1
def ran1 : List D → Option (List D)
  | [.int j] => if -(2 ^ 62) ≤ j ∧ j < 2 ^ 62 then some (rangeD 0 j.toNat) else none
  | _ => none
def ran2 : List D → Option (List D)
  | [.int i, .int j] => if -(2 ^ 62) ≤ i ∧ i < 2 ^ 62 ∧ -(2 ^ 62) ≤ j ∧ j < 2 ^ 62 then some (rangeD i (j - i).toNat) else none
  | _ => none
def rRan (f : List D → Option (List D)) (as : RA) : RA := fun e S => (as e S).bind fun ds S1 => ofO (f ds) S1
section
variable {X : Cx} {C : Nat → Addr} {W : WX} {tg a b : Expr} {ra : RE} {rs : RA} {pos p : Pos}
theorem ei_seq (ha : PE X a (tE X.K C W ra)) : PI X tg a (tI X.K C W (rIt ra)) := by
  have hi : PI X tg a (fun sg H R => tE X.K C W ra sg H fun x H1 => (∃ p, x = .ref p ∧ (∃ xs, SqL X.K H1 p xs) ∧ R (Itl X.K p) H1) ∨ (∃ p, x = .ref p ∧ (∃ xs, SqT X.K H1 p xs) ∧ R (Itt X.K p) H1) ∨ (∃ z, x = .str z ∧ R (Its z) H1)) := by
    refine ⟨fun pins s sg H R I h => ?_⟩
    refine thn (ha.run pins s sg H _ I h) fun v s1 ⟨x, H1, I1, r1, q1⟩ => ?_
    rcases q1 with ⟨p, rfl, ⟨xs, hq⟩, q⟩ | ⟨p, rfl, ⟨xs, hq⟩, q⟩ | ⟨z, rfl, q⟩
    · cases r1
      obtain ⟨its, rv, pl, hz⟩ := I1.list hq
      refine wpAny_pyIter_list pl.isList ?_
      refine ⟨s1.heap.objs.size, [s1.heap.objs.size], _, _, H1, rfl, I1.kept (t' := s1.toks) fun b o e => Heap.get?_push_of_some _ e, turn_list p _, ⟨_, Heap.get?_push_size _ rfl, rfl, rfl⟩, fun b hb => ?_, q⟩
      have e : b = s1.heap.objs.size := by simpa using hb
      subst e
      exact I1.fpOk (Nat.le_refl _) (I1.hok.fresh (Nat.le_refl _))
    · cases r1
      obtain ⟨its, rv, pl, hz⟩ := I1.tuple hq
      refine wpAny_pyIter_tuple (show s1.heap.IsTuple p its.toArray from pl) ?_
      refine ⟨s1.heap.objs.size, [s1.heap.objs.size], _, _, H1, rfl, I1.kept (t' := s1.toks) fun b o e => Heap.get?_push_of_some _ e, turn_tuple p _, ⟨_, Heap.get?_push_size _ rfl, rfl, rfl⟩, fun b hb => ?_, q⟩
      have e : b = s1.heap.objs.size := by simpa using hb
      subst e
      exact I1.fpOk (Nat.le_refl _) (I1.hok.fresh (Nat.le_refl _))
    · obtain ⟨t, rfl⟩ := r1
      cases ha : z.cps.all (· < 128)
      · exact wpAny_pyIter_wide ha (pi_one (tk := s1.toks) I1 _ (turn_str _ z t "str_iterator" (.inr rfl)) ⟨_, Heap.get?_push_size _ rfl, rfl, rfl⟩ q)
      · exact wpAny_pyIter_ascii ha (pi_one (tk := s1.toks) I1 _ (turn_str _ z t "str_ascii_iterator" (.inl rfl)) ⟨_, Heap.get?_push_size _ rfl, rfl, rfl⟩ q)
  refine hi.imp fun sg H R h => (tR.seq1 (R := RepR X.K C) (fun _ d S => ofO (itemsD d) S) h fun _ _ => rfl).mono fun x H1 ⟨e, S, io, d, dn, s, r, p⟩ => ?_
  obtain ⟨ds, ed, p⟩ := p.ofO
  cases r with
  | tup q rs => cases ed; exact .inr (.inl ⟨_, rfl, ⟨_, sqT_same (Fz_same _ _) q⟩, p _ H1 io (Ext.refl _ _) dn (wk_tup q rs)⟩)
  | str z => cases ed; exact .inr (.inr ⟨_, rfl, p _ H1 io (Ext.refl _ _) dn (wk_str z)⟩)
  | lst q rs => cases ed; exact .inl ⟨_, rfl, ⟨_, (Fz_same _ _).seq q⟩, p _ H1 io (Ext.refl _ _) dn (wk_list q rs)⟩
  | _ => cases ed
theorem ei_range1 (hg : Gl X "range") (hm : X.mg "range" = none) (ha : PA X [a] (tA X.K C W rs)) (hs : starEach [a] X.env = [(false, eval a X.env)] := by rfl) : PI X tg (.Call (.Name "range" p) [a] [] pos) (tI X.K C W (rRan ran1 rs)) :=
  (pi_range1 hg hm ha hs).imp fun sg H R h => (tR.seq1 (R := RepsR X.K C) (fun _ ds S => ofO (ran1 ds) S) h fun _ _ => rfl).mono fun vs H1 ⟨e, S, io, ds, dn, s, r, p1⟩ => by
    obtain ⟨zs, ed, p1⟩ := p1.ofO
    unfold ran1 at ed
    split at ed
    · split at ed
      · rename_i hj
        cases ed
        obtain ⟨v, rfl, h⟩ := reps1 r
        cases h
        exact ⟨_, rfl, hj.1, hj.2, p1 _ H1 io (Ext.refl _ _) dn (wk_range 0 _)⟩
      · cases ed
    · cases ed
theorem ei_range2 (hg : Gl X "range") (hm : X.mg "range" = none) (ha : PA X [a, b] (tA X.K C W rs)) (hs : starEach [a, b] X.env = [(false, eval a X.env), (false, eval b X.env)] := by rfl) (hs2 : starEach [b] X.env = [(false, eval b X.env)] := by rfl) : PI X tg (.Call (.Name "range" p) [a, b] [] pos) (tI X.K C W (rRan ran2 rs)) :=
  (pi_range2 hg hm ha hs hs2).imp fun sg H R h => (tR.seq1 (R := RepsR X.K C) (fun _ ds S => ofO (ran2 ds) S) h fun _ _ => rfl).mono fun vs H1 ⟨e, S, io, ds, dn, s, r, p1⟩ => by
    obtain ⟨zs, ed, p1⟩ := p1.ofO
    unfold ran2 at ed
    split at ed
    · split at ed
      · rename_i hj
        cases ed
        obtain ⟨v, u, rfl, h, h2⟩ := reps2 r
        cases h; cases h2
        exact ⟨_, _, rfl, hj, p1 _ H1 io (Ext.refl _ _) dn (wk_range _ _)⟩
      · cases ed
    · cases ed
end
def forL (t : Tg) (body : RS) : List D → RS
  | [], e, S => .nx e S
  | d :: ds, e, S => match bindT S d e t with
    | none => .bad
    | some e1 => (body e1 S).andThen (forL t body ds)
def sFor (it : RA) (t : Tg) (body : RS) : RS := fun e S => (it e S).fl e fun ds S1 => forL t body ds e S1
section
variable {X : Cx} {C : Nat → Addr} {W : WX} {tg iter c : Expr} {ri : RA} {body : List Stmt} {mb : RS} {t : Tg} {tc : RT} {pos : Pos}
theorem s_for (hp : PassesOwn (model X.prog X.w) X.A X.env X.xe) (hc : X.calm = true) (hi : PI X tg iter (tI X.K C W ri)) (hg : GD X C tg t) (hb : PSs X body (tS X.K C W mb)) (hs : ∀ x, foldedSetIterable iter X.env x = pure x := by intro _; rfl) :
    PS X (.For tg iter body [] pos) (tS X.K C W (sFor ri t mb)) :=
  (ps_for hp hc hi hg hb hs).imp fun Dn sg H h => (tS.seq (R := Wk X.K C) (fun e ds S1 => forL t mb ds e S1) h fun _ _ => rfl).mono fun J H1 ⟨e, S, io, ds, dn, s, wk, p⟩ => by
    refine ⟨fun i m sg' H' => m + i = ds.length ∧ ∃ e' S' io', Ext io H1 io' H' ∧ Den X.K C io' S' H' ∧ Slots X.K C io' (Fz io' H') e' sg' ∧ PostS X.K C W io' H' (forL t mb (ds.drop i) e' S') Dn,
      ⟨ds.length, rfl, e, S, io, Ext.refl _ _, dn, s, p⟩, fun i m sg' H' ⟨hm, e', S', io', x', d', s', p'⟩ => ?_⟩
    obtain ⟨go, stop, yld⟩ := wk io' H' S' x'.pre x'.same d'
    by_cases hi : i < ds.length
    · rw [List.drop_eq_getElem_cons hi] at p'
      refine .inr ⟨go i hi, fun sg2 H2 => ∃ e2 S2 io2, Ext io H1 io2 H2 ∧ Den X.K C io2 S2 H2 ∧ Slots X.K C io2 (Fz io2 H2) e2 sg2 ∧ PostS X.K C W io2 H2 (forL t mb (ds.drop (i + 1)) e2 S2) Dn, fun sg2 H2 h2 => ⟨m - 1, by omega, by omega, h2⟩, fun x H2 y => ?_⟩
      obtain ⟨d, ed, x2, d2, r2⟩ := yld i x H2 hi y
      have ed' : ds[i] = d := by rw [List.getElem?_eq_getElem hi] at ed; exact Option.some.inj ed
      rw [ed'] at p'
      unfold forL at p'
      cases hb : bindT S' d e' t with
      | none => rw [hb] at p'; exact p'.elim
      | some e1 =>
        rw [hb] at p'
        refine ⟨e', S', io', d, e1, d2, s'.ext x2, r2, hb, fun sg3 s3 _ => ⟨e1, S', io', d2, s3, ?_⟩⟩
        have p2 := PostS.ext x2 p'
        cases q : mb e1 S' with
        | nx e4 S4 =>
          simp only [q, Fl.andThen] at p2
          exact fun sg4 H4 io4 x4 d4 s4 => ⟨e4, S4, io4, (x'.trans x2).trans x4, d4, s4, PostS.ext x4 p2⟩
        | rt d4 S4 => simp only [q, Fl.andThen] at p2; exact p2
        | er x4 e4 S4 => simp only [q, Fl.andThen] at p2; exact p2
        | bad => simp only [q, Fl.andThen] at p2; exact p2
    · have e1 : ds.length = i := by omega
      rw [List.drop_of_length_le (by omega)] at p'
      rw [e1] at stop
      exact .inl ⟨stop, p' sg' H' io' (Ext.refl _ _) d' s'⟩
def whileN (c : RT) (body : RS) : Nat → RS
  | 0, _, _ => .bad
  | n + 1, e, S => (c e S).fl e fun k S1 => if k = true then (body e S1).andThen (whileN c body n) else .nx e S1
theorem s_while (n : Nat) (hp : PassesOwn (model X.prog X.w) X.A X.env X.xe) (hc : PT X c (tT X.K C W tc)) (hb : PSs X body (tS X.K C W mb)) : PS X (.While c body [] pos) (tS X.K C W (whileN tc mb n)) :=
  (ps_while hp hc hb).imp fun Dn sg H ⟨e, S, io, dn, s, p⟩ => by
    refine ⟨fun m sg' H' => tS X.K C W (whileN tc mb m) Dn sg' H', ⟨n, e, S, io, dn, s, p⟩, fun m sg' H' h' => ?_⟩
    cases m with
    | zero => obtain ⟨_, _, _, _, _, p'⟩ := h'; exact p'.elim
    | succ m =>
      refine (tS.seq (R := EqR) (m := whileN tc mb (m + 1)) (fun e k S1 => if k = true then (mb e S1).andThen (whileN tc mb m) else .nx e S1) h' fun _ _ => rfl).mono fun k H1 ⟨e1, S1, io1, k1, d1, s1, q, p1⟩ => ?_
      cases q
      cases k with
      | false => exact p1 sg' H1 io1 (Ext.refl _ _) d1 s1
      | true =>
        refine ⟨tS X.K C W (whileN tc mb m) Dn, fun sg2 H2 h2 => ⟨m, Nat.lt_succ_self m, h2⟩, e1, S1, io1, d1, s1, ?_⟩
        rw [if_pos rfl] at p1
        cases q : mb e1 S1 with
        | nx e4 S4 =>
          simp only [q, Fl.andThen] at p1
          exact fun sg4 H4 io4 x4 d4 s4 => ⟨e4, S4, io4, d4, s4, PostS.ext x4 p1⟩
        | rt d4 S4 => simp only [q, Fl.andThen] at p1; exact p1
        | er x4 e4 S4 => simp only [q, Fl.andThen] at p1; exact p1
        | bad => simp only [q, Fl.andThen] at p1; exact p1
end
def putIx (S : Store) (o i v : D) : Option Store := match o, i with
  | .loc n, .int k => match S[n]? with
    | some (.lst xs) => (ixN xs.length k).bind fun j => some (S.set n (.lst (xs.set j v)))
    | _ => none
  | _, _ => none
def sPutIx (a o i : RE) : RS := fun e S => (a e S).fl e fun v S1 => (o e S1).fl e fun x S2 => (i e S2).fl e fun y S3 => match putIx S3 x y v with
  | some S4 => .nx e S4
  | none => .bad
def sAug (i : Nat) (f : Store → D → D → Option D) (a : RE) : RS := fun e S => match e[i]? with
  | some (some x) => (a e S).fl e fun y S1 => match f S1 x y with
    | some z => .nx (e.set i (some z)) S1
    | none => .bad
  | _ => .bad
section
variable {X : Cx} {C : Nat → Addr} {W : WX} {a o i : Expr} {ra ro ri : RE} {pos tpos : Pos}
theorem Den.list {K : PySem.W.Frag} {io : Io} {S : Store} {H : Hp} {n : Nat} {p : Addr} {xs : List D} (dn : Den K C io S H) (e : S[n]? = some (.lst xs)) (h : io.l[n]? = some p) : ∃ vs, H p = some (.lst vs) ∧ Reps K C io (Fz io H) xs vs := dn.obj n _ p e h
theorem Den.setL {K : PySem.W.Frag} {io : Io} {S : Store} {H : Hp} {n : Nat} {p : Addr} {ys : List D} {us : List V} (dn : Den K C io S H) (h : io.l[n]? = some p) (r : Reps K C io (Fz io H) ys us) : Ext io H io (upd H p (.lst us)) ∧ Den K C io (S.set n (.lst ys)) (upd H p (.lst us)) :=
  have hm : p ∈ io.all := mem_all h
  ⟨Ext.put hm, dn.put h ⟨us, upd_same, by rw [Fz_upd_old hm]; exact r⟩⟩
theorem s_putIx (ha : PE X a (tE X.K C W ra)) (ho : PE X o (tE X.K C W ro)) (hi : PE X i (tE X.K C W ri))
    (hA : ∀ v, assign (.Subscript o i tpos) X.env v = (do
      let ov ← holding [v] (eval o X.env)
      let iv ← holding [v, ov] (eval i X.env)
      standAt tpos
      holding [v, ov, iv] (setItem ov iv v)
      release [v, ov, iv] []) := by intro _; rfl)
    (hs : swapsWithSole [.Subscript o i tpos] a pos.line X.env = pure false := by rfl) (hw : swappedStores [.Subscript o i tpos] a X.env = pure none := by rfl) (h1 : (assignEach [.Subscript o i tpos] X.env).map (·.2) = [assign (.Subscript o i tpos) X.env] := by rfl) :
    PS X (.Assign [.Subscript o i tpos] a pos) (tS X.K C W (sPutIx ra ro ri)) :=
  (ps_asg ha (pg_sub ho hi set_list hA) hs hw h1).imp fun Dn sg H h => (tS.seq (R := RepR X.K C) (fun e v S1 => (ro e S1).fl e fun x S2 => (ri e S2).fl e fun y S3 => match putIx S3 x y v with | some S4 => .nx e S4 | none => .bad) h fun _ _ => rfl).mono fun v H1 ⟨e, S, io, v1, dn, s, r, p⟩ =>
    ⟨e, S, io, dn, s, (p.of_res (R := RepR X.K C) s).mono fun x H2 ⟨io2, S2, x1, x2, d2, r2, p2⟩ => ⟨e, S2, io2, d2, s.ext x2, (p2.of_res (R := RepR X.K C) (s.ext x2)).mono fun y H3 ⟨io3, S3, y1, x3, d3, r3, p3⟩ => by
      cases hp : putIx S3 x1 y1 v1 with
      | none => rw [hp] at p3; exact p3.elim
      | some S4 =>
        rw [hp] at p3
        unfold putIx at hp
        split at hp
        · rename_i n k
          cases r3
          split at hp
          · rename_i xs es
            obtain ⟨j, hj, hp⟩ := bind_some' hp
            cases hp
            cases r2 with
            | loc q =>
              have q3 := x3.pre _ _ q
              obtain ⟨vs, e1, rs⟩ := d3.list es q3
              obtain ⟨xx, dd⟩ := d3.setL (ys := xs.set j v1) q3 (rs.set ((r.ext x2).ext x3) j)
              exact ⟨_, vs, _, j, rfl, rfl, e1, by rw [← rs.length]; exact hj, p3 sg _ io3 xx dd (((s.ext x2).ext x3).ext xx)⟩
          · cases hp
        · cases hp⟩⟩
end
def tyD (S : Store) : D → Option String
  | .non => some "NoneType"
  | .bl _ => some "bool"
  | .int _ => some "int"
  | .str _ => some "str"
  | .tup _ => some "tuple"
  | .lst _ => some "list"
  | .dct _ _ => some "dict"
  | .dcf _ _ => some "dict"
  | .loc n => match S[n]? with
    | some (.lst _) => some "list"
    | some (.dK _ _) => some "dict"
    | _ => none
  | .exn _ _ _ => none
  | .dcT _ _ => none
theorem tyD_rep {K : PySem.W.Frag} {C : Nat → Addr} {io : Io} {S : Store} {H : Hp} {d : D} {v : V} {t : String} (h : tyD S d = some t) (dn : Den K C io S H) (r : Rep K C io (Fz io H) d v) : TyX K H v (.type t) := by
  cases r with
  | non => cases h; exact .base .non
  | bl => cases h; exact .base (.bl _)
  | int => cases h; exact .base (.int _)
  | str => cases h; exact .base (.str _)
  | tup q rs =>
    cases h
    rcases q with (q | ⟨o, q⟩) | ⟨o, its, n, hk, hc, _⟩
    · exact .base (.tup (Fz_same _ _ _ _ q))
    · exact .fTuple (Fz_same _ _ _ _ q)
    · exact .kTuple hk hc
  | lst q rs =>
    cases h
    rcases q with (q | ⟨o, q⟩) | ⟨o, its, n, hk, hc, _⟩
    · exact .base (.lst (Fz_same _ _ _ _ q))
    · exact .base (.frz (Fz_same _ _ _ _ q))
    · exact .kList hk hc
  | dct q e1 e2 rs => cases h; exact .base (.dK (Fz_same _ _ _ _ q))
  | dcf q e1 e2 rs => cases h; exact .fDict (Fz_same _ _ _ _ q)
  | dcT q e1 e2 rs => cases h
  | @loc n a q =>
    simp only [tyD] at h
    split at h
    · rename_i ys e
      cases h
      obtain ⟨vs, h1, h2⟩ := dn.obj n _ a e q
      exact .base (.lst h1)
    · rename_i ks ys e
      cases h
      obtain ⟨kvs, h1, h2, h3⟩ := dn.obj n _ a e q
      exact .base (.dK h1)
    · cases h
  | exn0 => cases h
  | exnF => cases h
def isiD (T : String) (S : Store) (d : D) : Option D := (tyD S d).bind fun t => (kitB t T).bind fun b => some (.bl b)
section
variable {X : Cx} {C : Nat → Addr} {W : WX} {a : Expr} {ra : RE} {x : Str} {T : String} {pos p p' : Pos}
theorem ee_isi (ha : PE X a (tE X.K C W ra)) (hg : Gl X "isinstance") (hm : X.mg "isinstance" = none) (hgx : Gl X x) (hmx : X.mg x = none) (hv : bootBuiltins x = some (.type T))
    (hn : x ≠ "__name__" := by decide) (hd : (x == ("__debug__" : Str)) = false := by decide) (hv0 : bootBuiltins "isinstance" = some (.builtin "isinstance") := by decide +kernel)
    (he : starEach [a, .Name x p'] X.env = [(false, eval a X.env), (false, eval (.Name x p') X.env)] := by rfl) : PE X (.Call (.Name "isinstance" p) [a, .Name x p'] [] pos) (tE X.K C W (rUn (isiD T) ra)) :=
  (pe_callB call_isi hg hm hv0 (pa_cons ha (pa_cons (pe_bltn hgx hmx hv (v := .ty T) rfl hn hd) pa_nil rfl) he) (by decide) (by decide) he rfl).imp fun sg H Q h => (tR.seq1 (R := RepR X.K C) (fun _ d S => ofO (isiD T S d) S) h fun _ _ => rfl).mono fun v H1 ⟨e, S, io, d, dn, s, r, p⟩ => by
    obtain ⟨z, ez, p⟩ := p.ofO
    obtain ⟨t, et, ez⟩ := bind_some' ez
    obtain ⟨b, eb, ez⟩ := bind_some' ez
    cases ez
    exact ⟨v, .ty T, .type t, .type T, b, rfl, .ty T, tyD_rep et dn r, kit_ty eb, p _ H1 io (Ext.refl _ _) dn (.bl _)⟩
end
end Ev
namespace Ev
open PySem PySem.Spec L2
section
variable {X : Cx} {pins : List (Addr × Obj)} {sg : L2.St} {H : Hp} {s : Shared}
theorem Inv.track {a : Addr} {oe : Obj} {vs : Array Value} (I : L2.Inv X pins sg H s) (he : s.heap.get? a = some oe) (hd : oe.data = .fields vs) (na : H a = none) (nL : a ≠ X.env.locals) (n0 : X.s_0.heap.get? a = none)
    (np : ∀ p ∈ X.pn ++ pins, p.1 ≠ a) : L2.Inv X pins sg (upd H a (exH a oe.cls oe.dict)) s := by
  have nc : ∀ x c, X.env.cells.lookup x = some c → c ≠ a := fun x c e z => by
    obtain ⟨v, o, ho, hod⟩ := I.cell x c e
    rw [z, he] at ho
    cases ho
    rw [hd] at hod
    cases hod
  refine ⟨I.ok, I.os, I.bare, ⟨I.base.keep, I.base.slot, fun b o e n hx => ?_, I.base.there, fun b xs e => ?_, fun b o u e => ?_, fun b ps e => ?_⟩, I.loc, I.cell, ?_, fun x c e => ?_, fun p hp => ?_, fun b o e => ?_, I.len⟩
  · have hb : b ≠ a := fun z => by rw [z, n0] at e; cases e
    rw [upd_ne hb]
    exact I.base.free b o e n hx
  · have q := I.base.tups b xs e
    rw [upd_ne (ne_of_none q na)]
    exact q
  · have q := I.base.frzs b o u e
    rw [upd_ne (ne_of_none q na)]
    exact q
  · obtain ⟨more, q⟩ := I.base.tbls b ps e
    exact ⟨more, by rw [upd_ne (ne_of_none q na)]; exact q⟩
  · rw [upd_ne (Ne.symm nL)]
    exact I.free
  · rw [upd_ne (nc x c e)]
    exact I.freeC x c e
  · obtain ⟨q1, q2, q3, q4, q5⟩ := I.pin p hp
    exact ⟨q1, by rw [upd_ne (np p hp)]; exact q2, q3, q4, q5⟩
  · by_cases hb : b = a
    · subst hb
      rw [upd_same] at e
      cases e
      exact ⟨⟨oe, vs, he, rfl, rfl, hd⟩, ⟨oe, he⟩, fun h1 h2 ⟨o1, v1, q1, q2⟩ k => ⟨o1, v1, k _ q1, q2⟩⟩
    · rw [upd_ne hb] at e
      exact (I.hok b o e).stay (fun c v _ q => q) (fun c q => by rw [upd_ne (ne_of_none q na)]; exact q) fun c xs q => by rw [upd_ne (ne_of_none q na)]; exact q
theorem Inv.toSuite (I : L2.Inv X pins sg H s) (a : Addr) : L2.Inv (X.suite a (X.pn ++ pins)) [] sg H s :=
  ⟨I.ok.suite _ _, I.os, I.bare, I.base, I.loc, I.cell, I.free, I.freeC, fun p hp => I.pin p (by rw [List.append_nil] at hp; exact hp), I.hok, I.len⟩
theorem Inv.offSuite {a : Addr} {pn' : List (Addr × Obj)} (I : L2.Inv (X.suite a (X.pn ++ pins)) pn' sg H s) (ok : X.Ok) : L2.Inv X pins sg H s :=
  ⟨ok, I.os, I.bare, I.base, I.loc, I.cell, I.free, I.freeC, fun p hp => I.pin p (List.mem_append_left _ hp), I.hok, I.len⟩
end
theorem Den.notXd {K : PySem.W.Frag} {C : Nat → Addr} {io : Io} {S : Store} {H : Hp} (d : Den K C io S H) {p : Addr} {fs : List (Str × V)} (h : H p = some (.xd fs)) : p ∉ io.all := fun z => by
  obtain ⟨u, e, m⟩ := d.at z
  rw [h] at e; cases e; cases m
theorem exn_rep {K : PySem.W.Frag} {C : Nat → Addr} {io : Io} {S : Store} {H : Hp} {a : Addr} {x : Exn} {cls : Value} {dd : Option Addr} (dn : Den K C io S H) (na : H a = none) (xr : XR K C io H x cls dd) :
    Rep K C io (Fz io (upd H a (exH a cls dd))) (.exn x.c x.ns x.xs) (.ref a) := by
  obtain ⟨rfl, xr⟩ := xr
  have e1 : Fz io (upd H a (exH a (.ref (C x.c)) dd)) a = some (exH a (.ref (C x.c)) dd) := by rw [Fz_out (dn.fresh na)]; exact upd_same
  rcases xr with ⟨h1, h2, rfl⟩ | ⟨d, fs, rfl, h1, h2, r⟩
  · rw [h1, h2]
    exact .exn0 e1
  · refine .exnF (fs := fs) e1 ?_ h2 rfl (r.ext (Ext.new dn na))
    rw [Fz_out (dn.notXd h1), upd_ne (ne_of_none h1 na)]
    exact h1
def Fl.clr (i : Nat) : Fl → Fl
  | .nx e S => .nx (e.set i none) S
  | .rt d S => .rt d S
  | _ => .bad
def catchAs (sub : Nat → Option Bool) (i : Nat) (suite : RS) (x : Exn) (e : Env) (S : Store) : Fl := match sub x.c with
  | some true => (suite (e.set i (some (.exn x.c x.ns x.xs))) S).clr i
  | some false => .er x e S
  | none => .bad
def sTryAs (sub : Nat → Option Bool) (i : Nat) (body suite : RS) : RS := fun e S => match body e S with
  | .er x e1 S1 => catchAs sub i suite x e1 S1
  | f => f
section
variable {X : Cx} {C : Nat → Addr} {W : WX} {x n : Str} {c : Value} {i : Nat} {body suite : List Stmt} {b0 : Stmt} {np pos pos' : Pos} {mb ms : RS} {sub : Nat → Option Bool}
open PyProof.Rows in
theorem s_try_as (hs : X.stack = X.env :: X.outer) (hf : X.env.frame = some X.env.locals) (hex : X.ex = []) (hN : X.N.Nodup) (hi : X.N[i]? = some n) (hln : X.env.kindOf n = some .local) (hc : Names X x c) (tk : L2N.Takes X W)
    (hsub : ∀ y b, sub y = some b → PySem.W.exmOne X.K (.ref (C y)) c = some b)
    (hb : ∀ (W : WX) (pn : List (Addr × Obj)) (xe : Value → Shared → Prop), L2N.Takes (X.tr pn xe) W → PassesOwn (model X.prog X.w) X.A X.env xe → PSs (X.tr pn xe) body (tS X.K C W mb))
    (hsu : ∀ (a : Addr) (pn : List (Addr × Obj)), PSs (X.suite a pn) (b0 :: suite) (tS X.K C (fun _ _ _ _ => False) ms)) :
    PS X (.Try body [.ExceptHandler (some (.Name x np)) (some n) (b0 :: suite) pos'] [] [] pos) (tS X.K C W (sTryAs sub i mb ms)) := by
  refine ⟨fun pins s sg H Dn I h => ?_⟩
  obtain ⟨e0, S0, io0, dn0, sl0, p0⟩ := h
  have ok := I.ok
  have hfr : X.A.frames = some (X.env :: X.outer) := by rw [ok.frames, hs]
  have hloc : Loc X.env.scope n := .inl hln
  let Wt : WX := fun cls d sg' H' => ∃ x e1 S1 io1, Den X.K C io1 S1 H' ∧ Slots X.K C io1 (Fz io1 H') e1 sg' ∧ XR X.K C io1 H' x cls d ∧ PostS X.K C W io1 H' (catchAs sub i ms x e1 S1) Dn
  have hw : tS X.K C Wt mb Dn sg H := by
    refine ⟨e0, S0, io0, dn0, sl0, ?_⟩
    unfold sTryAs at p0
    cases q : mb e0 S0 with
    | nx e1 S1 => rw [q] at p0; exact p0
    | rt d1 S1 => rw [q] at p0; exact p0
    | er x e1 S1 =>
      rw [q] at p0
      exact fun cls dd sg' H' io' xx d' s' xr => ⟨x, e1, S1, io', d', s', xr, PostS.ext xx p0⟩
    | bad => rw [q] at p0; exact p0
  refine wpAny_Try_except ?_
  refine wpAny_mono ((hb Wt (X.pn ++ pins) (fun e s₁ => wpAny (model X.prog X.w) X.A (noteFrame e X.env) (fun _ s₂ => wpAny (model X.prog X.w) X.A (setFlight e none) (fun _ s₃ =>
    wpAny (model X.prog X.w) X.A (handleBy e X.env [.ExceptHandler (some (.Name x np)) (some n) (b0 :: suite) pos']) (SP X pins Dn) X.xe s₃) X.xe s₂) X.xe s₁) (fun u s' xx => ?_) PassesOwn.looking).run [] s sg H Dn (I.toTry _) hw) (fun f s1 hsp => ?_) (fun e s1 he => he)
  · -- the catch
    obtain ⟨a, B, sI, pins', sg', H', cls, d, rfl, J', nb, up, sky, na, os, ag, ex, e1, S1, io1, dn, sl, xr, pc⟩ := xx
    have J : L2.Inv X pins sg' H' sI := J'.ofTry ok
    have sky' : Sky B (X.env :: X.outer) a (L2N.Zn cls d) X.env.locals s'.heap := by rw [← hs]; exact sky
    show wpAny (model X.prog X.w) X.A (noteFrame (.ref a) X.env) _ _ _
    refine L2N.Sky.land L2N.Zn.steady hfr hf sky' fun h3 fl3 up3 => ?_
    have J3 : L2.Inv X pins sg' H' { s' with heap := h3 } := J.landed nb fl3.1 (up.trans up3) os ag
    obtain ⟨oe3, vs3, he3, hz3, hd3⟩ := fl3.there
    have notFr : ∀ {h : Heap} {o : Obj} {vs : Array Value}, h.FunFrames B (X.env :: X.outer) → h.get? a = some o → o.data = .fields vs → a ∉ frs (X.env :: X.outer) := fun {h o vs} ff e dd hm => by
      obtain ⟨_, o', e', hnf⟩ := ff.mem hm
      rw [e] at e'; cases e'
      exact hnf _ dd
    have nfr := notFr fl3.2.2.1 he3 hd3
    have nL : a ≠ X.env.locals := fun z => nfr (List.mem_filterMap.mpr ⟨X.env, List.mem_cons_self, by rw [hf, z]⟩)
    have nF : a ∉ X.fs := fun hm => by
      obtain ⟨e, he, q⟩ := List.mem_filterMap.mp hm
      exact nfr (List.mem_filterMap.mpr ⟨e, List.mem_cons_of_mem _ he, q⟩)
    have nB : B.get? a = none := fl3.2.1
    have n0 : X.s_0.heap.get? a = none := by
      cases q : X.s_0.heap.get? a with
      | none => rfl
      | some o =>
        obtain ⟨o', q'⟩ := J.base.there a o q (by rw [hex]; simp)
        have := nb a o' q' (by rw [hs]; exact nfr)
        rw [nB] at this; cases this
    have npn : ∀ p ∈ X.pn ++ pins, p.1 ≠ a := fun p hp z => by
      obtain ⟨q1, q2, q3, q4, _⟩ := J.pin p hp
      have := nb p.1 p.2 q1 (fun hm => by
        rcases List.mem_cons.mp (J.stkSub _ hm) with q | q
        · exact q3 q
        · exact q4 q)
      rw [z, nB] at this; cases this
    have S3 := J3.suite he3 hd3 na nL nF
    refine wpAny_handleBy_cons (codeAny_handlers_test ?_) (by intro q; cases q)
    have LT : PySem.W.Looks (model X.prog X.w) h3 (typeOf (.ref a)) cls := fun A Q E s k q => wpAny_typeOf_ref (k _ _ he3) (by rw [hz3.1]; exact q)
    cases eb : sub ex.c with
    | none => simp only [catchAs, eb] at pc; exact pc.elim
    | some b =>
    have hb1 : PySem.W.exmOne X.K cls c = some b := by rw [xr.1]; exact hsub _ _ eb
    have LM := PySem.W.exm_one (M := model X.prog X.w) (J3.kIn) LT hb1
    have test : ∀ {Q : Value → Shared → Prop} {E : Value → Shared → Prop}, Q c { s' with heap := h3 } → wpAny (model X.prog X.w) (X.A.mark (some (.ref a))) (eval (.Name x np) X.env) Q E { s' with heap := h3 } := fun {Q E} q => by
      obtain ⟨hg, hdbg, hm | ⟨hm, hv, hnn⟩⟩ := hc
      · exact ld_glob (X := X.suite a ((a, oe3) :: (X.pn ++ pins))) S3 hg hm q hdbg
      · exact ld_blt (X := X.suite a ((a, oe3) :: (X.pn ++ pins))) S3 hg hm hv q hnn hdbg
    refine test (LM.here ?_)
    cases b with
    | true =>
      refine codeAny_handlers_suite_as ?_
      refine HandSPX.lands_againZ fl3 fun h4 fl4 up4 => ?_
      have J4 : L2.Inv X pins sg' H' { s' with heap := h4 } := J.landed nb fl4.1 ((up.trans up3).trans up4) os ag
      obtain ⟨oe4, vs4, he4, hz4, hd4⟩ := fl4.there
      have J5 := Inv.track J4 he4 hd4 na nL n0 npn
      rw [hz4.1, hz4.2.1] at J5
      have S4 := Inv.toSuite J5 a
      refine store_ok (X := X.suite a (X.pn ++ pins)) (v := .ref a) S4 hN hi hloc rfl (fun s5 S5 => ?_) (.inr hln)
      have xn := Ext.new (o := exH a cls d) dn na
      have pc' : PostS X.K C (fun _ _ _ _ => False) io1 (upd H' a (exH a cls d)) (ms (e1.set i (some (.exn ex.c ex.ns ex.xs))) S1) { nx := fun sg2 H2 => Dn.nx (sg2.set i none) H2, rt := Dn.rt, bk := fun sg2 H2 => Dn.bk (sg2.set i none) H2, ct := fun sg2 H2 => Dn.ct (sg2.set i none) H2 } := by
        have p1 := PostS.ext xn pc
        simp only [catchAs, eb] at p1
        cases q : ms (e1.set i (some (.exn ex.c ex.ns ex.xs))) S1 with
        | nx e2 S2 => rw [q] at p1; exact fun sg2 H2 io2 x2 d2 s2 => p1 _ H2 io2 x2 d2 (s2.none i)
        | rt d2 S2 => rw [q] at p1; exact p1
        | er y e2 S2 => rw [q] at p1; exact p1.elim
        | bad => rw [q] at p1; exact p1
      refine wpAny_mono ((hsu a (X.pn ++ pins)).run [] s5 _ _ _ S5 ⟨_, S1, io1, dn.new na, (sl.ext xn).set i (exn_rep dn na xr), pc'⟩) (fun f s6 hsp => ?_) (fun _ _ z => False.elim z)
      have end_ : ∀ {sg6 : L2.St} {H6 : Hp} {Q : Shared → Prop}, L2.Inv (X.suite a (X.pn ++ pins)) [] sg6 H6 s6 → (∀ s7, L2.Inv X pins (sg6.set i none) H6 s7 → Q s7) →
          wpAny (model X.prog X.w) X.A (do bindName X.env n .none; unbindBehindTheSuite X.env n pos') (fun _ s7 => Q s7) X.xe s6 := fun {sg6 H6 Q} S6 hq => gone_ok (Inv.offSuite S6 ok) hN hi hln hq
      cases f with
      | next =>
        obtain ⟨sg6, H6, S6, q6⟩ := hsp
        exact end_ S6 fun s7 J7 => ⟨_, _, J7, q6⟩
      | brk =>
        obtain ⟨sg6, H6, S6, q6⟩ := hsp
        exact end_ S6 fun s7 J7 => ⟨_, _, J7, q6⟩
      | cont =>
        obtain ⟨sg6, H6, S6, q6⟩ := hsp
        exact end_ S6 fun s7 J7 => ⟨_, _, J7, q6⟩
      | ret u =>
        obtain ⟨v6, sg6, H6, S6, r6, q6⟩ := hsp
        exact end_ S6 fun s7 J7 => ⟨_, _, _, J7, r6, q6⟩
    | false =>
      show wpAny _ X.A (handleBy (.ref a) X.env []) _ _ _
      refine wpAny_handleBy_nil ?_
      obtain ⟨k1, k2, k3, oe, vs, T, oT, ts', he, hz, hd, h1, hr⟩ := id fl3
      unfold PySem.passOn
      refine wpAny_bind (wpAny_field he hd h1 ?_)
      rw [if_neg (show ¬ ((Value.ref T == Value.none) = true) from by simp)]
      simp only [catchAs, eb] at pc
      have fin : wpAny (model X.prog X.w) X.A (setFlight (.ref a) X.env.frame) (fun _ s4 => wpAny (model X.prog X.w) X.A (throw (.ref a) : Sem Flow) (SP X pins Dn) X.xe s4) X.xe { s' with heap := h3 } := by
        rw [hf]
        refine HandSPX.setFlight_upZ fl3 fun h4 hh4 up4 => wpAny_throw (tk _ _ ?_)
        exact ⟨a, B, sI, pins, sg', H', cls, d, rfl, J, nb, (up.trans up3).trans up4, .inr (.inr (by rw [hs]; exact hh4)), na, os, ag, pc cls d sg' H' io1 (Ext.refl _ _) dn sl xr⟩
      first
        | exact wpAny_bind (wpAny_pure (wpAny_bind fin))
        | exact wpAny_bind fin
  · cases f with
    | next => obtain ⟨sg1, H1, I1, q⟩ := hsp; exact wpAny_execs_nil ⟨sg1, H1, I1.ofTry ok, q⟩
    | brk => obtain ⟨sg1, H1, I1, q⟩ := hsp; exact ⟨sg1, H1, I1.ofTry ok, q⟩
    | cont => obtain ⟨sg1, H1, I1, q⟩ := hsp; exact ⟨sg1, H1, I1.ofTry ok, q⟩
    | ret u => obtain ⟨v, sg1, H1, I1, r, q⟩ := hsp; exact ⟨v, sg1, H1, I1.ofTry ok, r, q⟩
def sRaise0 (c : Nat) : RS := fun e S => .er ⟨c, [], []⟩ e S
theorem s_raise0 (c : Nat) {m : Str} {j : Nat} {bmB : List Value} {B newId initId : String} {p p2 : Pos} (hc : X.calm = true) (tk : L2N.Takes X W) (F : ExcBaseFacts B newId initId bmB) (q : PySem.W.excIn X.K (C c) bmB newId = true) (gC : X.mg x = some (.ref (C c))) (kC : PySem.W.keepIn X.K (.ref (C c)) = true) (r : Raises X (.ref (C c))) (hg : Gl X x)
    (hdb : (x == ("__debug__" : Str)) = false := by decide) : PS X (.Raise (some (.Call (.Name x p) [.Constant (.str m) j p2] [] pos')) none pos) (tS X.K C W (sRaise0 c)) :=
  (L2N.ps_raise hc tk (L2N.pmk_own F q gC kC r hg hdb)).imp fun Dn sg H ⟨e, S, io, d, s, p⟩ => p _ _ sg H io (Ext.refl _ _) d s ⟨rfl, .inl ⟨rfl, rfl, rfl⟩⟩
end
end Ev
namespace Ev
open PySem PySem.Spec L2
abbrev TK := Sum String Nat
def tkV (C : Nat → Addr) : TK → Value
  | .inl t => .type t
  | .inr c => .ref (C c)
def tkD (S : Store) : D → Option TK
  | .exn c _ _ => some (.inr c)
  | d => (tyD S d).bind fun t => some (.inl t)
section
variable {X : Cx} {C : Nat → Addr} {W : WX} {pins : List (Addr × Obj)} {sg : L2.St} {H : Hp} {s : Shared} {io : Io} {S : Store} {d : D} {v : V} {u : Value} {k : TK}
theorem kitD (hX : ∀ c, k = .inr c → ExcC X.K (C c)) (h : tkD S d = some k) (I : L2.Inv X pins sg H s) (dn : Den X.K C io S H) (r : Rep X.K C io (Fz io H) d v) (ru : RelV v u) :
    ∃ P : Heap → Prop, PySem.W.KitX X.K u (tkV C k) P ∧ P s.heap ∧ u ≠ .builtin "__main__.__loader__#opaque" := by
  have base : ∀ t, tyD S d = some t → k = .inl t → ∃ P : Heap → Prop, PySem.W.KitX X.K u (tkV C k) P ∧ P s.heap ∧ u ≠ .builtin "__main__.__loader__#opaque" := fun t e1 e2 => by
    subst e2
    exact kit_of I ru (tyD_rep e1 dn r)
  have flat : (tyD S d).bind (fun t => some (Sum.inl t : TK)) = some k → ∃ P : Heap → Prop, PySem.W.KitX X.K u (tkV C k) P ∧ P s.heap ∧ u ≠ .builtin "__main__.__loader__#opaque" := fun h => by
    obtain ⟨t, e, e2⟩ := bind_some' h
    cases e2
    exact base t e rfl
  cases r with
  | @exn0 c a q =>
    cases h
    have E := hX c rfl
    obtain ⟨⟨oe, vs, h1, h2, h3, h4⟩, _, _⟩ := I.hok a _ (Fz_same _ _ _ _ q)
    cases ru
    refine ⟨fun h => PySem.W.InstAt h a oe (C c) none, PySem.W.handS_kitx_exc E.hg E.hk E.hs E.hd E.ha E.hn E.ht E.hm, ?_, fun z => nomatch z⟩
    obtain ⟨oc, od, oda, osl⟩ := oe
    dsimp only at h2 h3 h4
    subst h2 h3 h4
    exact ⟨h1, rfl, rfl, trivial⟩
  | @exnF c a dd fs ns vs ds q q2 e1 e2 rs =>
    cases h
    have E := hX c rfl
    obtain ⟨⟨oe, vs, h1, h2, h3, h4⟩, _, _⟩ := I.hok a _ (Fz_same _ _ _ _ q)
    obtain ⟨mA, ⟨od, _, _, ho, _⟩, _⟩ := I.hok dd _ (Fz_same _ _ _ _ q2)
    cases ru
    have hcl : (PySem.W.clsIn X.K (C c)).isSome = true := by
      obtain ⟨cd, hc, _⟩ := PySem.W.any_some E.hd
      rw [hc]; rfl
    refine ⟨fun h => PySem.W.InstAt h a oe (C c) (some od), PySem.W.kitx_exc hcl E.hg E.hk E.hs E.ha E.hn E.ht E.hm, ?_, fun z => nomatch z⟩
    obtain ⟨oc, odd, oda, osl⟩ := oe
    dsimp only at h2 h3 h4
    subst h2 h3 h4
    exact ⟨h1, rfl, rfl, ho⟩
  | non => exact flat h
  | bl b => exact flat h
  | int i => exact flat h
  | str x => exact flat h
  | tup q rs => exact flat h
  | lst q rs => exact flat h
  | dct q a b rs => exact flat h
  | dcf q a b rs => exact flat h
  | dcT q a b rs => exact flat h
  | loc q => exact flat h
end
def isiQ (kq : TK → Option Bool) (S : Store) (d : D) : Option D := (tkD S d).bind fun k => (kq k).bind fun b => some (.bl b)
def kqAny : List (TK → Option Bool) → TK → Option Bool
  | [], _ => some false
  | q :: qs, k => (q k).bind fun b => if b = true then some true else kqAny qs k
section
variable {X : Cx} {C : Nat → Addr} {W : WX} {a e2 : Expr} {es : List Expr} {ra : RE} {c : V} {cs : List V} {cv : Value} {cvs : List Value} {kq : TK → Option Bool} {pos p p' : Pos}
theorem ee_isiQ (ha : PE X a (tE X.K C W ra)) (hg : Gl X "isinstance") (hm : X.mg "isinstance" = none) (hc : PE X e2 (tC c)) (hk : ClsV c cv) (hq : ∀ k b, kq k = some b → PySem.W.kitOne X.K (tkV C k) cv = some b) (hX : ∀ n b, kq (.inr n) = some b → ExcC X.K (C n))
    (hv0 : bootBuiltins "isinstance" = some (.builtin "isinstance") := by decide +kernel)
    (he : starEach [a, e2] X.env = (false, eval a X.env) :: starEach [e2] X.env := by rfl) (he2 : starEach [e2] X.env = [(false, eval e2 X.env)] := by rfl) : PE X (.Call (.Name "isinstance" p) [a, e2] [] pos) (tE X.K C W (rUn (isiQ kq) ra)) := by
  have hC : CallR X (.builtin "isinstance") (fun xs H Q => ∃ x io S d k b, xs = [x, c] ∧ Den X.K C io S H ∧ Rep X.K C io (Fz io H) d x ∧ tkD S d = some k ∧ kq k = some b ∧ Q (.bl b) H) := by
    intro pins s sg H xs us Q I r ⟨x, io, S, d, k, b, hx, dn, rd, ek, eb, q⟩
    subst hx
    obtain ⟨u1, u2, rfl, r1, r2⟩ := vals2 r
    have e2 := hk.eq r2
    subst e2
    obtain ⟨P, Z, p, hx⟩ := kitD (fun n e => hX n b (by rw [← e]; exact eb)) ek I dn rd r1
    exact PySem.W.kia_one Z I.kIn p (hq k b eb) hx fun tk => ⟨.bl b, H, I.tok tk, rfl, q⟩
  exact (pe_callB hC hg hm hv0 (pa_cons ha (pa_cons hc pa_nil he2) he) (by decide) (by decide) he (by rw [he2]; rfl)).imp fun sg H Q h => (tR.seq1 (R := RepR X.K C) (fun _ d S => ofO (isiQ kq S d) S) h fun _ _ => rfl).mono fun v H1 ⟨e, S, io, d, dn, s, r, p⟩ => by
    obtain ⟨z, ez, p⟩ := p.ofO
    obtain ⟨t, et, ez⟩ := bind_some' ez
    obtain ⟨b, eb, ez⟩ := bind_some' ez
    cases ez
    exact ⟨v, io, S, d, t, b, rfl, dn, r, et, eb, p _ H1 io (Ext.refl _ _) dn (.bl _)⟩
inductive KqAll (K : PySem.W.Frag) (C : Nat → Addr) : List (TK → Option Bool) → List Value → Prop
  | nil : KqAll K C [] []
  | cons {q : TK → Option Bool} {qs : List (TK → Option Bool)} {v : Value} {vs : List Value} (h : ∀ k b, q k = some b → PySem.W.kitOne K (tkV C k) v = some b) (hX : ∀ n b, q (.inr n) = some b → ExcC K (C n)) (r : KqAll K C qs vs) : KqAll K C (q :: qs) (v :: vs)
theorem KqAll.any {K : PySem.W.Frag} : ∀ {qs : List (TK → Option Bool)} {vs : List Value}, KqAll K C qs vs → ∀ k b, kqAny qs k = some b → PySem.W.kitAny K (tkV C k) vs = some b
  | _, _, .nil, k, b, h => by cases h; exact kitAny_nil
  | _, _, .cons hq _ r, k, b, h => by
    obtain ⟨b1, e1, e2⟩ := bind_some' h
    cases b1 with
    | true =>
      rw [if_pos rfl] at e2
      cases e2
      exact kitAny_cons (hq k _ e1) (fun z => nomatch z) fun _ => rfl
    | false =>
      rw [if_neg Bool.false_ne_true] at e2
      exact kitAny_cons (hq k _ e1) (fun _ => KqAll.any r k b e2) fun z => nomatch z
end
theorem law_end {K : PySem.W.Frag} {C : Nat → Addr} {g : List D → Store → Res D} {H : Hp} {a : Addr} {ns : List Int} (hS : SqL K H a (ns.map V.int)) (h : ∃ S', g [.lst (ns.map D.int)] [] = .ok (.bl true) S') :
    spOf K C 1 g [.ref a] H (fun v _ => v = .bl true) (fun _ _ _ => False) := by
  obtain ⟨S', e⟩ := h
  have e0 : Fz ⟨[], [], []⟩ H = H := by funext b; unfold Fz Io.all; simp
  have intsR : ∀ ms : List Int, Reps K C ⟨[], [], []⟩ H (ms.map D.int) (ms.map V.int) := fun ms => by
    induction ms with
    | nil => exact .nil
    | cons m r ih => exact .cons (.int m) ih
  refine ⟨rfl, [.lst (ns.map D.int)], [], ⟨[], [], []⟩, ⟨rfl, List.nodup_nil, fun n o a h => (by cases h), fun p h => (by cases h)⟩, .cons (.lst (by rw [e0]; exact hS) (by rw [e0]; exact intsR ns)) .nil, ?_⟩
  rw [e]
  exact fun v H' io' x d r => by cases r; rfl
theorem cx_end {P : Program} {w : World} {H : Hp} {s : Shared} {e : Value} {s' : Shared} (h : L2N.CX P w [] H s (fun _ _ _ => False) e s') : False := by
  obtain ⟨_, _, _, _, _, _, _, _, _, _, _, _, h⟩ := h
  exact h
end Ev
namespace Ev
open PySem PySem.Spec L2
section
variable {X : Cx} {C : Nat → Addr} {W : WX} {pos : Pos} {x : Str}
theorem ee_gI {i : Int} (h : ∃ t, X.mg x = some (.int i t)) (hg : Gl X x := by rfl) (hd : (x == ("__debug__" : Str)) = false := by decide) : PE X (.Name x pos) (tE X.K C W (rCon (.int i))) :=
  let ⟨_, h⟩ := h
  ee_glob (v := .int i) hg h ⟨_, rfl⟩ (fun _ _ => .int _) hd
theorem ee_gS {z : Str} (h : ∃ t, X.mg x = some (.str z t)) (hg : Gl X x := by rfl) (hd : (x == ("__debug__" : Str)) = false := by decide) : PE X (.Name x pos) (tE X.K C W (rCon (.str z))) :=
  let ⟨_, h⟩ := h
  ee_glob (v := .str z) hg h ⟨_, rfl⟩ (fun _ _ => .str _) hd
def rDct0 : RE := fun _ S => .ok (.dct [] []) S
end
end Ev
namespace Ev
open PySem PySem.Spec L2
def wipeE (e : Env) : List Nat → Env
  | [] => e
  | v :: vs => (wipeE e vs).set v none
def Res.calm {A : Type} : Res A → Res A
  | .ok a S => .ok a S
  | _ => .bad
def lcL (t : Tg) (c : RT) (elt : RE) (e0 : Env) : List D → Store → Res (List D)
  | [], S => .ok [] S
  | d :: ds, S => match bindT S d e0 t with
    | none => .bad
    | some e1 => (c e1 S).bind fun k S1 => if k = true then (elt e1 S1).bind fun y S2 => (lcL t c elt e0 ds S2).bind fun ys S3 => .ok (y :: ys) S3 else lcL t c elt e0 ds S1
def frzL : List D → Store → Res D := fun ys S => .ok (.lst ys) S
def mutL : List D → Store → Res D := fun ys S => .ok (.loc S.length) (S ++ [.lst ys])
def rLc (fin : List D → Store → Res D) (it : RA) (t : Tg) (vs : List Nat) (c : RT) (elt : RE) : RE := fun e S => (it e S).bind fun ds S1 => if ds.length ≤ sizeLine then (lcL t c elt (wipeE e vs) ds S1).calm.bind fin else .bad
def rYes : RT := fun _ S => .ok true S
theorem Slots.wipe {K : PySem.W.Frag} {C : Nat → Addr} {io : Io} {F : Hp} {e : Env} {sg : L2.St} (s : Slots K C io F e sg) : ∀ vs : List Nat, Slots K C io F (wipeE e vs) (wipe sg vs)
  | [] => s
  | v :: vs => (Slots.wipe s vs).none v
def FinOk (fin : List D → Store → Res D) : Prop := ∀ (K : PySem.W.Frag) (C : Nat → Addr) (W : WX) (sg : L2.St) (io0 io : Io) (H0 H : Hp) (S : Store) (p : Addr) (ys : List D) (vs : List V) (Q : VK),
  (∀ (n : Nat) (a : Addr), io0.l[n]? = some a → io.l[n]? = some a) → (io.h = io0.h ∧ io.k = io0.k) → Same (Fz io0 H0) (Fz (io.hide p (.lst vs)) H) → Den K C (io.hide p (.lst vs)) S H → Reps K C io (Fz (io.hide p (.lst vs)) H) ys vs → Post K C (RepR K C) W sg io0 H0 (fin ys S) Q → Q (.ref p) H
theorem frzL_ok : FinOk frzL := fun K C W sg io0 io H0 H S p ys vs Q hp hh hs dn rs post => by
  obtain ⟨d1, np, e⟩ := dn.unhide
  obtain ⟨s1, e1⟩ := Fz_unhide np e
  exact post _ H io ⟨hp, hh.1, hs.trans s1, hh.2⟩ d1 (.lst (.inl (.inl e1)) (rs.mono (fun _ _ h => h) s1))
theorem Fz_adopt {io : Io} {H : Hp} {p : Addr} {o : HO} : Fz (io.add p) H = Fz (io.hide p o) H := by
  funext b
  unfold Fz
  simp only [mem_add, mem_hide]
theorem mutL_ok : FinOk mutL := fun K C W sg io0 io H0 H S p ys vs Q hp hh hs dn rs post => by
  obtain ⟨d1, np, e⟩ := dn.unhide
  have hpre : ∀ (n : Nat) (a : Addr), io.l[n]? = some a → (io.add p).l[n]? = some a := fun n a h => by
    show (io.l ++ [p])[n]? = some a
    rw [List.getElem?_append_left (List.getElem?_eq_some_iff.mp h).1]; exact h
  have hs2 : Same (Fz (io.hide p (.lst vs)) H) (Fz (io.add p) H) := by rw [Fz_adopt (o := .lst vs)]; exact fun _ _ h => h
  refine post _ H (io.add p) ⟨fun n a h => hpre n a (hp n a h), hh.1, hs.trans hs2, hh.2⟩ ⟨by simp [Io.add, d1.len], nodup_add d1.nd np, fun n x a e1 e2 => ?_, fun q hq => d1.hid q hq⟩ (.loc ?_)
  · have e2' : (io.l ++ [p])[n]? = some a := e2
    by_cases hn : n < io.l.length
    · rw [List.getElem?_append_left hn] at e2'
      rw [List.getElem?_append_left (by rw [← d1.len]; exact hn)] at e1
      have q := dn.obj n x a e1 e2'
      cases x with
      | lst zs => obtain ⟨us, h1, h2⟩ := q; exact ⟨us, h1, h2.mono (io := io.hide p (.lst vs)) hpre hs2⟩
      | dK ks zs => obtain ⟨us, h1, h2, h3⟩ := q; exact ⟨us, h1, h2, h3.mono (io := io.hide p (.lst vs)) hpre hs2⟩
      | dT ks zs => obtain ⟨us, h1, h2, h3⟩ := q; exact ⟨us, h1, h2, h3.mono (io := io.hide p (.lst vs)) hpre hs2⟩
      | dL ks zs => obtain ⟨us, o, h0, h1, h2, h3⟩ := q; exact ⟨us, o, h0, h1, h2, h3.mono (io := io.hide p (.lst vs)) hpre hs2⟩
      | ins c ns zs => obtain ⟨dx, fs, h1, h2, h3, h4⟩ := q; exact ⟨dx, fs, h1, h2, h3, h4.mono (io := io.hide p (.lst vs)) hpre hs2⟩
    · have h1 : n = io.l.length := by
        have := (List.getElem?_eq_some_iff.mp e2').1
        simp at this; omega
      subst h1
      rw [List.getElem?_append_right (Nat.le_refl _)] at e2'
      rw [d1.len, List.getElem?_append_right (Nat.le_refl _)] at e1
      simp at e1 e2'
      subst e1; subst e2'
      exact ⟨vs, e, rs.mono hpre hs2⟩
  · rw [← d1.len]
    show (io.l ++ [p])[io.l.length]? = some p
    rw [List.getElem?_append_right (Nat.le_refl _)]; simp
def gTg (K : PySem.W.Frag) (C : Nat → Addr) (t : Tg) : TG := fun v sg H Q => ∃ e S io d e', Den K C io S H ∧ Slots K C io (Fz io H) e sg ∧ Rep K C io (Fz io H) d v ∧ bindT S d e t = some e' ∧ ∀ sg', Slots K C io (Fz io H) e' sg' → Agree t sg sg' → Q sg' H
section
variable {X : Cx} {C : Nat → Addr} {W : WX} {elt tg iter : Expr} {ifs : List Expr} {scope : Scope} {own : List (Str × Nat)} {pos : Pos} {ri : RA} {t : Tg} {rc : RT} {re : RE} {fin : List D → Store → Res D}
theorem lc_read (hfin : FinOk fin) (sg : L2.St) (H : Hp) (Q : VK) (vs : List Nat) (hv : ∀ i ∈ t.ixs, i ∈ vs) (h : tE X.K C W (rLc fin ri t vs rc re) sg H Q) :
    tLc (tI X.K C W ri) (gTg X.K C t)
      (tT X.K C (fun _ _ _ _ => False) rc) (tE X.K C (fun _ _ _ _ => False) re) vs sg H Q := by
  refine (tR.seq1 (R := Wk X.K C) (fun e ds S1 => if ds.length ≤ sizeLine then (lcL t rc re (wipeE e vs) ds S1).calm.bind fin else .bad) h fun _ _ => rfl).mono fun J H1 ⟨e, S, io, ds, dn, sl, wk, post⟩ => ?_
  split at post
  · rename_i hz
    intro p hp
    let Done : List D → Store → Prop := fun ys S2 => Post X.K C (RepR X.K C) W sg io H1 (fin ys S2) Q
    refine ⟨fun i m H' => m + i = ds.length ∧ ∃ S' io' acc ys, (∀ (n : Nat) (a : Addr), io.l[n]? = some a → io'.l[n]? = some a) ∧ (io'.h = io.h ∧ io'.k = io.k) ∧ Same (Fz io H1) (Fz (io'.hide p (.lst acc)) H') ∧
        Den X.K C (io'.hide p (.lst acc)) S' H' ∧ Reps X.K C io' (Fz (io'.hide p (.lst acc)) H') ys acc ∧ acc.length ≤ i ∧ ∃ zs S2, lcL t rc re (wipeE e vs) (ds.drop i) S' = .ok zs S2 ∧ Done (ys ++ zs) S2,
      ⟨ds.length, rfl, S, io, [], [], fun _ _ h => h, ⟨rfl, rfl⟩, by rw [Fz_hide hp]; exact fun _ _ h => h, dn.hide hp rfl, .nil, Nat.le_refl _, ?_⟩, fun i m H' ⟨hm, S', io', acc, ys, h1, h2, h3, d', rs, hl, zs, S2, hlc, hd⟩ => ?_⟩
    · cases q : lcL t rc re (wipeE e vs) ds S with
      | ok zs S2 => rw [q] at post; exact ⟨zs, S2, q, post⟩
      | err x S2 => rw [q] at post; exact post.elim
      | bad => rw [q] at post; exact post.elim
    obtain ⟨go, stop, yld⟩ := wk (io'.hide p (.lst acc)) H' S' h1 h3 d'
    by_cases hi : i < ds.length
    · rw [List.drop_eq_getElem_cons hi] at hlc
      refine .inr ⟨go i hi, fun H2 => ∃ S' io' acc ys, (∀ (n : Nat) (a : Addr), io.l[n]? = some a → io'.l[n]? = some a) ∧ (io'.h = io.h ∧ io'.k = io.k) ∧ Same (Fz io H1) (Fz (io'.hide p (.lst acc)) H2) ∧
        Den X.K C (io'.hide p (.lst acc)) S' H2 ∧ Reps X.K C io' (Fz (io'.hide p (.lst acc)) H2) ys acc ∧ acc.length ≤ i + 1 ∧ ∃ zs S2, lcL t rc re (wipeE e vs) (ds.drop (i + 1)) S' = .ok zs S2 ∧ Done (ys ++ zs) S2, fun H2 h2 => ⟨m - 1, by omega, by omega, h2⟩, fun x H2 y => ?_⟩
      obtain ⟨d, ed, x2, d2, r2⟩ := yld i x H2 hi y
      have ed' : ds[i] = d := by rw [List.getElem?_eq_getElem hi] at ed; exact Option.some.inj ed
      rw [ed'] at hlc
      unfold lcL at hlc
      cases hb : bindT S' d (wipeE e vs) t with
      | none => rw [hb] at hlc; cases hlc
      | some e1 =>
        rw [hb] at hlc
        dsimp only at hlc
        have hs2 : Slots X.K C (io'.hide p (.lst acc)) (Fz (io'.hide p (.lst acc)) H2) (wipeE e vs) (wipe sg vs) := by
          have s0 := sl.wipe vs
          refine ⟨s0.len, fun j q hq => ?_⟩
          obtain ⟨v, v1, v2⟩ := s0.get j q hq
          exact ⟨v, v1, (v2.mono (io' := io'.hide p (.lst acc)) h1 h3).mono (fun _ _ z => z) x2.same⟩
        refine ⟨wipeE e vs, S', io'.hide p (.lst acc), d, e1, d2, hs2, r2, hb, fun sg3 s3 ag => ⟨?_, e1, S', io'.hide p (.lst acc), d2, s3, ?_⟩⟩
        · rw [ag vs hv]
          have : ∀ s : L2.St, wipe (wipe s vs) vs = wipe s vs := fun s => by
            apply List.ext_getElem?
            intro j
            rw [wipe_get, wipe_get, wipe_length]
            by_cases hj : j ∈ vs <;> simp [hj]
          exact this sg
        cases hc : rc e1 S' with
        | err y Sy => rw [hc] at hlc; cases hlc
        | bad => rw [hc] at hlc; cases hlc
        | ok k S3 =>
          rw [hc] at hlc
          intro b H3 io3 x3 d3 eb
          cases eb
          -- the list that is filled is still there
          have hh3 : io3.h = (p, HO.lst acc) :: io'.h := x3.hid
          have e3 : io3 = (⟨io3.l, io'.h, io'.k⟩ : Io).hide p (.lst acc) := by
            have hk3 : _ = io'.k := x3.kep
            show io3 = ⟨io3.l, _ :: io'.h, io'.k⟩
            rw [← hh3, ← hk3]
          cases k with
          | false =>
            replace hlc : lcL t rc re (wipeE e vs) (ds.drop (i + 1)) S3 = .ok zs S2 := hlc
            rw [if_neg Bool.false_ne_true]
            have px := x2.trans x3
            refine ⟨S3, ⟨io3.l, io'.h, io'.k⟩, acc, ys, fun n a hn => px.pre n a (h1 n a hn), h2, ?_, ?_, ?_, by omega, zs, S2, hlc, hd⟩
            · rw [← e3]; exact h3.trans px.same
            · rw [← e3]; exact d3
            · rw [← e3]; exact rs.mono (io := io') (io' := ⟨io3.l, io'.h, io'.k⟩) px.pre px.same
          | true =>
            replace hlc : ((re e1 S3).bind fun y S2 => (lcL t rc re (wipeE e vs) (ds.drop (i + 1)) S2).bind fun ys S3 => Res.ok (y :: ys) S3) = .ok zs S2 := hlc
            rw [if_pos rfl]
            refine ⟨e1, S3, io3, d3, s3.ext x3, ?_⟩
            cases he : re e1 S3 with
            | err y Sy => rw [he] at hlc; cases hlc
            | bad => rw [he] at hlc; cases hlc
            | ok y1 S4 =>
              rw [he] at hlc
              replace hlc : ((lcL t rc re (wipeE e vs) (ds.drop (i + 1)) S4).bind fun ys S3 => Res.ok (y1 :: ys) S3) = .ok zs S2 := hlc
              intro v H4 io4 x4 d4 r4
              have hh4 : io4.h = (p, HO.lst acc) :: io'.h := x4.hid.trans hh3
              have e4 : io4 = (⟨io4.l, io'.h, io'.k⟩ : Io).hide p (.lst acc) := by
                have hk4 : _ = io'.k := x4.kep.trans x3.kep
                show io4 = ⟨io4.l, _ :: io'.h, io'.k⟩
                rw [← hh4, ← hk4]
              have px := (x2.trans x3).trans x4
              have hD : H4 p = some (.lst acc) := (d4.hid (p, .lst acc) (by rw [hh4]; exact List.mem_cons_self)).1
              refine ⟨acc, hD, by omega, ?_⟩
              cases hr : lcL t rc re (wipeE e vs) (ds.drop (i + 1)) S4 with
              | err q Sq => rw [hr] at hlc; cases hlc
              | bad => rw [hr] at hlc; cases hlc
              | ok zs' S5 =>
                rw [hr] at hlc
                cases hlc
                have fz : Fz ((⟨io4.l, io'.h, io'.k⟩ : Io).hide p (.lst (acc ++ [v]))) (upd H4 p (.lst (acc ++ [v]))) = Fz io4 H4 := by
                  rw [Fz_hide_put (o := .lst acc), ← e4]
                refine ⟨S4, ⟨io4.l, io'.h, io'.k⟩, acc ++ [v], ys ++ [y1], fun n a hn => px.pre n a (h1 n a hn), h2, ?_, ?_, ?_, by simp; omega, zs', S2, hr, by rw [List.append_assoc]; exact hd⟩
                · rw [fz]; exact h3.trans px.same
                · rw [e4] at d4
                  exact d4.rehide rfl
                · rw [fz]
                  exact (rs.mono (io := io') (io' := ⟨io4.l, io'.h, io'.k⟩) px.pre px.same).append (.cons (r4.mono (io := io4) (io' := ⟨io4.l, io'.h, io'.k⟩) (fun _ _ z => z) fun _ _ z => z) .nil)
    · have e1 : ds.length = i := by omega
      rw [List.drop_of_length_le (by omega)] at hlc
      cases hlc
      rw [e1] at stop
      rw [List.append_nil] at hd
      exact .inl ⟨stop, hfin X.K C W sg io io' H1 H' S' p ys acc Q h1 h2 h3 d' rs hd⟩
  · exact post.elim
theorem ee_lc {vs : List Nat} (hfin : FinOk fin) (hc : X.calm = true) (hN : X.N.Nodup) (hi : PI X tg iter (tI X.K C W ri)) (ok : BlkOk X.N X.env.scope scope own) (hw : own.map (·.2) = vs) (hv : ∀ i ∈ t.ixs, i ∈ vs)
    (hg : ∀ (s : Shared) (H : Hp) (A : Addr) (cl : List (Str × Addr)) (fp : List Addr), GD (X.blk s H scope (compEnvC scope cl A X.env) fp) C tg t)
    (ht : ∀ (s : Shared) (H : Hp) (A : Addr) (cl : List (Str × Addr)) (fp : List Addr), PTs (X.blk s H scope (compEnvC scope cl A X.env) fp) ifs (tT X.K C (fun _ _ _ _ => False) rc))
    (he : ∀ (s : Shared) (H : Hp) (A : Addr) (cl : List (Str × Addr)) (fp : List Addr), PE (X.blk s H scope (compEnvC scope cl A X.env) fp) elt (tE X.K C (fun _ _ _ _ => False) re)) (hs : ∀ x, foldedSetIterable iter X.env x = pure x := by intro _; rfl) :
    PE X (.ListComp elt [⟨tg, iter, ifs, 0⟩] scope pos) (tE X.K C W (rLc fin ri t vs rc re)) := by
  subst hw
  exact (pe_lc (g := gTg X.K C t) hc hN hi ok hg ht he hs).imp fun sg H Q h => lc_read hfin sg H Q _ hv h
theorem s_setLc (i : Nat) {vs : List Nat} {y : Str} {py spos : Pos} (hfin : FinOk fin) (hc : X.calm = true) (hN : X.N.Nodup) (hsw : swapsWith (.ListComp elt [⟨tg, iter, ifs, 0⟩] scope pos) (some (.Name y py)) spos.line X.env = pure true)
    (hi : PI X tg iter (tI X.K C W ri)) (ok : BlkOk X.N X.env.scope scope own) (hw : own.map (·.2) = vs) (hv : ∀ i ∈ t.ixs, i ∈ vs)
    (hg : ∀ (s : Shared) (H : Hp) (A : Addr) (cl : List (Str × Addr)) (fp : List Addr), GD (X.blk s H scope (compEnvC scope cl A X.env) fp) C tg t)
    (ht : ∀ (s : Shared) (H : Hp) (A : Addr) (cl : List (Str × Addr)) (fp : List Addr), PTs (X.blk s H scope (compEnvC scope cl A X.env) fp) ifs (tT X.K C (fun _ _ _ _ => False) rc))
    (he : ∀ (s : Shared) (H : Hp) (A : Addr) (cl : List (Str × Addr)) (fp : List Addr), PE (X.blk s H scope (compEnvC scope cl A X.env) fp) elt (tE X.K C (fun _ _ _ _ => False) re)) (hs : ∀ x, foldedSetIterable iter X.env x = pure x := by intro _; rfl)
    (hy : X.N[i]? = some y := by rfl) (hyl : X.env.scope.names.lookup y = some .local := by rfl) :
    PS X (.Assign [.Name y py] (.ListComp elt [⟨tg, iter, ifs, 0⟩] scope pos) spos) (tS X.K C W (sSet i (rLc fin ri t vs rc re))) := by
  subst hw
  exact (ps_setLc (g := gTg X.K C t) hc hN hy hyl hsw hi ok hg ht he hs).imp fun Dn sg H h => lc_read hfin sg H _ _ hv ((tS.seq (R := RepR X.K C) (fun e d S1 => .nx (e.set i (some d)) S1) h fun _ _ => rfl).mono fun v H1 ⟨e, S, io, k1, d, s, q, p⟩ => p _ H1 io (Ext.refl _ _) d (s.set i q))
theorem et_yes : PTs X [] (tT X.K C W rYes) := ⟨fun pins s sg H Q I h => pts_nil.run pins s sg H Q I (by
  obtain ⟨e, S, io, d, sl, p⟩ := h
  exact p true H io (Ext.refl _ _) d rfl)⟩
theorem et_if1 {c : Expr} (h : PT X c (tT X.K C W rc)) : PTs X [c] (tT X.K C W rc) := pts_one h
end
end Ev
namespace Ev
open PySem PySem.Spec L2 PyProof.Rows
def ItEs (x : Str) : It := ⟨fun i _ => i < x.cps.size, fun i H v H' => ∃ T c, x.cps[i]? = some c ∧ v = .ref T ∧ H T = none ∧ H' = upd H T (.tup [.int (i : Nat), .str ⟨#[c]⟩]), fun i _ => x.cps.size ≤ i⟩
theorem draws_str {P : Program} {w : World} {A : Around} (hh : A.handled = none) (it : Addr) (x : Str) (t : Tok) :
    Draws P w A it [it] x.cps.size (fun i v => ∃ c u, x.cps[i]? = some c ∧ v = .str ⟨#[c]⟩ u) (fun i h => h.IsStrIter it (strIterType x) x t i) := by
  unfold strIterType
  split
  · exact Draws.strAscii hh it x t
  · exact Draws.strWide hh it x t
theorem turn_enumS {P : Program} {w : World} {K : PySem.W.Frag} {elts : List Expr} {kk : Nat} {tpos : Pos} (x : Str) (t : Tok) (e it : Addr) :
    Turn P w K (.Tuple elts kk tpos) (ItEs x) [e, it] e (fun i h => (∃ old, IsEnum h e it ((i : Nat) : Int) old) ∧ h.IsStrIter it (strIterType x) x t i ∧ e ≠ it ∧ i ≤ x.cps.size) where
  mem := by simp
  obj := fun i h st b hb => by
    obtain ⟨⟨old, he⟩, ⟨o, ho, hc, hd⟩, _⟩ := st
    have e' : b = e ∨ b = it := by simpa using hb
    rcases e' with z | z
    · rw [z]; exact ⟨_, he, fun v q => nomatch q⟩
    · rw [z]; exact ⟨o, ho, fun v q => by rw [hd] at q; cases q⟩
  keep := fun i h h' st k => let ⟨⟨old, he⟩, ⟨o, ho, r⟩, hne, hle⟩ := st; ⟨⟨old, k e (by simp) _ he⟩, ⟨o, k it (by simp) o ho, r⟩, hne, hle⟩
  item := by
    intro X hP hw hK hc i pins s σ H E I hf st hg
    subst hP hw hK
    obtain ⟨⟨old, he⟩, hit, hne, hle⟩ := st
    have hel : e < s.heap.objs.size := Heap.lt_size he
    have hil : it < s.heap.objs.size := by obtain ⟨_, q, _⟩ := hit; exact Heap.lt_size q
    refine wpAny_pyNext_enum_itemD (draws_str (A := X.A.in1) (show X.A.in1.handled = none from I.ok.hd hc) it x t) he hit hg hne (by simp only [List.mem_singleton]; exact hne) fun v h' tk hv ho hit' hT hsz hk => ?_
    obtain ⟨c, u, hcx, rfl⟩ := hv
    refine ⟨_, rfl, wpAny_letOwnedTupleGo_enum (s := { s with heap := h', toks := tk + 1 }) ho fun h'' he' sb => ?_⟩
    have hT2 : h''.get? s.heap.objs.size = some { cls := .type "tuple", data := .seq #[.int i tk, .str ⟨#[c]⟩ u] } := (sb.2 _ (Nat.ne_of_gt hel)).trans hT
    have new : ObjOk X.prog X.w (upd H s.heap.objs.size (.tup [.int (i : Nat), .str ⟨#[c]⟩])) h'' s.heap.objs.size (.tup [.int (i : Nat), .str ⟨#[c]⟩]) :=
      ⟨by show 2 ≤ sizeLine; decide, [.int i tk, .str ⟨#[c]⟩ u], .cons ⟨_, rfl⟩ (.cons ⟨_, rfl⟩ .nil), ⟨_, hT2, rfl, _, rfl⟩⟩
    have I1 : Inv X pins σ (upd H s.heap.objs.size (.tup [.int (i : Nat), .str ⟨#[c]⟩])) { s with heap := h'', toks := tk + 1 } :=
      I.turnedNew (ch := [e, it]) (fun b ob hb q => (sb.2 b (fun z => hb (by simp [z]))).trans (hk b ob (fun z => hb (by simp [z])) (fun z => hb (by simp [z])) q)) hf (Nat.le_refl _) new
    refine ⟨.ref s.heap.objs.size, _, I1, rfl, ⟨_, c, hcx, rfl, I.hok.fresh (Nat.le_refl _), rfl⟩, ⟨⟨.str ⟨#[c]⟩ u, ?_⟩, ?_, hne, hg⟩, fun b hb => ?_⟩
    · have e1 : ((i + 1 : Nat) : Int) = (i : Int) + 1 := by omega
      rw [e1]; exact he'
    · obtain ⟨o, ho2, r⟩ := hit'
      exact ⟨o, (sb.2 it (Ne.symm hne)).trans ho2, r⟩
    · have hb' : b < s.heap.objs.size := by
        have e' : b = e ∨ b = it := by simpa using hb
        rcases e' with z | z
        · rw [z]; exact hel
        · rw [z]; exact hil
      rw [upd_ne (Nat.ne_of_lt hb')]
      exact (hf b hb).1
  done := by
    intro X hP hw hK hc i pins s σ H E I hf st hg
    subst hP hw hK
    obtain ⟨⟨old, he⟩, hit, hne, hle⟩ := st
    obtain ⟨f0, f1, f2, f3, f4, f5⟩ := hf it (by simp)
    have hi : i = x.cps.size := Nat.le_antisymm hle hg
    subst hi
    exact wpAny_pyNext_enum_endD (draws_str (A := X.A.in1) (show X.A.in1.handled = none from I.ok.hd hc) it x t) he hit fun h' eb => ⟨rfl, I.turned (t' := s.toks) (fun b o hb q => eb b o hb q) f0 f1 f3 f4 f5⟩
  self := fun A i s Q E st h => let ⟨⟨_, he⟩, _⟩ := st; wpAny_pyIter_enum he h
section
variable {prog : Program} {w : World} {A : Around} {E : Value → Shared → Prop} {s : Shared}
theorem wpAny_pyNext_enum_endT {e it t : Addr} {i : Nat} {items : Array Value} {old : Value} {Q : Option Value → Shared → Prop} (hh : A.in1.handled = none)
    (he : IsEnum s.heap e it i old) (hit : s.heap.IsTupleIter it t i) (ht : s.heap.IsTuple t items) (hx : items[i]? = none)
    (hQ : ∀ h', Heap.ExtBut it s.heap h' → Q none { s with heap := h' }) : wpAny (model prog w) A (pyNext (.ref e)) Q E s := by
  have hT : s.TypeIs (.ref e) "enumerate" := ⟨_, he, rfl⟩
  unfold pyNext
  refine wpAny_bind (wpAny_attempt (wpAny_callSpecial?_slot (name := Str.ofString "__next__") hT F.slot_enumerate_next
    (wpAny_call_entry F.slot_enumerate_next hT F.entry_enumerate_next ?_ (F.args_enumerate_next_1 _))))
  show wpAny _ _ (field (.ref e) 2 >>= _) _ _ _
  refine wpAny_bind (wpAny_field he rfl (x := .ref it) rfl ?_)
  refine wpAny_bind (wpAny_nextOf_tuple_end hh hit ht hx fun h' x he' hx' => ?_)
  obtain ⟨o, ho, hc⟩ := hx'
  refine wpAny_bind (wpAny_isInstance (T := "StopIteration") (b := true) ⟨o, ho, hc⟩ isSubtype_stop ?_)
  exact wpAny_pure (hQ _ he')
theorem meets_enumerate_newT (l : Addr) (items : Array Value) :
    Meets (Builtin.«enumerate.__new__» ⟨[.type "enumerate", .ref l], []⟩) (fun _ R s => s.heap.IsTuple l items ∧
      R (.ok (.ret (.ref (s.heap.push { cls := .type "tuple_iterator", data := .fields #[.ref l, .int 0 0] }).objs.size)))
        { s with heap := (s.heap.push { cls := .type "tuple_iterator", data := .fields #[.ref l, .int 0 0] }).push { cls := .type "enumerate", data := .fields #[.none, .bool false, .ref s.heap.objs.size, rawInt 0, .none, .none] } }) :=
  .of_wp fun prog w A R s h => by
    obtain ⟨hp, g, d, tk, os⟩ := s; obtain ⟨hL, h⟩ := h
    have hsub := sub_enumerate
    obtain ⟨⟨c, dct, dt, sl⟩, hl, hc, n, hd⟩ := id hL
    replace hc : c = .type "tuple" := hc
    replace hd : dt = .seq items n := hd
    subst hc hd
    wp_walk using AutoSeq1.wpAny_loadPart' hl
    refine wpAny_stack_any fun st => wpAny_pure ?_
    split
    · rename_i c _ _ _ _ _
      cases (c == Value.type "enumerate")
      · wp_walk using AutoSeq1.wpAny_loadPart' hl, wpAny_pyIter_tuple hL
        exact ⟨_, rfl, h⟩
      · wp_walk using AutoSeq1.wpAny_loadPart' hl, wpAny_pyIter_tuple hL
        exact ⟨_, rfl, h⟩
    · wp_walk using AutoSeq1.wpAny_loadPart' hl, wpAny_pyIter_tuple hL
      exact ⟨_, rfl, h⟩
theorem call_enumerate_tuple {l : Addr} {items : Array Value} {Q : Value → Shared → Prop} (hL : s.heap.IsTuple l items)
    (h : ∀ h', IsEnum h' (s.heap.objs.size + 1) s.heap.objs.size 0 .none → h'.IsTupleIter s.heap.objs.size l 0 → h'.objs.size = s.heap.objs.size + 2 →
      (∀ b o, s.heap.get? b = some o → h'.get? b = some o) → Q (.ref (s.heap.objs.size + 1)) { s with heap := h' }) :
    wpAny (model prog w) A (call (.type "enumerate") [.ref l]) Q E s := by
  refine callType_new F.called_enumerate (by decide) (F.typeCall_enumerate_1 _) (F.newCall_enumerate_1 _) (fun obj => F.args_object_init_2 obj _) F.entry_enumerate_new
    (meets_enumerate_newT l items) ⟨hL, ?_⟩
  have hz : (s.heap.push { cls := .type "tuple_iterator", data := .fields #[.ref l, .int 0 0] }).objs.size = s.heap.objs.size + 1 := Heap.size_push ..
  show _ ∧ _
  rw [hz]
  have he : IsEnum ((s.heap.push { cls := .type "tuple_iterator", data := .fields #[.ref l, .int 0 0] }).push
      { cls := .type "enumerate", data := .fields #[.none, .bool false, .ref s.heap.objs.size, rawInt 0, .none, .none] }) (s.heap.objs.size + 1) s.heap.objs.size 0 .none := by
    have := Heap.get?_push_size (s.heap.push { cls := .type "tuple_iterator", data := .fields #[.ref l, .int 0 0] })
      (o := { cls := .type "enumerate", data := .fields #[.none, .bool false, .ref s.heap.objs.size, rawInt 0, .none, .none] }) rfl
    rw [hz] at this; exact this
  refine ⟨⟨_, he, rfl⟩, h _ he ⟨_, Heap.get?_push_of_some _ (Heap.get?_push_size _ rfl), rfl, rfl⟩ (by rw [Heap.size_push, hz]) fun b o x => Heap.get?_push_of_some _ (Heap.get?_push_of_some _ x)⟩
end
def ItEt (K : PySem.W.Frag) (a : Addr) : It :=
  ⟨fun i H => ∃ (xs : List V) (x : V), SqT K H a xs ∧ xs[i]? = some x, fun i H v H' => ∃ T x, v = .ref T ∧ H T = none ∧ H' = upd H T (.tup [.int (i : Nat), x]) ∧ ∀ xs, SqT K H a xs → xs[i]? = some x, fun i H => ∃ xs : List V, SqT K H a xs ∧ xs.length ≤ i⟩
theorem tupIter_ne {h : Heap} {it a : Addr} {i : Nat} {its : Array Value} (st : h.IsTupleIter it a i) (p : h.IsTuple a its) : a ≠ it := fun z => by
  obtain ⟨o, e, c, _⟩ := st
  obtain ⟨o', e', c', _⟩ := p
  rw [z, e] at e'; cases e'
  rw [c] at c'; exact absurd c' (by decide)
theorem tupIter_ne2 {h : Heap} {e it a : Addr} {i : Int} {old : Value} {its : Array Value} (st : IsEnum h e it i old) (p : h.IsTuple a its) : e ≠ a := fun z => by
  obtain ⟨o', e', c', _⟩ := p
  have st' : h.get? e = some _ := st
  rw [z, e'] at st'; cases st'
  exact absurd c' (by simp)
theorem turn_enumT {P : Program} {w : World} {K : PySem.W.Frag} {elts : List Expr} {kk : Nat} {tpos : Pos} (a e it : Addr) :
    Turn P w K (.Tuple elts kk tpos) (ItEt K a) [e, it] e (fun i h => (∃ old, IsEnum h e it ((i : Nat) : Int) old) ∧ h.IsTupleIter it a i ∧ e ≠ it) where
  mem := by simp
  obj := fun i h st b hb => by
    obtain ⟨⟨old, he⟩, ⟨o, ho, hc, hd⟩, _⟩ := st
    have e' : b = e ∨ b = it := by simpa using hb
    rcases e' with z | z
    · rw [z]; exact ⟨_, he, fun v q => nomatch q⟩
    · rw [z]; exact ⟨o, ho, fun v q => by rw [hd] at q; cases q⟩
  keep := fun i h h' st k => let ⟨⟨old, he⟩, hi, hne⟩ := st; ⟨⟨old, k e (by simp) _ he⟩, hi.at fun o q => k it (by simp) o q, hne⟩
  item := by
    intro X hP hw hK hc i pins s σ H E I hf st hg
    subst hP hw hK
    obtain ⟨⟨old, he⟩, hit, hne⟩ := st
    obtain ⟨xs, x, hq, hx⟩ := hg
    obtain ⟨its, rv, p, hz⟩ := I.tuple hq
    have p' : s.heap.IsTuple a its.toArray := p
    have hai : a ≠ it := tupIter_ne hit p'
    have hea : e ≠ a := tupIter_ne2 he p'
    obtain ⟨u, hu, ru⟩ := rv.get hx
    have hel : e < s.heap.objs.size := Heap.lt_size he
    have hil : it < s.heap.objs.size := by obtain ⟨_, q, _⟩ := hit; exact Heap.lt_size q
    have hlt : i < its.toArray.size := by
      have := (List.getElem?_eq_some_iff.mp hu).1
      simpa using this
    refine wpAny_pyNext_enum_itemD (Draws.tuple (A := X.A.in1) (show X.A.in1.handled = none from I.ok.hd hc) it a hai its.toArray) he ⟨hit, p'⟩ hlt hne (by simp only [List.mem_cons, List.not_mem_nil, or_false, not_or]; exact ⟨hne, hea⟩) fun v h' tk hv ho hit' hT hsz hk => ?_
    have hvu : v = u := by
      have q : its[i]? = some v := by simpa using hv
      rw [hu] at q; cases q; rfl
    subst hvu
    refine ⟨_, rfl, wpAny_letOwnedTupleGo_enum (s := { s with heap := h', toks := tk + 1 }) ho fun h'' he' sb => ?_⟩
    have hT2 : h''.get? s.heap.objs.size = some { cls := .type "tuple", data := .seq #[.int i tk, v] } := (sb.2 _ (Nat.ne_of_gt hel)).trans hT
    have new : ObjOk X.prog X.w (upd H s.heap.objs.size (.tup [.int (i : Nat), x])) h'' s.heap.objs.size (.tup [.int (i : Nat), x]) :=
      ⟨by show 2 ≤ sizeLine; decide, [.int i tk, v], .cons ⟨_, rfl⟩ (.cons ru .nil), ⟨_, hT2, rfl, _, rfl⟩⟩
    have I1 : Inv X pins σ (upd H s.heap.objs.size (.tup [.int (i : Nat), x])) { s with heap := h'', toks := tk + 1 } :=
      I.turnedNew (ch := [e, it]) (fun b ob hb q => (sb.2 b (fun z => hb (by simp [z]))).trans (hk b ob (fun z => hb (by simp [z])) (fun z => hb (by simp [z])) q)) hf (Nat.le_refl _) new
    refine ⟨.ref s.heap.objs.size, _, I1, rfl, ⟨_, x, rfl, I.hok.fresh (Nat.le_refl _), rfl, fun ys hy => by rw [I.tuple_inj hy hq]; exact hx⟩, ⟨⟨v, ?_⟩, hit'.1.at fun o q => (sb.2 it (Ne.symm hne)).trans q, hne⟩, fun b hb => ?_⟩
    · have e1 : ((i + 1 : Nat) : Int) = (i : Int) + 1 := by omega
      rw [e1]; exact he'
    · have hb' : b < s.heap.objs.size := by
        have e' : b = e ∨ b = it := by simpa using hb
        rcases e' with z | z
        · rw [z]; exact hel
        · rw [z]; exact hil
      rw [upd_ne (Nat.ne_of_lt hb')]
      exact (hf b hb).1
  done := by
    intro X hP hw hK hc i pins s σ H E I hf st hg
    subst hP hw hK
    obtain ⟨⟨old, he⟩, hit, hne⟩ := st
    obtain ⟨xs, hq, hx⟩ := hg
    obtain ⟨its, rv, p, hz⟩ := I.tuple hq
    have p' : s.heap.IsTuple a its.toArray := p
    obtain ⟨f0, f1, f2, f3, f4, f5⟩ := hf it (by simp)
    have hl := rv.length
    have hle : its.toArray.size ≤ i := by simp; omega
    -- past the end: draw none
    refine wpAny_pyNext_enum_endT (I.ok.hd hc) he hit p' (by simp; omega) fun h' eb => ⟨rfl, I.turned (t' := s.toks) (fun b o hb q => eb b o hb q) f0 f1 f3 f4 f5⟩
  self := fun A i s Q E st h => let ⟨⟨_, he⟩, _⟩ := st; wpAny_pyIter_enum he h
theorem wk_enumS {K : PySem.W.Frag} {C : Nat → Addr} {io : Io} {F : Hp} (x : Str) : Wk K C io F ((signsD x).mapIdx fun i d => .tup [.int (i : Nat), d]) (ItEs x) := fun io' H' S' hp hs dn => by
  have hl : ((signsD x).mapIdx fun i d => D.tup [.int (i : Nat), d]).length = x.cps.size := by simp [signsD]
  refine ⟨fun i hi => by rw [hl] at hi; exact hi, by show x.cps.size ≤ _; rw [hl]; exact Nat.le_refl _, fun i v H'' hi y => ?_⟩
  obtain ⟨T, c, hc, rfl, hT, rfl⟩ := y
  obtain ⟨x1, d1, r1⟩ := new_tup (xs := [.int (i : Nat), .str ⟨#[c]⟩]) dn (.cons (.int _) (.cons (.str _) .nil)) hT
  exact ⟨.tup [.int (i : Nat), .str ⟨#[c]⟩], by simp [signsD, hc], x1, d1, r1⟩
theorem wk_enumL {K : PySem.W.Frag} {C : Nat → Addr} {io : Io} {F : Hp} {a : Addr} {vs : List V} {ds : List D} (h : SqL K F a vs) (r : Reps K C io F ds vs) : Wk K C io F (ds.mapIdx fun i d => .tup [.int (i : Nat), d]) (Ite K a) := fun io' H' S' hp hs dn => by
  have h' : SqL K H' a vs := (Fz_same _ _).seq (hs.seq h)
  have hl : (ds.mapIdx fun i d => D.tup [.int (i : Nat), d]).length = ds.length := by simp
  refine ⟨fun i hi => ?_, ⟨vs, h', by rw [hl, r.length]; exact Nat.le_refl _⟩, fun i x H'' hi y => ?_⟩
  · have hv : i < vs.length := by rw [← r.length, ← hl]; exact hi
    exact ⟨vs, vs[i], h', by simp [hv]⟩
  · obtain ⟨T, x, rfl, hT, rfl, hx⟩ := y
    obtain ⟨d, e1, e2⟩ := r.getV (hx vs h')
    obtain ⟨x1, d1, r1⟩ := new_tup (xs := [.int (i : Nat), d]) dn (.cons (.int _) (.cons (e2.mono hp hs) .nil)) hT
    exact ⟨.tup [.int (i : Nat), d], by simp [e1], x1, d1, r1⟩
theorem wk_enumT {K : PySem.W.Frag} {C : Nat → Addr} {io : Io} {F : Hp} {a : Addr} {vs : List V} {ds : List D} (h : SqT K F a vs) (r : Reps K C io F ds vs) : Wk K C io F (ds.mapIdx fun i d => .tup [.int (i : Nat), d]) (ItEt K a) := fun io' H' S' hp hs dn => by
  have h' : SqT K H' a vs := sqT_same (Fz_same _ _) (sqT_same hs h)
  have hl : (ds.mapIdx fun i d => D.tup [.int (i : Nat), d]).length = ds.length := by simp
  refine ⟨fun i hi => ?_, ⟨vs, h', by rw [hl, r.length]; exact Nat.le_refl _⟩, fun i x H'' hi y => ?_⟩
  · have hv : i < vs.length := by rw [← r.length, ← hl]; exact hi
    exact ⟨vs, vs[i], h', by simp [hv]⟩
  · obtain ⟨T, x, rfl, hT, rfl, hx⟩ := y
    obtain ⟨d, e1, e2⟩ := r.getV (hx vs h')
    obtain ⟨x1, d1, r1⟩ := new_tup (xs := [.int (i : Nat), d]) dn (.cons (.int _) (.cons (e2.mono hp hs) .nil)) hT
    exact ⟨.tup [.int (i : Nat), d], by simp [e1], x1, d1, r1⟩
def enumD : List D → Option (List D)
  | [.str x] => some ((signsD x).mapIdx fun i d => .tup [.int (i : Nat), d])
  | [.lst xs] => some (xs.mapIdx fun i d => .tup [.int (i : Nat), d])
  | [.tup xs] => some (xs.mapIdx fun i d => .tup [.int (i : Nat), d])
  | _ => none
section
variable {X : Cx} {C : Nat → Addr} {W : WX} {e : Expr} {rs : RA} {pos p tpos : Pos} {elts : List Expr} {kk : Nat}
theorem ei_enum (hg : Gl X "enumerate") (hm : X.mg "enumerate" = none) (ha : PA X [e] (tA X.K C W rs)) (hs : starEach [e] X.env = [(false, eval e X.env)] := by rfl) : PI X (.Tuple elts kk tpos) (.Call (.Name "enumerate" p) [e] [] pos) (tI X.K C W (rRan enumD rs)) := by
  have hi : PI X (.Tuple elts kk tpos) (.Call (.Name "enumerate" p) [e] [] pos) (fun sg H R => tA X.K C W rs sg H fun vs H1 => (∃ a xs, vs = [.ref a] ∧ SqL X.K H1 a xs ∧ R (Ite X.K a) H1) ∨ (∃ x, vs = [.str x] ∧ R (ItEs x) H1) ∨ (∃ a xs, vs = [.ref a] ∧ SqT X.K H1 a xs ∧ R (ItEt X.K a) H1)) := by
    refine ⟨fun pins s σ H R I h => ?_⟩
    refine Call_ (ld_blt I hg hm boot_enumerate (PyProof.Rows.callWith_type1 (thn (ha.run pos pins s σ H _ I h) fun us s1 ⟨vs, H1, I1, r1, q1⟩ => ?_) hs rfl))
    have fp : ∀ b ∈ [s1.heap.objs.size + 1, s1.heap.objs.size], s1.heap.objs.size ≤ b := fun b hb => by
      have e' : b = s1.heap.objs.size + 1 ∨ b = s1.heap.objs.size := by simpa using hb
      omega
    rcases q1 with ⟨a, xs, rfl, hq, q⟩ | ⟨x, rfl, q⟩ | ⟨a, xs, rfl, hq, q⟩
    · obtain ⟨u, rfl, r⟩ := r1.one
      cases r
      obtain ⟨its, rv, p', hz⟩ := I1.list hq
      refine call_enumerate_list p'.isList fun h' he hit hsz hk => wpAny_pyIter_enum he ?_
      have I2 : L2.Inv X pins σ H1 { s1 with heap := h' } := I1.kept (t' := s1.toks) hk
      exact ⟨s1.heap.objs.size + 1, [s1.heap.objs.size + 1, s1.heap.objs.size], _, _, H1, rfl, I2, turn_enum a (s1.heap.objs.size + 1) s1.heap.objs.size, ⟨⟨.none, he⟩, hit, Nat.succ_ne_self _⟩, fun b hb => I1.fpOk (fp b hb) (I1.hok.fresh (fp b hb)), q⟩
    · obtain ⟨u, rfl, r⟩ := r1.one
      obtain ⟨t, rfl⟩ := r
      refine call_enumerate_str fun h' he hit hsz hk => wpAny_pyIter_enum he ?_
      have I2 : L2.Inv X pins σ H1 { s1 with heap := h' } := I1.kept (t' := s1.toks) hk
      exact ⟨s1.heap.objs.size + 1, [s1.heap.objs.size + 1, s1.heap.objs.size], _, _, H1, rfl, I2, turn_enumS x t (s1.heap.objs.size + 1) s1.heap.objs.size, ⟨⟨.none, he⟩, hit, Nat.succ_ne_self _, Nat.zero_le _⟩, fun b hb => I1.fpOk (fp b hb) (I1.hok.fresh (fp b hb)), q⟩
    · obtain ⟨u, rfl, r⟩ := r1.one
      cases r
      obtain ⟨its, rv, p', hz⟩ := I1.tuple hq
      refine call_enumerate_tuple p' fun h' he hit hsz hk => wpAny_pyIter_enum he ?_
      have I2 : L2.Inv X pins σ H1 { s1 with heap := h' } := I1.kept (t' := s1.toks) hk
      exact ⟨s1.heap.objs.size + 1, [s1.heap.objs.size + 1, s1.heap.objs.size], _, _, H1, rfl, I2, turn_enumT a (s1.heap.objs.size + 1) s1.heap.objs.size, ⟨⟨.none, he⟩, hit, Nat.succ_ne_self _⟩, fun b hb => I1.fpOk (fp b hb) (I1.hok.fresh (fp b hb)), q⟩
  refine hi.imp fun sg H R h => (tR.seq1 (R := RepsR X.K C) (fun _ ds S => ofO (enumD ds) S) h fun _ _ => rfl).mono fun vs H1 ⟨e, S, io, ds, dn, s, r, p1⟩ => ?_
  obtain ⟨zs, ed, p1⟩ := p1.ofO
  unfold enumD at ed
  split at ed
  · cases ed
    obtain ⟨v, rfl, h⟩ := reps1 r
    cases h
    exact .inr (.inl ⟨_, rfl, p1 _ H1 io (Ext.refl _ _) dn (wk_enumS _)⟩)
  · cases ed
    obtain ⟨v, rfl, h⟩ := reps1 r
    cases h with
    | lst q rs => exact .inl ⟨_, _, rfl, (Fz_same _ _).seq q, p1 _ H1 io (Ext.refl _ _) dn (wk_enumL q rs)⟩
  · cases ed
    obtain ⟨v, rfl, h⟩ := reps1 r
    cases h with
    | tup q rs => exact .inr (.inr ⟨_, _, rfl, sqT_same (Fz_same _ _) q, p1 _ H1 io (Ext.refl _ _) dn (wk_enumT q rs)⟩)
  · cases ed
end
end Ev
namespace Ev
open PySem PySem.Spec L2
def strIn (i j : Str) : Bool := !(Builtin.Str.occurrences j i 0 j.length 1).isEmpty
def inAny (ps : List PyData) (p : PyData) : Bool := ps.any fun y => PyData.eqv y p
def seqP : PyData → Option (List PyData)
  | .list ps => some ps
  | .tuple ps => some ps
  | _ => none
def inB (S : Store) : D → D → Option Bool
  | .str i, .str j => some (strIn i j)
  | a, b => (pyD S deepN a).bind fun x => (pyD S deepN b).bind fun y => (seqP y).bind fun ps => some (inAny ps x)
def inD (S : Store) (a b : D) : Option D := (inB S a b).bind fun k => some (.bl k)
def ninD (S : Store) (a b : D) : Option D := (inB S a b).bind fun k => some (.bl (!k))
theorem inB_cases {S : Store} {a b : D} {k : Bool} (h : inB S a b = some k) : (∃ i j, a = .str i ∧ b = .str j ∧ k = strIn i j) ∨ ∃ x y ps, pyD S deepN a = some x ∧ pyD S deepN b = some y ∧ seqP y = some ps ∧ k = inAny ps x := by
  unfold inB at h
  split at h
  · cases h; exact .inl ⟨_, _, rfl, rfl, rfl⟩
  · obtain ⟨x, h1, h⟩ := bind_some' h
    obtain ⟨y, h2, h⟩ := bind_some' h
    obtain ⟨ps, h3, h⟩ := bind_some' h
    cases h
    exact .inr ⟨x, y, ps, h1, h2, h3, rfl⟩
section
variable {X : Cx} {C : Nat → Addr}
theorem inD_ok (hu : X.A.units + 64 < cLine) : OpD X C (compareOp .In) inD := by
  intro pins s sg H x y v u Q I rx ry ⟨io, S, a, b, d, dn, ra, rb, e, q⟩
  obtain ⟨k, e1, e2⟩ := bind_some' e
  cases e2
  rcases inB_cases e1 with ⟨i, j, rfl, rfl, rfl⟩ | ⟨p, p', ps, h1, h2, h3, rfl⟩
  · cases ra; cases rb
    exact op_in_str pins s sg H _ _ v u Q I rx ry ⟨i, j, rfl, rfl, q _ H io (Ext.refl _ _) dn (.bl _)⟩
  · obtain ⟨⟨as, r1⟩, b1, l1⟩ := reads_of I dn h1 ra rx
    obtain ⟨⟨bs, r2⟩, b2, l2⟩ := reads_of I dn h2 rb ry
    have fin : EP X pins sg Q (.bool (ps.any fun y => PyData.eqv y p)) s := ⟨.bl _, H, I, rfl, q _ H io (Ext.refl _ _) dn (.bl _)⟩
    have hl : p.depth ≤ 60 := l1
    cases p' <;> cases h3
    · exact SeqAt.in_list_data r2 r1 (by simpa [PyData.plain] using b2) b1 (by omega) fin
    · exact SeqAt.in_tuple_data r2 r1 (by simpa [PyData.plain] using b2) b1 (by omega) fin
theorem ninD_ok (hu : X.A.units + 64 < cLine) : OpD X C (compareOp .NotIn) ninD := by
  intro pins s sg H x y v u Q I rx ry ⟨io, S, a, b, d, dn, ra, rb, e, q⟩
  obtain ⟨k, e1, e2⟩ := bind_some' e
  cases e2
  rcases inB_cases e1 with ⟨i, j, rfl, rfl, rfl⟩ | ⟨p, p', ps, h1, h2, h3, rfl⟩
  · cases ra; cases rb
    exact op_notin_str pins s sg H _ _ v u Q I rx ry ⟨i, j, rfl, rfl, q _ H io (Ext.refl _ _) dn (.bl _)⟩
  · obtain ⟨⟨as, r1⟩, b1, l1⟩ := reads_of I dn h1 ra rx
    obtain ⟨⟨bs, r2⟩, b2, l2⟩ := reads_of I dn h2 rb ry
    have fin : EP X pins sg Q (.bool (!ps.any fun y => PyData.eqv y p)) s := ⟨.bl _, H, I, rfl, q _ H io (Ext.refl _ _) dn (.bl _)⟩
    have hl : p.depth ≤ 60 := l1
    cases p' <;> cases h3
    · exact SeqAt.notIn_list_data r2 r1 (by simpa [PyData.plain] using b2) b1 (by omega) fin
    · exact SeqAt.notIn_tuple_data r2 r1 (by simpa [PyData.plain] using b2) b1 (by omega) fin
def seqD (S : Store) : D → Option (List D)
  | .tup xs => some xs
  | d => asL S d
theorem seq_rep {K : PySem.W.Frag} {io : Io} {S : Store} {H : Hp} {d : D} {v : V} {xs : List D} (h : seqD S d = some xs) (dn : Den K C io S H) (r : Rep K C io (Fz io H) d v) :
    ∃ a vs, v = .ref a ∧ (SqL K H a vs ∨ SqT K H a vs) ∧ Reps K C io (Fz io H) xs vs := by
  unfold seqD at h
  split at h
  · cases h
    cases r with
    | tup q rs => exact ⟨_, _, rfl, .inr (sqT_same (Fz_same _ _) q), rs⟩
  · obtain ⟨a, vs, e, q, rs⟩ := asL_rep h dn r
    exact ⟨a, vs, e, .inl q, rs⟩
def listD (S : Store) : List D → Option D
  | [d] => (seqD S d).bind fun xs => some (.lst xs)
  | _ => none
def tupleD (S : Store) : List D → Option D
  | [d] => (seqD S d).bind fun xs => some (.tup xs)
  | _ => none
def showOk (p : PyData) : Bool := p.showable && !p.hasDict && decide (p.shown.length ≤ sizeLine)
def reprD (S : Store) : List D → Option D
  | [d] => (pyD S deepN d).bind fun p => if showOk p = true then some (.str p.shown) else none
  | _ => none
theorem reprD_ok (hu : X.A.units + 64 < cLine) (hg : X.A.guards = some []) : CallD X C (.builtin "repr") reprD := fun pins s sg H xs us Q I rx ⟨io, S, as, d, dn, ra, e, q⟩ => by
  unfold reprD at e
  split at e
  · rename_i d0
    obtain ⟨v, rfl, h⟩ := reps1 ra
    obtain ⟨p, h1, h2⟩ := bind_some' e
    split at h2
    · rename_i ok
      cases h2
      obtain ⟨u, rfl, ru⟩ := rx.one
      obtain ⟨⟨as, r1⟩, b1, l1⟩ := reads_of I dn h1 h ru
      simp only [showOk, Bool.and_eq_true, decide_eq_true_eq, Bool.not_eq_true'] at ok
      obtain ⟨⟨o1, o2⟩, o3⟩ := ok
      have fin : ∀ k t, EP X pins sg Q (.str p.shown t) { s with toks := k } := fun k t => ⟨.str _, H, I.tok k, ⟨t, rfl⟩, q _ H io (Ext.refl _ _) dn (.str _)⟩
      have hl : p.depth ≤ 60 := l1
      cases r1 with
      | none => exact P.repr_of_none (fin _ _)
      | bool => exact P.repr_of_bool (fin _ _)
      | int => exact P.repr_of_int (by simpa [PyData.showable] using o1) (fin _ _)
      | str => exact P.repr_of_str (fin _ _) o3
      | list g1 g2 g3 g4 => exact repr_of_reads' (.list g1 g2 g3 g4) o1 (PyData.noDict_hsm o2) hg (by omega) (fun _ _ e => e) (fun h' u tk hk => ⟨.str _, H, I.kept (t' := tk) hk, ⟨u, rfl⟩, q _ H io (Ext.refl _ _) dn (.str _)⟩) o3
      | tuple g1 g2 g3 g4 => exact repr_of_reads' (.tuple g1 g2 g3 g4) o1 (PyData.noDict_hsm o2) hg (by omega) (fun _ _ e => e) (fun h' u tk hk => ⟨.str _, H, I.kept (t' := tk) hk, ⟨u, rfl⟩, q _ H io (Ext.refl _ _) dn (.str _)⟩) o3
      | dict => simp [PyData.hasDict] at o2
    · cases h2
  · cases e
def tyM (S : Store) : D → Option String
  | .str _ => some "str"
  | .lst _ => some "list"
  | .dct _ _ => some "dict"
  | .loc n => match S[n]? with
    | some (.lst _) => some "list"
    | some (.dK _ _) => some "dict"
    | _ => none
  | _ => none
theorem ty_rep {K : PySem.W.Frag} {io : Io} {S : Store} {H : Hp} {d : D} {v : V} {T : String} (h : tyM S d = some T) (dn : Den K C io S H) (r : Rep K C io (Fz io H) d v) : tyV K T v H := by
  cases r with
  | str => cases h; rfl
  | lst q rs => cases h; exact .inl ⟨rfl, _, (Fz_same _ _).seq q⟩
  | dct q e1 e2 rs => cases h; exact .inr (.inr (.inl ⟨rfl, .inl ⟨_, Fz_same _ _ _ _ q⟩⟩))
  | @loc n a q =>
    simp only [tyM] at h
    split at h
    · rename_i ys e
      cases h
      obtain ⟨vs, h1, h2⟩ := dn.obj n _ a e q
      exact .inl ⟨rfl, vs, .of h1⟩
    · rename_i ks ys e
      cases h
      obtain ⟨kvs, h1, h2, h3⟩ := dn.obj n _ a e q
      exact .inr (.inr (.inl ⟨rfl, .inl ⟨_, h1⟩⟩))
    · cases h
  | _ => cases h
abbrev MF := Store → D → List D → Option (D × Store)
def MthD (X : Cx) (C : Nat → Addr) (id : String) (f : MF) : Prop :=
  MtR X id (fun x xs H Q => ∃ io S a as d S', Den X.K C io S H ∧ Rep X.K C io (Fz io H) a x ∧ Reps X.K C io (Fz io H) as xs ∧ f S a as = some (d, S') ∧ ∀ v H' io', Ext io H io' H' → Den X.K C io' S' H' → Rep X.K C io' (Fz io' H') d v → Q v H')
def ofP {A : Type} : Option (A × Store) → Res A
  | some (a, S) => .ok a S
  | none => .bad
def rMth (T : String) (f : MF) (o : RE) (as : RA) : RE := fun e S => (o e S).bind fun x S1 => if tyM S1 x = some T then (as e S1).bind fun xs S2 => ofP (f S2 x xs) else .bad
theorem Post.ofP {K : PySem.W.Frag} {A B : Type} {R : Io → Hp → A → B → Prop} {W : WX} {sg : L2.St} {io : Io} {H : Hp} {Q : B → Hp → Prop} {o : Option (A × Store)} (h : Post K C R W sg io H (ofP o) Q) : ∃ a S, o = some (a, S) ∧ ∀ b H' io', Ext io H io' H' → Den K C io' S H' → R io' (Fz io' H') a b → Q b H' := by
  cases o with
  | some p => exact ⟨p.1, p.2, rfl, h⟩
  | none => exact h.elim
variable {W : WX} {o e : Expr} {es : List Expr} {ro : RE} {rs : RA} {name : Str} {apos cpos : Pos} {T id : String} {f : MF}
theorem ee_mth (pa : PlainAttrs T) (slot : Slot T name id) (hty : typeOf (.builtin id) = pure (.type "method_descriptor")) (hm : MthD X C id f) (ho : PE X o (tE X.K C W ro)) (ha : PA X (e :: es) (tA X.K C W rs))
    (hbase : attributeBase o name X.env (eval o X.env) = eval o X.env := by rfl)
    (hfew : ((backTo cpos (starEach (e :: es) X.env)).all (fun x => !x.1) && (backToKw cpos (keywordEach [] X.env)).all (fun x => x.1.isSome)
      && decide ((e :: es).length + ([] : List Keyword).length + (if ([] : List Keyword).isEmpty then 0 else 1) < 30)) = true := by rfl)
    (hline : (apos.endLine == cpos.line) = true := by rfl) (hs : starEach (e :: es) X.env = (false, eval e X.env) :: starEach es X.env := by rfl) (hplain : (backTo cpos (starEach es X.env)).any (·.1) = false := by rfl) :
    PE X (.Call (.Attribute o name apos) (e :: es) [] cpos) (tE X.K C W (rMth T f ro rs)) :=
  (pe_bm pa slot hty hm ho ha hbase hfew hline hs hplain).imp fun sg H Q h => (tR.seq1 (R := RepR X.K C) (fun e x S1 => if tyM S1 x = some T then (rs e S1).bind fun xs S2 => ofP (f S2 x xs) else .bad) h fun _ _ => rfl).mono fun v H1 ⟨e, S, io, x1, d, s, r1, p⟩ => by
    split at p
    · rename_i ty
      refine ⟨ty_rep ty d r1, e, S, io, d, s, p.bind.mono fun vs H2 ⟨io2, S2, as, x2, d2, r2, p2⟩ => ?_⟩
      obtain ⟨z, S3, ez, p2⟩ := p2.ofP
      exact ⟨io2, S2, x1, as, z, S3, d2, r1.ext x2, r2, ez, p2⟩
    · exact p.elim
theorem mthD_flat {r : V → List V → Hp → VK → Prop} (h : MtR X id r)
    (hf : ∀ io S H a as d S' x xs, Den X.K C io S H → Rep X.K C io (Fz io H) a x → Reps X.K C io (Fz io H) as xs → f S a as = some (d, S') → S' = S ∧ ∃ z, (∀ F, Rep X.K C io F d z) ∧ ∀ Q : VK, Q z H → r x xs H Q) : MthD X C id f := by
  intro pins s sg H x xs v us Q I rx rxs ⟨io, S, a, as, d, S', dn, ra, ras, e, q⟩
  obtain ⟨rfl, z, rz, hq⟩ := hf io S H a as d S' x xs dn ra ras e
  exact h pins s sg H x xs v us Q I rx rxs (hq Q (q z H io (Ext.refl _ _) dn (rz _)))
def strsD : List D → Option (List Str)
  | [] => some []
  | .str x :: r => (strsD r).bind fun ys => some (x :: ys)
  | _ :: _ => none
theorem strs_rep {K : PySem.W.Frag} {io : Io} {F : Hp} : ∀ {ds : List D} {vs : List V} {ys : List Str}, strsD ds = some ys → Reps K C io F ds vs → vs = ys.map V.str
  | _, _, _, h, .nil => by cases h; rfl
  | _, _, _, h, .cons r rs => by
    cases r <;> simp only [strsD] at h <;> try cases h
    obtain ⟨zs, h1, h2⟩ := bind_some' h
    cases h2
    rw [strs_rep h1 rs]
    rfl
def joinOk (a : Str) (ys : List Str) : Bool := decide ((ys.map (·.length)).sum + ys.length * a.length ≤ 16777216)
def joinD : MF
  | S, .str a, [d] => (seqD S d).bind fun ds => (strsD ds).bind fun ys => if joinOk a ys = true then some (.str (Txt.join a ys), S) else none
  | _, _, _ => none
theorem joinD_ok : MthD X C "str.join" joinD := mthD_flat mt_join fun io S H a as d S' x xs dn ra ras e => by
  unfold joinD at e
  split at e
  · obtain ⟨v, rfl, h⟩ := reps1 ras
    cases ra
    obtain ⟨ds, h1, e⟩ := bind_some' e
    obtain ⟨ys, h2, e⟩ := bind_some' e
    split at e
    · rename_i ok
      cases e
      obtain ⟨p, vs, rfl, hq, rs⟩ := seq_rep h1 dn h
      rw [strs_rep h2 rs] at hq
      exact ⟨rfl, _, fun _ => .str _, fun Q q => ⟨_, p, ys, rfl, rfl, hq, by simpa [joinOk] using ok, q⟩⟩
    · cases e
  · cases e
def countL : MF
  | S, d, [x] => (asL S d).bind fun ds => (pyAll (pyD S deepN) ds).bind fun ps => (pyD S deepN x).bind fun p => some (.int ((ps.countP fun y => PyData.eqv y p : Nat) : Int), S)
  | _, _, _ => none
theorem countL_ok (hu : X.A.units + 64 < cLine) : MthD X C "list.count" countL := by
  intro pins s sg H x xs v us Q I rx rxs ⟨io, S, a, as, d, S', dn, ra, ras, e, q⟩
  unfold countL at e
  split at e
  · obtain ⟨w, rfl, h⟩ := reps1 ras
    obtain ⟨ds, h1, e⟩ := bind_some' e
    obtain ⟨ps, h2, e⟩ := bind_some' e
    obtain ⟨p, h3, e⟩ := bind_some' e
    cases e
    obtain ⟨u, rfl, ru⟩ := rxs.one
    obtain ⟨⟨bs, r2⟩, b2, l2⟩ := reads_of I dn h3 h ru
    have l2' : p.depth ≤ 60 := l2
    -- the list as data
    have h4 : pyD S (deepN + 1) a = some (.list ps) := by
      cases a with
      | lst zs => cases h1; simp only [pyD, h2, Option.bind]
      | loc n =>
        simp only [asL] at h1
        split at h1
        · rename_i e1
          cases h1
          simp only [pyD, e1, h2, Option.bind]
        · cases h1
      | _ => cases h1
    obtain ⟨⟨as, r1⟩, b1, l1⟩ := reads_of I dn h4 ra rx
    have pa : PyData.plainAll ps = true := by simpa [PyData.plain] using b1
    cases r1 with
    | @list l o vs n xs as' g1 g2 g3 g4 =>
      obtain ⟨cls, dd, data, sl⟩ := o
      simp only at g2 g3
      subst g2; subst g3
      refine call_meets PySem.F.slot_list_count ⟨_, g1, rfl⟩ PySem.F.entry_list_count (PySem.F.args_list_count_2 _ _)
        (SeqAt.list_countAt l vs n dd sl u (fun y => PyData.eqv (SeqAt.readOf s.heap y) p)) ⟨g1, fun y hy => ?_, ?_⟩
      · exact SeqAt.items_plain (A := X.A) g4 r2 pa b2 (by omega) y hy
      · have ec : vs.toList.countP (fun y => PyData.eqv (SeqAt.readOf s.heap y) p) = ps.countP (fun y => PyData.eqv y p) := by
          rw [← SeqAt.readsAll_map_plain ps _ _ pa g4, List.countP_map]
          rfl
        rw [ec]
        exact ⟨.int _, H, I.tok _, ⟨_, rfl⟩, q _ H io (Ext.refl _ _) dn (.int _)⟩
  · cases e
def appendL : MF
  | S, .loc n, [x] => match S[n]? with
    | some (.lst xs) => if xs.length < sizeLine then some (.non, S.set n (.lst (xs ++ [x]))) else none
    | _ => none
  | _, _, _ => none
theorem put_lst {K : PySem.W.Frag} {io : Io} {S : Store} {H : Hp} {n : Nat} {p : Addr} {xs : List D} {vs : List V} (dn : Den K C io S H) (h : io.l[n]? = some p) (r : Reps K C io (Fz io H) xs vs) :
    Ext io H io (upd H p (.lst vs)) ∧ Den K C io (S.set n (.lst xs)) (upd H p (.lst vs)) :=
  ⟨Ext.put (mem_all h), dn.put h ⟨vs, upd_same, r.ext (Ext.put (mem_all h))⟩⟩
theorem appendL_ok : MthD X C "list.append" appendL := by
  intro pins s sg H x xs v us Q I rx rxs ⟨io, S, a, as, d, S', dn, ra, ras, e, q⟩
  unfold appendL at e
  split at e
  · rename_i n y
    obtain ⟨w, rfl, h⟩ := reps1 ras
    cases ra with
    | @loc _ p hn =>
    split at e
    · rename_i ys e1
      split at e
      · rename_i hz
        cases e
        obtain ⟨vs, g1, g2⟩ := dn.obj n _ p e1 hn
        obtain ⟨x1, d1⟩ := put_lst dn hn (g2.append (.cons h .nil))
        exact mt_append pins s sg H _ _ v us Q I rx rxs ⟨p, vs, w, rfl, rfl, g1, by rw [← g2.length]; exact hz, q _ _ io x1 d1 .non⟩
      · cases e
    · cases e
  · cases e
end
end Ev
namespace Ev
open PySem PySem.Spec L2 PyProof.Rows
structure RoomG (k : Nat) (A : Around) : Prop where
  room : Room k A
  gd : A.guards = some []
structure FnG (P : Program) (w : World) (K : PySem.W.Frag) (mg : Str → Option Value) (base : Heap) (CX : CXT) (k : Nat) (f : Addr) (fd : FuncData) (ps : List Str) (sp : Sp) : Prop where
  len : ∀ vs H Q E, sp vs H Q E → vs.length = ps.length
  run : ∀ (A : Around) (outer : List PySem.Env) (s : Shared) (H : Hp) (args : Args) (us : List Value) (vs : List V) (Q : VK) (E : XK), RoomG k A → Env0 P w K mg base A outer s H → BindsTo s fd args (ps.zip us) → Vals vs us → sp vs H Q E →
    codeAny (model P w) A (.call (.ref f) args) (CR CX outer P w H s Q E) s
theorem RoomG.mono {j k : Nat} {A : Around} (r : RoomG k A) (h : j ≤ k) : RoomG j A := ⟨r.room.mono h, r.gd⟩
theorem FnG.of {P : Program} {w : World} {K : PySem.W.Frag} {mg : Str → Option Value} {base : Heap} {CX : CXT} {k : Nat} {f : Addr} {fd : FuncData} {ps : List Str} {sp : Sp} (F : FnOk P w K mg base CX k f fd ps sp) : FnG P w K mg base CX k f fd ps sp :=
  ⟨F.len, fun A outer s H args us vs Q E hr => F.run A outer s H args us vs Q E hr.room⟩
section
variable {P : Program} {w : World} {K : PySem.W.Frag} {mg : Str → Option Value} {base : Heap} {C : Nat → Addr}
theorem fnG_ev {x qual : Str} {st : Stmt} {f : Addr} {fd : FuncData} {N ps : List Str} {k : Nat} {m : RS} (F : Fun K x qual st f fd) (S : FnScope N ps (defScope st))
    (hbody : ∀ (cdv : Value) (A : Around) (outer : List PySem.Env) (s : Shared) (H : Hp) (E : XK), RoomG k (A.deeper (envOfC qual (defScope st) s.heap.objs.size f cdv)) →
      L2N.Takes (cxOf (L2N.CX P w) P w K mg base N qual (defScope st) f cdv A outer s H E) (fun cls d _ H => E cls d H) →
      PassesOwn (model P w) (cxOf (L2N.CX P w) P w K mg base N qual (defScope st) f cdv A outer s H E).A (cxOf (L2N.CX P w) P w K mg base N qual (defScope st) f cdv A outer s H E).env (cxOf (L2N.CX P w) P w K mg base N qual (defScope st) f cdv A outer s H E).xe →
      PSs (cxOf (L2N.CX P w) P w K mg base N qual (defScope st) f cdv A outer s H E) (defBody st) (tS K C (fun cls d _ H => E cls d H) m)) :
    FnG P w K mg base (L2N.CX P w) (k + 1) f fd ps (spOf K C ps.length (runDef N.length m)) := by
  obtain ⟨oc, od, kV, doc, pm, an, cdv, ct, osl, rfl, lk, hcd⟩ := F.ex
  refine ⟨fun vs H Q E h => h.1, fun A outer s H args us vs Q E hr e0 hb r hsp => ?_⟩
  have KX : K.In s.heap := e0.mod.kin.keeps fun b o e => (e0.bs b o e).1
  have rdp := hr.room.deeper (envOfC qual (defScope st) s.heap.objs.size f cdv)
  have ht := hbody cdv A outer s H E ⟨rdp, hr.gd⟩ (L2N.takes_of rfl rfl rfl rfl) (passes_of rfl)
  have hq : tS K C (fun cls d _ H => E cls d H) m { nx := fun _ H' => Q .non H', rt := Q } (L2.start N vs) H := by
    obtain ⟨hl, ds, S, io, dn, rs, p⟩ := hsp
    refine ⟨_, S, io, dn, slots_start rs, ?_⟩
    unfold runDef Fl.res at p
    split at p
    · rename_i e S1 q
      rw [q]
      exact fun sg H' io' x d s => p _ H' io' x d .non
    · rename_i d S1 q
      rw [q]
      exact p
    · rename_i x e S1 q
      rw [q]
      exact fun cls dd sg H' io' x d s xr => p cls dd H' io' x d xr
    · exact p.elim
  refine codeAny_call_function hr.room.depth (KX _ _ lk) rfl S.co S.gen rfl (PySem.W.codeRec_of KX hcd) (hb _ _ _ _ (wpAny_newFunctionEnv_cells S.kind (fun y hy => ?_) fun env he s1 x => ?_))
  · obtain ⟨n, v⟩ := y
    exact (S.par n (List.of_mem_zip hy).1).imp id fun q => ⟨q, PySem.W.cellsFrom_some _ _ _ (.inl q)⟩
  · subst he
    have lim : s.heap.NoLimit := e0.mod.nolimit.keeps fun b o e => (e0.bs b o e).1
    refine ⟨lim.keeps x.toInCall.keep, codeAny_func (wpAny_mono (ht.run [] s1 (L2.start N vs) H _ (inv_start S hr.room.hd e0 hsp.1 r x) hq) (fun fl s' hs => ?_) fun e s' hs => hs)⟩
    cases fl with
    | ret u => obtain ⟨v, _, H', J, rv, q⟩ := hs; exact ⟨v, H', J.os, J.bare, J.base, J.hok, rv, q⟩
    | next => obtain ⟨_, H', J, q⟩ := hs; exact ⟨.non, H', J.os, J.bare, J.base, J.hok, rfl, q⟩
    | brk => obtain ⟨_, _, _, q⟩ := hs; exact False.elim q
    | cont => obtain ⟨_, _, _, q⟩ := hs; exact False.elim q
end
theorem fnD_ev {P : Program} {w : World} {K : PySem.W.Frag} {mg : Str → Option Value} {base : Heap} {C : Nat → Addr} {x qual : Str} {st : Stmt} {f : Addr} {fd : FuncData} {N ps : List Str} {k : Nat} {m : RS} {dvs : List V} {kws : List (Str × V)} (F : FunD K x qual (defArgs st) (defBody st) (defScope st) dvs kws f fd) (S : FnScope N ps (defScope st))
    (hbody : ∀ (cdv : Value) (A : Around) (outer : List PySem.Env) (s : Shared) (H : Hp) (E : XK), Room k (A.deeper (envOfC qual (defScope st) s.heap.objs.size f cdv)) →
      L2N.Takes (cxOf (L2N.CX P w) P w K mg base N qual (defScope st) f cdv A outer s H E) (fun cls d _ H => E cls d H) →
      PassesOwn (model P w) (cxOf (L2N.CX P w) P w K mg base N qual (defScope st) f cdv A outer s H E).A (cxOf (L2N.CX P w) P w K mg base N qual (defScope st) f cdv A outer s H E).env (cxOf (L2N.CX P w) P w K mg base N qual (defScope st) f cdv A outer s H E).xe →
      PSs (cxOf (L2N.CX P w) P w K mg base N qual (defScope st) f cdv A outer s H E) (defBody st) (tS K C (fun cls d _ H => E cls d H) m)) :
    FnOk P w K mg base (L2N.CX P w) (k + 1) f fd ps (spOf K C ps.length (runDef N.length m)) := by
  refine F.ok S (fun vs H Q E h => h.1) (fun cdv A outer s H vs Q E hr h => ⟨_, hbody cdv A outer s H E hr (L2N.takes_of rfl rfl rfl rfl) (passes_of rfl), ?_⟩)
  obtain ⟨hl, ds, S, io, dn, rs, p⟩ := h
  refine ⟨_, S, io, dn, slots_start rs, ?_⟩
  unfold runDef Fl.res at p
  split at p
  · rename_i e S1 q
    rw [q]
    exact fun sg H' io' x d s => p _ H' io' x d .non
  · rename_i d S1 q
    rw [q]
    exact p
  · rename_i x e S1 q
    rw [q]
    exact fun cls dd sg H' io' x d s xr => p cls dd H' io' x d xr
  · exact p.elim
structure Cal (X : Cx) (f : Addr) (fd : FuncData) (ps : List Str) (sp : Sp) : Prop where
  len : ∀ vs H Q E, sp vs H Q E → vs.length = ps.length
  run : ∀ (pins : List (Addr × Obj)) (sg : L2.St) (s : Shared) (H : Hp) (args : Args) (us : List Value) (vs : List V) (Q : VK) (E : XK), L2.Inv X pins sg H s → BindsTo s fd args (ps.zip us) → Vals vs us → sp vs H Q E →
    codeAny (model X.prog X.w) X.A (.call (.ref f) args) (CR (L2N.CX X.prog X.w) X.stack X.prog X.w H s Q E) s
theorem Cal.ok {X : Cx} {k : Nat} {f : Addr} {fd : FuncData} {ps : List Str} {sp : Sp} (F : FnOk X.prog X.w X.K X.mg X.base (L2N.CX X.prog X.w) k f fd ps sp) (hr : Room k X.A) : Cal X f fd ps sp :=
  ⟨F.len, fun pins sg s H args us vs Q E I => F.run X.A X.stack s H args us vs Q E hr I.env0⟩
theorem Cal.g {X : Cx} {k : Nat} {f : Addr} {fd : FuncData} {ps : List Str} {sp : Sp} (F : FnG X.prog X.w X.K X.mg X.base (L2N.CX X.prog X.w) k f fd ps sp) (hr : RoomG k X.A) : Cal X f fd ps sp :=
  ⟨F.len, fun pins sg s H args us vs Q E I => F.run X.A X.stack s H args us vs Q E hr I.env0⟩
inductive Src where
  | p (i : Nat)
  | k (j : Nat)
  | c (d : D)
def pick1 (us ws : List D) : Src → Option D
  | .p i => us[i]?
  | .k j => ws[j]?
  | .c d => some d
def pick (us ws : List D) : List Src → Option (List D)
  | [] => some []
  | q :: r => (pick1 us ws q).bind fun x => (pick us ws r).bind fun xs => some (x :: xs)
def CstV : D → Value → Prop
  | .non, v => v = .none
  | .bl b, v => v = .bool b
  | .int i, v => ∃ t, v = .int i t
  | .str x, v => ∃ t, v = .str x t
  | _, _ => False
def srcV (us ws : List Value) : Src → Value → Prop
  | .p i, v => us[i]? = some v
  | .k j, v => ws[j]? = some v
  | .c d, v => CstV d v
inductive SrcVs (us ws : List Value) : List Src → List Value → Prop
  | nil : SrcVs us ws [] []
  | cons {q : Src} {r : List Src} {v : Value} {vs : List Value} : srcV us ws q v → SrcVs us ws r vs → SrcVs us ws (q :: r) (v :: vs)
structure BindK (K : PySem.W.Frag) (fd : FuncData) (ps : List Str) (n : Nat) (ks : List Str) (src : List Src) : Prop where
  to : ∀ (s : Shared) (us ws : List Value), K.In s.heap → us.length = n → ws.length = ks.length → ∃ zs, BindsTo s fd ⟨us, ks.zip ws⟩ (ps.zip zs) ∧ SrcVs us ws src zs
theorem BindK.plain {K : PySem.W.Frag} {fd : FuncData} {ps : List Str} {n : Nat} {ks : List Str} {src : List Src} {x qual : Str} {params : Arguments} {body : List Stmt} {scope : Scope} {kws : List (Str × V)} {f : Addr} (F : FunD K x qual params body scope [] kws f fd)
    (h : ∀ (kV doc pm : Value) (an : Option Addr) (cdv ct : Value) (us ws : List Value), us.length = n → ws.length = ks.length → ∃ zs, bindArgs (PySem.W.fnOf x qual params body scope .none kV doc pm an cdv ct) ⟨us, ks.zip ws⟩ = pure (ps.zip zs) ∧ SrcVs us ws src zs) : BindK K fd ps n ks src := by
  obtain ⟨oc, od, dV, kV, doc, pm, an, cdv, ct, osl, rfl, lk, hcd, hD, hK⟩ := F.ex
  rcases hD with ⟨_, rfl⟩ | ⟨e, _⟩
  · refine ⟨fun s us ws KI h1 h2 => ?_⟩
    obtain ⟨zs, e1, e2⟩ := h kV doc pm an cdv ct us ws h1 h2
    exact ⟨zs, .of_eq e1, e2⟩
  · exact absurd rfl e
theorem BindK.lack {K : PySem.W.Frag} {fd : FuncData} {ps : List Str} {n : Nat} {ks : List Str} {src : List Src} {x qual : Str} {params : Arguments} {body : List Stmt} {scope : Scope} {kws : List (Str × V)} {f : Addr} (F : FunD K x qual params body scope [] kws f fd) (hk : kws ≠ []) (ms : List (Str × V)) (hms : ∀ q ∈ ms, q ∈ kws)
    (h : ∀ (D : Addr) (doc pm : Value) (an : Option Addr) (cdv ct : Value) (us ws mv : List Value), us.length = n → ws.length = ks.length → mv.length = ms.length → Vals (ms.map (·.2)) mv →
      ∃ zs, KwChain D ((ms.map (·.1)).zip mv) (bindArgs (PySem.W.fnOf x qual params body scope .none (.ref D) doc pm an cdv ct) ⟨us, ks.zip ws⟩) (ps.zip zs) ∧ SrcVs us ws src zs) : BindK K fd ps n ks src := by
  obtain ⟨oc, od, dV, kV, doc, pm, an, cdv, ct, osl, rfl, lk, hcd, hD, hK⟩ := F.ex
  rcases hD with ⟨_, rfl⟩ | ⟨e, _⟩
  · rcases hK with e | ⟨D, rfl, hq⟩
    · exact absurd e hk
    · obtain ⟨mv, hl, rk, hks⟩ := kwd_vals (ms := ms) fun q hm => hq q (hms q hm)
      refine ⟨fun s us ws KI h1 h2 => ?_⟩
      obtain ⟨zs, e1, e2⟩ := h D doc pm an cdv ct us ws mv h1 h2 hl rk
      exact ⟨zs, BindsTo.of_looks fun M => KwChain.looks KI hks e1, e2⟩
  · exact absurd rfl e
theorem cst_rep {K : PySem.W.Frag} {C : Nat → Addr} {io : Io} {F : Hp} {d : D} {u : Value} (h : CstV d u) : ∃ v, RelV v u ∧ Rep K C io F d v := by
  cases d <;> simp only [CstV] at h
  · exact ⟨.non, h, .non⟩
  · exact ⟨.bl _, h, .bl _⟩
  · exact ⟨.int _, h, .int _⟩
  · exact ⟨.str _, h, .str _⟩
theorem Vals.at' {vs : List V} {us : List Value} (r : Vals vs us) {i : Nat} {u : Value} (h : us[i]? = some u) : ∃ v, vs[i]? = some v ∧ RelV v u := by
  induction r generalizing i with
  | nil => simp at h
  | cons r1 rs ih =>
    cases i with
    | zero => simp at h; subst h; exact ⟨_, rfl, r1⟩
    | succ i => simpa using ih (by simpa using h)
theorem picked {K : PySem.W.Frag} {C : Nat → Addr} {io : Io} {F : Hp} {us ws : List Value} {vs xs : List V} {ds es : List D} (ru : Vals vs us) (rw_ : Vals xs ws) (rd : Reps K C io F ds vs) (re : Reps K C io F es xs) :
    ∀ {src : List Src} {zs : List Value} {as : List D}, SrcVs us ws src zs → pick ds es src = some as → ∃ ys, Vals ys zs ∧ Reps K C io F as ys
  | _, _, _, .nil, h => by cases h; exact ⟨[], .nil, .nil⟩
  | q :: r, _, _, .cons (v := v0) h1 h2, h => by
    simp only [pick] at h
    obtain ⟨d, e1, h⟩ := bind_some' h
    obtain ⟨ds', e2, h⟩ := bind_some' h
    cases h
    obtain ⟨ys, g1, g2⟩ := picked ru rw_ rd re h2 e2
    have : ∃ y, RelV y v0 ∧ Rep K C io F d y := by
      cases q with
      | p i =>
        obtain ⟨v, a1, a2⟩ := Vals.at' ru h1
        obtain ⟨d', b1, b2⟩ := rd.getV a1
        have e : d' = d := by have e1' : ds[i]? = some d := e1; rw [b1] at e1'; exact Option.some.inj e1'
        exact ⟨v, a2, e ▸ b2⟩
      | k i =>
        obtain ⟨v, a1, a2⟩ := Vals.at' rw_ h1
        obtain ⟨d', b1, b2⟩ := re.getV a1
        have e : d' = d := by have e1' : es[i]? = some d := e1; rw [b1] at e1'; exact Option.some.inj e1'
        exact ⟨v, a2, e ▸ b2⟩
      | c d0 => cases e1; exact cst_rep h1
    obtain ⟨y, c1, c2⟩ := this
    exact ⟨y :: ys, .cons c1 g1, .cons c2 g2⟩
def rCallK (g : List D → Store → Res D) (src : List Src) (as ks : RA) : RE := fun e S => (as e S).bind fun ds S1 => (ks e S1).bind fun es S2 => match pick ds es src with
  | some zs => g zs S2
  | none => .bad
theorem SrcVs.length {us ws : List Value} : ∀ {src : List Src} {zs : List Value}, SrcVs us ws src zs → zs.length = src.length
  | _, _, .nil => rfl
  | _, _, .cons _ h => by simp [SrcVs.length h]
section
variable {X : Cx} {C : Nat → Addr} {W : WX} {n : Nat} {f : Addr} {fd : FuncData} {ps ks : List Str} {g : List D → Store → Res D} {x : Str} {p pos : Pos} {e : Expr} {es : List Expr} {rs rk : RA} {src : List Src} {kws : List Keyword} {m : Nat}
theorem run_cal {pins : List (Addr × Obj)} {sg : L2.St} {H : Hp} {s : Shared} {Q : VK} {us zs : List Value} {kw : List (Str × Value)} {vs : List V} {sp : Sp} (F : Cal X f fd ps sp) (tk : L2N.Takes X W) (hb : BindsTo s fd ⟨us, kw⟩ (ps.zip zs)) (I : L2.Inv X pins sg H s) (r : Vals vs zs) (h : sp vs H Q (WE W sg)) :
    wpAny (model X.prog X.w) X.A (call (.ref f) us kw) (EP X pins sg Q) X.xe s := by
  refine wpAny_call (codeAny_mono (F.run pins sg s H _ zs vs Q (WE W sg) I hb r h) fun r s' hq => ?_)
  cases r with
  | error e => exact L2N.passAt tk sg pins H s e s' I hq
  | ok fl =>
    cases fl with
    | ret u => exact I.after hq
    | next => exact False.elim hq
    | brk => exact False.elim hq
    | cont => exact False.elim hq
theorem spOf_of {K : PySem.W.Frag} {n : Nat} {ds : List D} {vs : List V} {S : Store} {io : Io} {H : Hp} {sg : L2.St} {Q : VK} (hl : vs.length = n) (dn : Den K C io S H) (r : Reps K C io (Fz io H) ds vs) (p : Post K C (RepR K C) W sg io H (g ds S) Q) : spOf K C n g vs H Q (WE W sg) :=
  ⟨hl, ds, S, io, dn, r, by
    cases q : g ds S with
    | ok a S1 => rw [q] at p; exact p
    | err y S1 => rw [q] at p; exact p
    | bad => rw [q] at p; exact p⟩
theorem ee_callC (F : Cal X f fd ps (spOf X.K C n g)) (hg : Gl X x) (hm : X.mg x = some (.ref f)) (hk : PySem.W.keepIn X.K (.ref f) = true) (hb : Binds X.K fd ps []) (tk : L2N.Takes X W)
    (ha : PA X (e :: es) (tA X.K C W rs)) (hn : AL n rs) (hdb : (x == ("__debug__" : Str)) = false := by decide) (he : starEach (e :: es) X.env = (false, eval e X.env) :: starEach es X.env := by rfl) (hpl : (backTo pos (starEach es X.env)).any (·.1) = false := by rfl) :
    PE X (.Call (.Name x p) (e :: es) [] pos) (tE X.K C W (rCall g rs)) := by
  refine ⟨fun pins s sg H Q I h => ?_⟩
  have h2 := tA.alen hn (tR.seq1 (fun _ ds S => g ds S) h fun _ _ => rfl)
  refine wpAny_Call_Name_kw (ld_glob I hg hm ?_ hdb)
  refine PySem.W.callWith_K (h₀ := X.base) I.ok.mod.kin hk (thn (ha.run pos pins s sg H _ I h2) fun us s1 ⟨vs, H1, I1, r, hl, e, S, io, ds, dn, sl, rr, q⟩ => ⟨I1.kIn, ?_⟩) he hpl
  have hl2 : us.length = ps.length := by
    rw [← r.length]
    exact F.len vs H1 Q _ (spOf_of hl dn rr q)
  have b := hb s1 us I1.kIn (by rw [List.append_nil]; exact hl2)
  rw [List.append_nil] at b
  exact run_cal F tk b I1 r (spOf_of hl dn rr q)
theorem ek_nil : PK X [] (tA X.K C W rNil) := ⟨fun pos pins s sg H Q I h => pk_nil.run pos pins s sg H Q I (by
  obtain ⟨e, S, io, d, s, p⟩ := h
  exact p.here d .nil)⟩
theorem ee_callK (F : Cal X f fd ps (spOf X.K C m g)) (hg : Gl X x) (hm : X.mg x = some (.ref f)) (hk : PySem.W.keepIn X.K (.ref f) = true) (hb : BindK X.K fd ps n ks src) (hsrc : src.length = m) (tk : L2N.Takes X W)
    (ha : PA X (e :: es) (tA X.K C W rs)) (hn : AL n rs) (hkw : PK X kws (tA X.K C W rk)) (hnk : AL ks.length rk) (hall : (backToKw pos (keywordEach kws X.env)).all (·.1.isSome) = true := by rfl) (hks : (backToKw pos (keywordEach kws X.env)).filterMap (·.1) = ks := by rfl)
    (hdb : (x == ("__debug__" : Str)) = false := by decide) (he : starEach (e :: es) X.env = (false, eval e X.env) :: starEach es X.env := by rfl)
    (hpl : ((backTo pos (starEach (e :: es) X.env)).any (·.1) || (backToKw pos (keywordEach kws X.env)).any (·.1.isNone)) = false := by rfl) :
    PE X (.Call (.Name x p) (e :: es) kws pos) (tE X.K C W (rCallK g src rs rk)) := by
  refine ⟨fun pins s sg H Q I h => ?_⟩
  have h2 := tA.alen hn (tR.seq1 (R := RepsR X.K C) (fun e ds S1 => (rk e S1).bind fun es S2 => match pick ds es src with | some zs => g zs S2 | none => .bad) h fun _ _ => rfl)
  refine wpAny_Call_Name_kw (ld_glob I hg hm ?_ hdb)
  refine PySem.W.callWith_KW (h₀ := X.base) I.ok.mod.kin hk hall (thn (ha.run pos pins s sg H _ I h2) fun us s1 ⟨vs, H1, I1, r, hl, e, S, io, ds, dn, sl, rr, q⟩ => ?_) hpl he
  have h3 : tA X.K C W rk sg H1 (fun xs H2 => ∃ S2 io2 es, Ext io H1 io2 H2 ∧ Den X.K C io2 S2 H2 ∧ Reps X.K C io2 (Fz io2 H2) es xs ∧ Post X.K C (RepR X.K C) W sg io2 H2 (match pick ds es src with | some zs => g zs S2 | none => .bad) Q) :=
    ⟨e, S, io, dn, sl, q.bind.mono fun xs H2 ⟨io2, S2, es, x2, d2, r2, p2⟩ => ⟨S2, io2, es, x2, d2, r2, p2⟩⟩
  refine thn (hkw.run pos pins s1 sg H1 _ I1 (tA.alen hnk h3)) fun ws s2 ⟨xs, H2, I2, rx, hl2, S2, io2, es, x2, d2, r2, p2⟩ => ⟨I2.kIn, ?_⟩
  rw [hks]
  obtain ⟨zs, b1, b2⟩ := hb.to s2 us ws I2.kIn (r.length.symm.trans hl) (rx.length.symm.trans hl2)
  split at p2
  · rename_i as hp
    obtain ⟨ys, y1, y2⟩ := picked r rx (rr.ext x2) r2 b2 hp
    exact run_cal F tk b1 I2 y1 (spOf_of (by rw [y1.length, b2.length, hsrc]) d2 y2 p2)
  · exact p2.elim
end
theorem law_callG {P : Program} {w : World} {K : PySem.W.Frag} {mg mb : Str → Option Value} {k : Nat} {fa a : Addr} {fd : FuncData} {x : Str} {sp : Sp} {s1 : Shared} {vs : List Value} {ns : List Int}
    (KX : K.In s1.heap) (hns : s1.heap.Ns mainGlobals mg) (hb : s1.heap.Ns builtinsNs mb) (hbb : ∀ x : Str, x ≠ "__name__" → mb x = bootBuiltins x) (hlim : s1.heap.NoLimit) (hg : s1.gens = #[])
    (ha : s1.heap.get? a = some { cls := .type "list", data := .seq vs.toArray }) (hi : IntsAre vs ns) (hl : ns.length ≤ sizeLine) (hr : Room k callerA)
    (F : ∀ base : Heap, K.In base → base.Ns mainGlobals mg → FnG P w K mg base (L2N.CX P w) k fa fd [x] sp) (hbind : ∀ (s : Shared) (u : Value), BindsTo s fd ⟨[u], []⟩ [(x, u)])
    (hsp : ∀ H : Hp, Only H → SqL K H a (ns.map V.int) → sp [.ref a] H (fun v _ => v = .bl true) fun _ _ _ => False) :
    codeAny (model P w) callerA (.call (.ref fa) ⟨[.ref a], []⟩) (fun r s' => r = .ok (.ret (.bool true)) ∧ OldK s1.heap s'.heap ∧ s'.os = s1.os ∧ AllBare s'.gens) s1 := by
  have rv := vals_ints hi
  -- the run from a heap H that knows the script at most
  have go : ∀ H : Hp, Only H → SqL K H a (ns.map V.int) → HOk P w H s1.heap → (∀ b u, H b = some u → b = a ∧ K.lookup a = none) →
      codeAny (model P w) callerA (.call (.ref fa) ⟨[.ref a], []⟩) (fun r s' => r = .ok (.ret (.bool true)) ∧ OldK s1.heap s'.heap ∧ s'.os = s1.os ∧ AllBare s'.gens) s1 := fun H hO hS hok hA => by
    have offD : ∀ {b : Addr} {o : Obj} {es : Array DictEntry} {ep : Nat}, s1.heap.get? b = some o → o.data = .dict es ep → H b = none := fun {b o es ep} e d => by
      cases q : H b with
      | none => rfl
      | some u =>
        obtain ⟨rfl, _⟩ := hA b u q
        rw [ha] at e
        cases e
        cases d
    have nsK : ∀ {b : Addr} {m : Str → Option Value}, s1.heap.Ns b m → (hidT s1.heap H).Ns b m := fun {b m} ⟨o, es, ep, e, d, r⟩ => ⟨o, es, ep, hidT_get e (offD e d), d, r⟩
    have hKb : K.In (hidT s1.heap H) := fun b o e => hidT_get (KX b o e) (by
      cases q : H b with
      | none => rfl
      | some u =>
        obtain ⟨rfl, hk⟩ := hA b u q
        rw [hk] at e
        cases e)
    have lim : (hidT s1.heap H).NoLimit := by
      obtain ⟨mc, h1, h2⟩ := hlim
      exact ⟨mc, nsK h1, h2⟩
    have e0 : Env0 P w K mg (hidT s1.heap H) callerA [] s1 H := ⟨rfl, ⟨hKb, nsK hns, ⟨mb, nsK hb, hbb⟩, lim⟩, fun b o e => of_hidT e, Nat.le_of_eq (hidT_size _ _), trivial, fun b hb => (by cases hb), hok, .of_eq hg⟩
    refine codeAny_mono ((F _ hKb (nsK hns)).run callerA [] s1 H ⟨[.ref a], []⟩ [.ref a] [.ref a] _ _ ⟨hr, rfl⟩ e0 (hbind s1 (.ref a)) (.cons rfl .nil) (hsp H hO hS)) fun r s' h => ?_
    cases r with
    | error e => exact (cx_end h).elim
    | ok fl =>
      cases fl with
      | ret u =>
        obtain ⟨v, H', os, bare, un, hok', r', q⟩ := h
        subst q
        obtain rfl : u = Value.bool true := r'
        refine ⟨rfl, OldK.of_keep fun b o e => ?_, os, bare⟩
        rcases hO b with z | ⟨ob, xs, z⟩
        · exact un.keep b o e z (fun y => by cases y) (by simp)
        · obtain ⟨e1, _⟩ := hok b _ z
          obtain ⟨e2, _⟩ := hok' b _ (un.frzs b ob _ z)
          rw [e] at e1
          cases e1
          exact e2
      | _ => exact False.elim h
  cases hk : K.lookup a with
  | some o =>
    have e := KX a o hk
    rw [ha] at e
    cases e
    exact go (fun _ => none) (fun _ => .inl rfl) (.inr ⟨_, vs.toArray, _, hk, rfl, rfl, rfl, by rw [List.size_toArray, hi.length]; exact hl, by simpa using rv⟩) (fun b u z => by cases z) fun b u z => by cases z
  | none =>
    have at_ : ∀ {b : Addr} {u : HO}, (if b = a then some (HO.frz { cls := .type "list", data := .seq vs.toArray } (.lst (ns.map V.int))) else none) = some u → b = a ∧ u = HO.frz { cls := .type "list", data := .seq vs.toArray } (.lst (ns.map V.int)) := fun {b u} z => by
      split at z
      · cases z; exact ⟨by assumption, rfl⟩
      · cases z
    refine go (fun b => if b = a then some (.frz { cls := .type "list", data := .seq vs.toArray } (.lst (ns.map V.int))) else none) (fun b => ?_) (.inl (.inr ⟨_, if_pos rfl⟩)) (fun b u z => ?_) fun b u z => ⟨(at_ z).1, hk⟩
    · by_cases hb : b = a
      · exact .inr ⟨_, _, if_pos hb⟩
      · exact .inl (if_neg hb)
    · obtain ⟨rfl, rfl⟩ := at_ z
      exact ⟨ha, by rw [List.length_map]; exact hl, vs, _, rv, ha⟩
theorem walk_evG {l : PySem.W.OpenLaw} {n k : Nat} {q : Program} {loose : List Str} {XP : (Str → Option Value) → Heap → Prop} {YP : World → Heap → Prop} {d : DefRec} {K : Params → PySem.W.Frag} {x : Str} {g : List D → Store → Res D}
    (hn : l.most = some n) (hn2 : n ≤ sizeLine) (hdf : d.params.defaults = []) (hr : Room k callerA)
    (hY : ∀ (w : World) (h : Heap), YP w h → (K w.params).In h)
    (F : ∀ (w : World) (mg : Str → Option Value) (fa : Addr) (h : Heap), (K w.params).In h → h.Ns mainGlobals mg → mg d.name = some (.ref fa) →
      ∃ (fd : FuncData) (C : Nat → Addr), (∀ (s : Shared) (u : Value), BindsTo s fd ⟨[u], []⟩ [(x, u)]) ∧
        ∀ base : Heap, (K w.params).In base → base.Ns mainGlobals mg → FnG l.prog w (K w.params) mg base (L2N.CX l.prog w) k fa fd [x] (spOf (K w.params) C 1 g))
    (hg : ∀ ns : List Int, ns.length ≤ n → ∃ S', g [.lst (ns.map D.int)] [] = .ok (.bl true) S') :
    PySem.W.WalkO q loose XP YP l.row.toRowW d [] (fun f vs => PySem.call f vs) := by
  refine Att.attach_call hn hdf fun w s0 s1 mg mb fa o pm cd doc a vs ns G Y ho hd hcd hmg hobj hints hlen hgn => ?_
  have KX := hY w _ Y
  obtain ⟨fd, C, hb, hF⟩ := F w mg fa _ KX G.T.g hmg
  exact law_callG KX G.T.g G.T.b G.T.builtins G.T.nolimit hgn hobj hints (Nat.le_trans hlen hn2) hr hF hb (fun H hO hS => law_end hS (hg ns hlen))
end Ev
namespace Ev
open PySem PySem.Spec L2
def itemAt (S : Store) (x : D) (i : Nat) : Option (Option D) := match x with
  | .loc n => match S[n]? with
    | some (.lst xs) => some xs[i]?
    | _ => none
  | .lst xs => some xs[i]?
  | .tup xs => some xs[i]?
  | _ => none
def okIt (S : Store) : D → Bool
  | .loc n => match S[n]? with
    | some (.lst _) => true
    | _ => false
  | .lst _ => true
  | .tup _ => true
  | _ => false
def forV (t : Tg) (body : RS) (x : D) : Nat → Nat → RS
  | 0, _, _, _ => .bad
  | k + 1, i, e, S => match itemAt S x i with
    | none => .bad
    | some none => .nx e S
    | some (some d) => match bindT S d e t with
      | none => .bad
      | some e1 => (body e1 S).andThen (forV t body x k (i + 1))
def rLive (a : RE) : RE := fun e S => (a e S).bind fun d S1 => if okIt S1 d = true then .ok d S1 else .bad
def sForV (a : RE) (t : Tg) (body : RS) (k : Nat) : RS := fun e S => (rLive a e S).fl e fun x S1 => forV t body x k 0 e S1
end Ev
namespace Ev
open PySem PySem.Spec L2
def Fl.noEr : Fl → Fl
  | .er _ _ _ => .bad
  | f => f
def catchOnly (sub : Nat → Option Bool) (suite : RS) (x : Exn) (e : Env) (S : Store) : Fl := match sub x.c with
  | some true => (suite e S).noEr
  | some false => .er x e S
  | none => .bad
def sTryOnly (sub : Nat → Option Bool) (body suite : RS) : RS := fun e S => match body e S with
  | .er x e1 S1 => catchOnly sub suite x e1 S1
  | f => f
end Ev
namespace Ev
open PySem PySem.Spec L2 PyProof.Rows
def listT (S : Store) : List D → Option D
  | [.str x] => if x.length ≤ sizeLine then some (.lst (signsD x)) else none
  | as => listD S as
end Ev
namespace Ev
open PySem PySem.Spec L2
def rAddM (a b : RE) : RE := fun e S => (a e S).bind fun x S1 => (b e S1).bind fun y S2 => match asL S2 x, asL S2 y with
  | some xs, some ys => if xs.length + ys.length ≤ sizeLine then .ok (.loc S2.length) (S2 ++ [.lst (xs ++ ys)]) else .bad
  | _, _ => .bad
end Ev
namespace Ev
open PySem PySem.Spec L2 PyProof.Rows
def tupleT (S : Store) : List D → Option D
  | [.str x] => if x.length ≤ sizeLine then some (.tup (signsD x)) else none
  | as => tupleD S as
def revS (x : Str) : Str := ⟨x.cps.toList.reverse.toArray⟩
def revD (S : Store) : D → Option D
  | .str x => if x.length ≤ sizeLine then some (.str (revS x)) else none
  | _ => none
end Ev
namespace Ev
open PySem PySem.Spec L2 PyProof.Rows
section
variable {X : Cx} {e : Expr} {es : List Expr} {ta : TA} {x : Str} {B : Addr} {p1 p2 pos : Pos}
structure BaseC (K : PySem.W.Frag) (B : Addr) : Prop where
  sp : PySem.W.specialIn K (.ref B) "__getattribute__" = some (some (.builtin "type.__getattribute__"))
  rd : PySem.W.readsIn K B (.type "type") = true
  vl : PySem.W.findCls K (.ref B) (.type "type") "__init__" = some (.val (.builtin "ValueError.__init__"))
theorem pe_ownInit {pl : Sem Bool} (hg : Gl X x) (hm : X.mg x = some (.ref B)) (b : BaseC X.K B) (ha : PA X (e :: es) ta)
    (hdb : (x == ("__debug__" : Str)) = false := by decide)
    (hc : eval (.Call (.Attribute (.Name x p1) "__init__" p2) (e :: es) [] pos) X.env = (do
      let ov ← eval (.Name x p1) X.env
      standAt p2.atName
      let (f, first) ← holding [ov] (getMethod ov "__init__" pl)
      callWith pos f first (backTo pos (starEach (e :: es) X.env)) (backToKw pos (keywordEach [] X.env))) := by rfl)
    (he : starEach (e :: es) X.env = (false, eval e X.env) :: starEach es X.env := by rfl) (hpl : (backTo pos (starEach es X.env)).any (·.1) = false := by rfl) :
    PE X (.Call (.Attribute (.Name x p1) "__init__" p2) (e :: es) [] pos) (tVeI X.K ta) := by
  refine ⟨fun pins s σ H Q I h => ?_⟩
  refine PySem.W.methodCall_KW (ld_glob I hg hm ?_ hdb) hc
  refine PySem.W.method_cls I.kIn b.sp (PySem.W.cls_value I.kIn b.rd b.vl (by decide +kernel) ?_)
  show wpAny _ _ (callWith pos (Value.builtin "ValueError.__init__") [] (backTo pos (starEach (e :: es) X.env)) []) _ _ _
  refine PyProof.Rows.callWith_method1 (thn (ha.run pos pins _ σ H _ (I.tok _) h) fun us s1 ⟨vs, H1, I1, r1, a, C, ws, ev, hl, T, ea, q⟩ => ?_) he hpl
  subst ev
  cases r1 with
  | @cons _ u0 _ ur ra rw' =>
    obtain rfl : u0 = Value.ref a := ra
    have hlen : ur.length ≤ sizeLine := by
      rw [← Paired.length rw', sizeLine_eq]
      omega
    exact oinit_ok T I1 ea hlen fun s' J => ⟨.non, H1, J, rfl, q⟩
end
def spI (K : PySem.W.Frag) (C : Addr) (ns : List Str) : Sp := fun vs H Q _ => ∃ a xs, vs = .ref a :: xs ∧ xs.length = ns.length ∧ OexC K C ∧ H a = some (exo a C none) ∧ ∀ dx, H dx = none → dx ≠ a → Q .non (upd (upd H dx (exd dx ((ns.zip xs).reverse))) a (exo a C (some dx)))
structure FldC (K : PySem.W.Frag) (C fI : Addr) (ns : List Str) : Prop where
  ox : OexC K C
  ini : PySem.W.findIn K (.ref C) "__init__" = some (some (.ref fI))
  fn : PySem.W.typeIn K (.ref fI) = some (.type "function")
  no : ∀ f ∈ ns, PySem.W.findIn K (.ref C) f = some none
section
variable {P : Program} {w : World} {K : PySem.W.Frag} {mg : Str → Option Value} {base : Heap} {C fI B : Addr} {fd : FuncData} {st : Stmt} {qual : Str} {k : Nat}
theorem init1_ok {f y x : Str} (F : Fun K "__init__" qual st fI fd) (S : FnScope ["self", y] ["self", y] (defScope st)) (T : FldC K C fI [f])
    (hb : ∀ (cdv : Value) (A : Around) (outer : List PySem.Env) (s : Shared) (H : Hp) (E : XK),
      PSs (cxOf (L2N.CX P w) P w K mg base ["self", y] qual (defScope st) fI cdv A outer s H E) (defBody st) (tSeq (tDrop (tVeI K (tCons (tVar 0) (tCons (tC (.str x)) tNil)))) (tOst K f (tVar 0) (tVar 1)))) :
    FnOk P w K mg base (L2N.CX P w) (k + 1) fI fd ["self", y] (spI K C [f]) := by
  refine F.okN S (fun vs H Q E ⟨a, xs, ev, hl, _⟩ => by rw [ev]; simp [hl]) (fun cdv A outer s H vs Q E hr h => ?_)
  refine ⟨_, hb cdv A outer s H E, ?_⟩
  obtain ⟨a, xs, rfl, hl, ox, ha, q⟩ := h
  obtain ⟨z, rfl⟩ : ∃ z, xs = [z] := by
    match xs, hl with
    | [z], _ => exact ⟨z, rfl⟩
  exact ⟨.ref a, rfl, ⟨a, C, [.str x], rfl, by simp, ox, ha, ⟨z, rfl, ⟨.ref a, rfl, ⟨a, C, rfl, ox, T.no f (by simp), .inl ⟨ha, fun dx n ne => q dx n ne⟩⟩⟩⟩⟩⟩
end
theorem mk_oexN {X : Cx} {CX : CXT} {x : Str} {e : Expr} {es : List Expr} {ta : TA} {p pos : Pos} {C fI : Addr} {k : Nat} {fd : FuncData} {ps : List Str} {sp : Sp} (T : OexC X.K C) (iC : PySem.W.findIn X.K (.ref C) "__init__" = some (some (.ref fI))) (tI : PySem.W.typeIn X.K (.ref fI) = some (.type "function"))
    (F1 : FnOk X.prog X.w X.K X.mg X.base CX k fI fd ps sp) (hr : Room (k + 1) X.A) (hb : Binds X.K fd ps []) (hx : Passes CX X (fun _ _ _ => False)) (hg : Gl X x) (hm : X.mg x = some (.ref C)) (ha : PA X (e :: es) ta)
    (hdb : (x == ("__debug__" : Str)) = false := by decide) (he : starEach (e :: es) X.env = (false, eval e X.env) :: starEach es X.env := by rfl) (hpl : (backTo pos (starEach es X.env)).any (·.1) = false := by rfl) :
    L2N.PMk X (.Call (.Name x p) (e :: es) [] pos) (tMkO C sp [] ta) := fun pins s sg H Q I h => by
  obtain ⟨nm, q, N, bs, bm, sn, sub, ab, col, dd, k0, k1, k2, k3, k5, hC, hbm⟩ := T.cls
  refine wpAny_Call_Name_kw (ld_glob I hg hm (PySem.W.callWith_K (h₀ := X.base) I.ok.mod.kin T.kC (thn (ha.run pos pins s sg H _ I h) fun us s1 ⟨vs, H1, I1, r1, hz, q1⟩ => ⟨I1.kIn, ?_⟩) he hpl) hdb)
  show wpAny _ _ (call (.ref C) us) _ _ _
  obtain ⟨hp, g, dr, tk, os⟩ := s1
  -- the new object stands behind the tuple of its arguments
  have big : hp.objs.size ≤ hp.objs.size + 1 := by omega
  have hq := q1 (hp.objs.size + 1) (I1.hok.fresh big)
  have keeps : ∀ b o, hp.get? b = some o → ((hp.push (PySem.W.kdv_tup us)).push (PySem.HandSPX.excO C hp.objs.size)).get? b = some o := fun b o z => Heap.get?_push_of_some _ (Heap.get?_push_of_some _ z)
  have I2 : L2.Inv X pins sg (upd H1 (hp.objs.size + 1) (exo (hp.objs.size + 1) C none)) ⟨(hp.push (PySem.W.kdv_tup us)).push (PySem.HandSPX.excO C hp.objs.size), g, dr, tk, os⟩ := I1.laid (t' := tk) (a := hp.objs.size + 1) (o := exo (hp.objs.size + 1) C none) keeps big (exo_ok (t1 := hp.objs.size) (d := none) (C := C) (by heap_get))
  have r2 : Vals (V.ref (hp.objs.size + 1) :: (vs ++ [])) (Value.ref (hp.objs.size + 1) :: (us ++ [])) := .cons rfl (r1.append .nil)
  have hl : (Value.ref (hp.objs.size + 1) :: us ++ []).length = ps.length := (r2.length.symm.trans (F1.len _ _ _ _ hq))
  have b2 : BindsTo ⟨(hp.push (PySem.W.kdv_tup us)).push (PySem.HandSPX.excO C hp.objs.size), g, dr, tk, os⟩ fd ⟨Value.ref (hp.objs.size + 1) :: us, []⟩ (ps.zip (Value.ref (hp.objs.size + 1) :: (us ++ []))) := hb _ (Value.ref (hp.objs.size + 1) :: us) I2.kIn hl
  have small : us.length ≤ sizeLine := by rw [← Paired.length r1, sizeLine_eq]; omega
  refine wpAny_call (PySem.HandSPX.call_own F.excBase_ValueError (fun Y => PySem.HandSPX.refsVE_contains Y bm hbm) (I1.kIn _ _ hC) (PySem.W.looks_findIn I1.kIn iC) (fun self => PySem.W.bind_fn I1.kIn self tI) small
    (codeAny_mono (F1.run _ X.stack _ _ ⟨Value.ref (hp.objs.size + 1) :: us, []⟩ (Value.ref (hp.objs.size + 1) :: (us ++ [])) _ _ (fun _ _ _ => False) (hr.make C us []) (I2.env0.make C us []) b2 r2 hq) fun r s' hq' => ?_))
  match r, hq' with
  | .error er, hq' => exact hx pins sg _ _ er s' I2 hq'
  | .ok .next, hq' => exact hq'.elim
  | .ok .brk, hq' => exact hq'.elim
  | .ok .cont, hq' => exact hq'.elim
  | .ok (.ret u), ⟨v, H2, os2, bare2, un2, hok2, rv, ev, d, fs, ea, ed, hd1, q2⟩ =>
    subst ev
    obtain ⟨h2, g2, d2, t2, os'⟩ := s'
    obtain ⟨t0, G, J, kG, ge, hoe, na⟩ := mk_end0 (d2 := d2) (t2 := t2) I1 big keeps un2 hok2 os2 bare2 ea ed hd1
    exact ⟨rv, _, _, _, ⟨G, g2, d2, t2, os'⟩, _, .ref C, some d, rfl, J, kG, ge, hoe, ⟨rfl, rfl, fun ws z => by cases z; rfl⟩, rfl, rfl, na, rfl, bare2, raises_own T.exC T.tyC, q2⟩
def sRaiseF (c : Nat) (ns : List Str) (as : RA) : RS := fun e S => (as e S).fl e fun ds S1 => if ds.length = ns.length then .er ⟨c, ns.reverse, ds.reverse⟩ e S1 else .bad
theorem Reps.reverse {K : PySem.W.Frag} {C : Nat → Addr} {io : Io} {F : Hp} : ∀ {ds : List D} {vs : List V}, Reps K C io F ds vs → Reps K C io F ds.reverse vs.reverse
  | _, _, .nil => .nil
  | _, _, .cons h r => by
    rw [List.reverse_cons, List.reverse_cons]
    exact (Reps.reverse r).append (.cons h .nil)
theorem zip_map1 {A B : Type} : ∀ (xs : List A) (ys : List B), xs.length = ys.length → (xs.zip ys).map (·.1) = xs
  | [], [], _ => rfl
  | x :: xs, y :: ys, h => by simp [zip_map1 xs ys (by simpa using h)]
theorem zip_map2 {A B : Type} : ∀ (xs : List A) (ys : List B), xs.length = ys.length → (xs.zip ys).map (·.2) = ys
  | [], [], _ => rfl
  | x :: xs, y :: ys, h => by simp [zip_map2 xs ys (by simpa using h)]
theorem s_raiseF (c : Nat) {X : Cx} {C : Nat → Addr} {W : WX} {x : Str} {fI : Addr} {k : Nat} {fd : FuncData} {ps ns : List Str} {e : Expr} {es : List Expr} {ra : RA} {p pos pos' : Pos} (hc : X.calm = true) (tk : L2N.Takes X W) (T : FldC X.K (C c) fI ns)
    (F1 : FnOk X.prog X.w X.K X.mg X.base (L2N.CX X.prog X.w) k fI fd ps (spI X.K (C c) ns)) (hr : Room (k + 1) X.A) (hb : Binds X.K fd ps []) (hz : ns.length ≤ 1000) (gC : X.mg x = some (.ref (C c))) (hg : Gl X x) (ha : PA X (e :: es) (tA X.K C W ra))
    (hdb : (x == ("__debug__" : Str)) = false := by decide) (he : starEach (e :: es) X.env = (false, eval e X.env) :: starEach es X.env := by rfl) (hpl : (backTo pos' (starEach es X.env)).any (·.1) = false := by rfl) :
    PS X (.Raise (some (.Call (.Name x p) (e :: es) [] pos')) none pos) (tS X.K C W (sRaiseF c ns ra)) :=
  (L2N.ps_raise hc tk (mk_oexN T.ox T.ini T.fn F1 hr hb (fun _ _ _ _ _ _ _ ⟨_, _, _, _, _, _, _, _, _, _, _, _, hE⟩ => hE.elim) hg gC ha hdb he hpl)).imp fun Dn sg H h =>
    (tS.seq (R := RepsR X.K C) (fun e ds S1 => if ds.length = ns.length then .er ⟨c, ns.reverse, ds.reverse⟩ e S1 else .bad) h fun _ _ => rfl).mono fun vs H1 ⟨e1, S, io, ds, dn, sl, rs, post⟩ => by
      split at post
      · rename_i hlen
        have hl := rs.length
        refine ⟨by omega, fun a na => ⟨a, vs, by rw [List.append_nil], by omega, T.ox, upd_same, fun dx n ne => ⟨rfl, dx, _, upd_same, by rw [upd_ne ne, upd_same], ?_, ?_⟩⟩⟩
        · rw [upd_ne ne] at n; exact n
        · have n1 : H1 dx = none := by rw [upd_ne ne] at n; exact n
          have eH : upd (del (upd (upd (upd H1 a (exo a (C c) none)) dx (exd dx (ns.zip vs).reverse)) a (exo a (C c) (some dx))) a) dx (.xd (ns.zip vs).reverse) = upd H1 dx (.xd (ns.zip vs).reverse) := by
            funext b
            by_cases hb : b = dx
            · subst hb; rw [upd_same, upd_same]
            · rw [upd_ne hb, upd_ne hb]
              by_cases hba : b = a
              · subst hba; rw [del_same]; exact na.symm
              · rw [del_ne hba, upd_ne hba, upd_ne hb, upd_ne hba]
          rw [eH]
          refine post _ _ sg _ io (Ext.new dn n1) (dn.new n1) (sl.ext (Ext.new dn n1)) ⟨rfl, .inr ⟨dx, _, rfl, upd_same, ?_, ?_⟩⟩
          · rw [List.map_reverse, zip_map1 _ _ (by omega)]
          · rw [List.map_reverse, zip_map2 _ _ (by omega)]
            exact (rs.ext (Ext.new dn n1)).reverse
      · exact post.elim
def fldD (ok : Nat → Bool) (f : Str) (S : Store) : D → Option D
  | .exn c ns xs => if ok c = true then (ns.zip xs).lookup f else none
  | _ => none
theorem lookup_rep {K : PySem.W.Frag} {C : Nat → Addr} {io : Io} {F : Hp} {f : Str} {d : D} : ∀ {fs : List (Str × V)} {xs : List D}, Reps K C io F xs (fs.map (·.2)) → ((fs.map (·.1)).zip xs).lookup f = some d → ∃ v, fs.lookup f = some v ∧ Rep K C io F d v
  | [], _, r, h => by simp at h
  | (g, v) :: fs, _, .cons (d := x) (ds := xs) rx r, h => by
    simp only [List.map_cons, List.zip_cons_cons, List.lookup_cons] at h ⊢
    cases e : f == g with
    | true => rw [e] at h; cases h; exact ⟨v, rfl, rx⟩
    | false => rw [e] at h; exact lookup_rep r h
end Ev
namespace Ev
open PySem PySem.Spec L2 PyProof.Rows
theorem pvx (i : Nat) {X : Cx} {x : Str} {pos : Pos} (hN : X.N[i]? = some x := by rfl) (hv : Vis X.env.scope x := by first | exact Or.inl rfl | exact Or.inr (Or.inl rfl) | exact Or.inr (Or.inr rfl)) (hd : (x == ("__debug__" : Str)) = false := by decide)
    (hcd : (x == ("__classdict__" : Str)) = false := by decide) : PE X (.Name x pos) (tVar i) := pe_var hN hv hd hcd
end Ev
namespace Ev
open PySem PySem.Spec L2 PyProof.Rows
section
variable {X : Cx} {C : Nat → Addr}
theorem reps_strs {K : PySem.W.Frag} {io : Io} {F : Hp} : ∀ ys : List Str, Reps K C io F (ys.map D.str) (ys.map V.str)
  | [] => .nil
  | y :: ys => .cons (.str y) (reps_strs ys)
def intT (S : Store) : List D → Option D
  | [.str a] => if a.length ≤ 640 then (intText? a).bind fun n => some (.int n) else none
  | as => intD S as
def fmtD (S : Store) : D → Option D
  | .str y => if y.length ≤ sizeLine then some (.str y) else none
  | .int i => if i.natAbs.log2 < 1920 then some (.str (toString i)) else none
  | _ => none
variable {W : WX}
def rJs : List RE → Str → RE
  | [], acc, _, S => .ok (.str acc) S
  | r :: rs, acc, e, S => (r e S).bind fun x S1 => match x with
    | .str y => if (acc ++ y).length ≤ sizeLine then rJs rs (acc ++ y) e S1 else .bad
    | _ => .bad
end
end Ev
namespace Ev
open PySem PySem.Spec L2 PyProof.Rows
def repS (x : Str) (n : Nat) : Str := ⟨(List.replicate n x.cps).foldl (· ++ ·) #[]⟩
theorem rep_size (c : Array Nat) : ∀ (n : Nat) (a : Array Nat), ((List.replicate n c).foldl (· ++ ·) a).size = a.size + n * c.size
  | 0, a => by simp
  | n + 1, a => by
    rw [List.replicate_succ, List.foldl_cons, rep_size c n, Array.size_append, Nat.succ_mul]
    omega
theorem repS_len (x : Str) (n : Nat) : (repS x n).length = n * x.length := by
  show ((List.replicate n x.cps).foldl (· ++ ·) #[]).size = _
  rw [rep_size]
  simp
  rfl
def mulT (S : Store) (a b : D) : Option D := match a, b with
  | .str x, .int n => if 1 < n ∧ n < 1000 ∧ x.length ≠ 0 ∧ x.length * n.toNat ≤ sizeLine then some (.str (repS x n.toNat)) else none
  | a, b => mulD S a b
theorem mulT_ok {X : Cx} {C : Nat → Addr} : OpD X C (binaryOp .Mult) mulT := by
  intro pins s sg H x y v u Q I rx ry ⟨io, S, a, b, d, dn, ra, rb, e, q⟩
  unfold mulT at e
  split at e
  · rename_i z n
    split at e
    · rename_i hc
      obtain ⟨h1, h2, h3, h4⟩ := hc
      cases e
      cases ra
      cases rb
      obtain ⟨t, rfl⟩ := rx
      obtain ⟨t', rfl⟩ := ry
      have n1 : (n == 1 || z.length == 0) = false := by
        rw [Bool.or_eq_false_iff]
        exact ⟨by rw [beq_eq_false_iff_ne]; omega, by rw [beq_eq_false_iff_ne]; exact h3⟩
      have hl : Builtin.Str.tooLong (z.length * n.toNat) = false := by
        unfold Builtin.Str.tooLong
        exact decide_eq_false (by omega)
      refine PySem.P.mul_str ?_ (fun _ _ => ?_) (fun _ _ => hl) ?_
      · rw [Bool.or_eq_false_iff]
        exact ⟨decide_eq_false (by omega), decide_eq_false (by omega)⟩
      · have : (z.length : Int) ≤ 16777216 := by
          have : z.length * 1 ≤ z.length * n.toNat := Nat.mul_le_mul_left _ (by omega)
          have e : sizeLine = 16777216 := sizeLine_eq
          omega
        have h5 : (16777216 : Int) * n ≤ 2 ^ 63 - 1 := by omega
        have h6 : (16777216 : Int) ≤ (2 ^ 63 - 1) / n := Int.le_ediv_of_mul_le (by omega) h5
        omega
      · rw [if_neg (by omega), if_neg (by rw [n1]; decide)]
        refine ⟨?_, .str _, H, I.tok _, ⟨_, rfl⟩, q _ H io (Ext.refl _ _) dn (.str _)⟩
        show (repS z n.toNat).length ≤ sizeLine
        rw [repS_len, Nat.mul_comm]
        exact h4
    · cases e
  · exact mulD_ok pins s sg H x y v u Q I rx ry ⟨io, S, a, b, d, dn, ra, rb, e, q⟩
end Ev
namespace Ev
open PySem PySem.Spec L2 PyProof.Rows
def replD (y z : Str) (S : Store) : D → Option D
  | .str x => if x.length + (x.length + 1) * z.length ≤ 16777216 then some (.str (Txt.replace x y z)) else none
  | _ => none
end Ev
namespace Ev
open PySem PySem.Spec L2 PyProof.Rows
def keyOf : D → Option Key
  | .int i => some (.inl i)
  | .str x => some (.inr x)
  | _ => none
theorem keyOf_rep {K : PySem.W.Frag} {C : Nat → Addr} {io : Io} {F : Hp} {d : D} {v : V} {k : Key} (h : keyOf d = some k) (r : Rep K C io F d v) : v = kV k := by
  cases d <;> cases h <;> cases r <;> rfl
def dictAt (S : Store) : D → Option (List Key × List D)
  | .loc n => match S[n]? with
    | some (.dK ks xs) => some (ks, xs)
    | _ => none
  | .dct ks xs => some (ks, xs)
  | _ => none
theorem dictAt_rep {K : PySem.W.Frag} {C : Nat → Addr} {io : Io} {S : Store} {H : Hp} {d : D} {v : V} {ks : List Key} {xs : List D} (h : dictAt S d = some (ks, xs)) (dn : Den K C io S H) (r : Rep K C io (Fz io H) d v) :
    ∃ a kvs, v = .ref a ∧ H a = some (.dK kvs) ∧ kvs.map (·.1) = ks ∧ Reps K C io (Fz io H) xs (kvs.map (·.2)) := by
  cases r with
  | dct q e1 e2 rs =>
    cases h
    subst e2
    exact ⟨_, _, rfl, Fz_same _ _ _ _ q, e1, rs⟩
  | @loc n a q =>
    simp only [dictAt] at h
    split at h
    · rename_i ks' xs' e
      cases h
      obtain ⟨kvs, h1, h2, h3⟩ := dn.obj n _ a e q
      exact ⟨a, kvs, rfl, h1, h2, h3⟩
    · cases h
  | _ => cases h
def lkK : List Key → List D → Key → Option D
  | k' :: ks, x :: xs, k => if k' = k then some x else lkK ks xs k
  | _, _, _ => none
theorem lk_rep {K : PySem.W.Frag} {C : Nat → Addr} {io : Io} {F : Hp} {k : Key} : ∀ {kvs : List (Key × V)} {xs : List D}, Reps K C io F xs (kvs.map (·.2)) → (∀ d, lkK (kvs.map (·.1)) xs k = some d → ∃ v, valV kvs k = some v ∧ Rep K C io F d v) ∧ (lkK (kvs.map (·.1)) xs k = none → valV kvs k = none)
  | [], _, .nil => ⟨fun d h => by simp [lkK] at h, fun _ => rfl⟩
  | (k', v) :: kvs, _, .cons (d := x) (ds := xs) rx r => by
    obtain ⟨h1, h2⟩ := lk_rep (k := k) r
    simp only [List.map_cons, lkK]
    by_cases e : k' = k
    · rw [if_pos e]
      exact ⟨fun d h => by cases h; exact ⟨v, valV_pos e, rx⟩, fun h => by cases h⟩
    · rw [if_neg e]
      exact ⟨fun d h => let ⟨w, a, b⟩ := h1 d h; ⟨w, by rw [valV_neg (p := (k', v)) e]; exact a, b⟩, fun h => by rw [valV_neg (p := (k', v)) e]; exact h2 h⟩
def dixD (S : Store) (a b : D) : Option D := (dictAt S a).bind fun p => (keyOf b).bind fun k => lkK p.1 p.2 k
theorem DGet.of {H : Hp} {a : Addr} {kvs : List (Key × V)} {k : Key} (e : H a = some (.dK kvs)) : DGet H a (kV k) (valV kvs k) := DGet.k e
section
variable {X : Cx} {C : Nat → Addr} {W : WX}
theorem ee_dix {a b : Expr} {ra rb : RE} {pos : Pos} (hu : X.A.units + 64 < cLine) (ha : PE X a (tE X.K C W ra)) (hb : PE X b (tE X.K C W rb)) (hs : NoSl b := by exact fun _ _ => rfl) : PE X (.Subscript a b pos) (tE X.K C W (rBin dixD ra rb)) :=
  (pe_dget (by omega) ha hb hs).imp fun sg H Q h => (tR.seq2 repM (fun _ x y S => ofO (dixD S x y) S) h fun _ _ => rfl).mono fun x H1 h1 => h1.mono fun y H2 ⟨e, S, io, x1, y1, d, s, r1, r2, p⟩ => by
    obtain ⟨z, ez, p⟩ := p.ofO
    obtain ⟨⟨ks, xs⟩, e1, ez⟩ := bind_some' ez
    obtain ⟨k, e2, ez⟩ := bind_some' ez
    obtain ⟨a, kvs, rfl, ea, rfl, rs⟩ := dictAt_rep e1 d r1
    obtain rfl := keyOf_rep e2 r2
    obtain ⟨v, hv, rv⟩ := (lk_rep rs).1 z ez
    exact ⟨a, v, rfl, by rw [← hv]; exact DGet.k ea, p v H2 io (Ext.refl _ _) d rv⟩
end
def rDct0M : RE := fun _ S => .ok (.loc S.length) (S ++ [.dK [] []])
theorem new_dKM {K : PySem.W.Frag} {C : Nat → Addr} {io : Io} {S : Store} {H : Hp} {p : Addr} (d : Den K C io S H) (hp : H p = none) :
    Ext io H (io.add p) (upd H p (.dK [])) ∧ Den K C (io.add p) (S ++ [.dK [] []]) (upd H p (.dK [])) ∧ Rep K C (io.add p) (Fz (io.add p) (upd H p (.dK []))) (.loc S.length) (.ref p) := by
  refine ⟨Ext.loc hp, d.loc hp ⟨[], upd_same, rfl, .nil⟩, .loc ?_⟩
  rw [← d.len]
  show (io.l ++ [p])[io.l.length]? = some p
  rw [List.getElem?_append_right (Nat.le_refl _)]; simp
theorem ee_dct0M {X : Cx} {C : Nat → Addr} {W : WX} {pos : Pos} : PE X (.Dict [] [] pos) (tE X.K C W rDct0M) :=
  pe_dnewK.imp fun sg H Q ⟨e, S, io, d, s, p⟩ q hq => by
    obtain ⟨x1, d1, r1⟩ := new_dKM d hq
    exact p _ _ _ x1 d1 r1
def hasK (ks : List Key) (k : Key) : Bool := ks.any fun k' => decide (k' = k)
def repK : List Key → List D → Key → D → List D
  | k' :: ks, x :: xs, k, v => (if k' = k then v else x) :: repK ks xs k v
  | _, xs, _, _ => xs
def putKs (ks : List Key) (xs : List D) (k : Key) (v : D) : List Key × List D := if hasK ks k = true then (ks, repK ks xs k v) else (ks ++ [k], xs ++ [v])
theorem rep_rep {K : PySem.W.Frag} {C : Nat → Addr} {io : Io} {F : Hp} {k : Key} {d : D} {w : V} (rw' : Rep K C io F d w) : ∀ {kvs : List (Key × V)} {xs : List D}, Reps K C io F xs (kvs.map (·.2)) → Reps K C io F (repK (kvs.map (·.1)) xs k d) ((kvs.map fun kv => if kv.1 = k then (kv.1, w) else kv).map (·.2))
  | [], _, .nil => .nil
  | (k', v) :: kvs, _, .cons rx r => by
    simp only [List.map_cons, repK]
    refine .cons ?_ (rep_rep rw' r)
    by_cases e : k' = k
    · simp only [e, if_true]; exact rw'
    · simp only [e, if_false]; exact rx
theorem put_rep {K : PySem.W.Frag} {C : Nat → Addr} {io : Io} {F : Hp} {k : Key} {d : D} {w : V} {kvs : List (Key × V)} {xs : List D} (rw' : Rep K C io F d w) (r : Reps K C io F xs (kvs.map (·.2))) :
    (putK kvs k w).map (·.1) = (putKs (kvs.map (·.1)) xs k d).1 ∧ Reps K C io F (putKs (kvs.map (·.1)) xs k d).2 ((putK kvs k w).map (·.2)) := by
  have e : hasK (kvs.map (·.1)) k = kvs.any fun kv => decide (kv.1 = k) := by unfold hasK; rw [List.any_map]; rfl
  unfold putKs putK
  rw [e]
  split
  · refine ⟨?_, rep_rep rw' r⟩
    rw [List.map_map]
    apply List.map_congr_left
    intro kv _
    simp only [Function.comp]
    split <;> rfl
  · refine ⟨by simp, ?_⟩
    rw [List.map_append]
    exact r.append (.cons rw' .nil)
def putD (S : Store) (x y v : D) : Option Store := match x with
  | .loc n => match S[n]? with
    | some (.dK ks xs) => (keyOf y).bind fun k => if ks.length < sizeLine then some (S.set n (.dK (putKs ks xs k v).1 (putKs ks xs k v).2)) else none
    | _ => none
  | _ => none
def sPutD (a o i : RE) : RS := fun e S => (a e S).fl e fun v S1 => (o e S1).fl e fun x S2 => (i e S2).fl e fun y S3 => match putD S3 x y v with
  | some S4 => .nx e S4
  | none => .bad
theorem put_dK {K : PySem.W.Frag} {C : Nat → Addr} {io : Io} {S : Store} {H : Hp} {n : Nat} {p : Addr} {ks : List Key} {xs : List D} {kvs : List (Key × V)} (dn : Den K C io S H) (h : io.l[n]? = some p) (hk : kvs.map (·.1) = ks) (r : Reps K C io (Fz io H) xs (kvs.map (·.2))) :
    Ext io H io (upd H p (.dK kvs)) ∧ Den K C io (S.set n (.dK ks xs)) (upd H p (.dK kvs)) :=
  ⟨Ext.put (mem_all h), dn.put h ⟨kvs, upd_same, hk, r.ext (Ext.put (mem_all h))⟩⟩
section
variable {X : Cx} {C : Nat → Addr} {W : WX}
theorem s_putD {a o i : Expr} {ra ro ri : RE} {pos pos' : Pos} (hu : X.A.units + 64 < cLine) (ha : PE X a (tE X.K C W ra)) (ho : PE X o (tE X.K C W ro)) (hi : PE X i (tE X.K C W ri)) (hs : swapsWith a (some (.Subscript o i pos')) pos.line X.env = pure false := by rfl) :
    PS X (.Assign [.Subscript o i pos'] a pos) (tS X.K C W (sPutD ra ro ri)) :=
  (ps_dput (by omega) ho hi ha hs).imp fun Dn sg H h => by
    refine (tS.seq (R := RepR X.K C) (fun e v S1 => (ro e S1).fl e fun x S2 => (ri e S2).fl e fun y S3 => match putD S3 x y v with
      | some S4 => .nx e S4
      | none => .bad) h fun _ _ => rfl).mono fun v H1 ⟨e, S, io, dv, dn, sl, rv, p⟩ => ?_
    refine ⟨e, S, io, dn, sl, (p.of_res sl).mono fun x H2 ⟨io2, S2, dx, x2, dn2, rx, p2⟩ => ?_⟩
    refine ⟨e, S2, io2, dn2, sl.ext x2, (p2.of_res (sl.ext x2)).mono fun y H3 ⟨io3, S3, dy, x3, dn3, ry, p3⟩ => ?_⟩
    have rv3 := (rv.ext x2).ext x3
    have rx3 := rx.ext x3
    cases q : putD S3 dx dy dv with
    | none => rw [q] at p3; exact p3.elim
    | some S4 =>
      rw [q] at p3
      unfold putD at q
      split at q
      · split at q
        · rename_i ks xs e1
          obtain ⟨k, e2, q⟩ := bind_some' q
          split at q
          · rename_i hz
            cases q
            cases rx3 with
            | @loc n a hl =>
            obtain ⟨kvs, ea, rfl, rs⟩ := dn3.obj _ _ a e1 hl
            obtain rfl := keyOf_rep e2 ry
            obtain ⟨k1, k2⟩ := put_rep (k := k) rv3 rs
            obtain ⟨x4, d4⟩ := put_dK dn3 hl k1 k2
            rw [List.length_map] at hz
            exact ⟨a, _, rfl, DPut.k ea hz, p3 sg _ io3 x4 d4 (((sl.ext x2).ext x3).ext x4)⟩
          · cases q
        · cases q
      · cases q
def getDM : MF
  | S, d, [k, z] => (dictAt S d).bind fun p => (keyOf k).bind fun kk => some ((lkK p.1 p.2 kk).getD z, S)
  | S, d, [k] => (dictAt S d).bind fun p => (keyOf k).bind fun kk => some ((lkK p.1 p.2 kk).getD .non, S)
  | _, _, _ => none
theorem reps_two {K : PySem.W.Frag} {io : Io} {F : Hp} {a b : D} {vs : List V} (h : Reps K C io F [a, b] vs) : ∃ v w, vs = [v, w] ∧ Rep K C io F a v ∧ Rep K C io F b w := by
  cases h with
  | cons h1 h => cases h with
    | cons h2 h => cases h; exact ⟨_, _, rfl, h1, h2⟩
theorem getDM_ok (hu : X.A.units + 64 < cLine) : MthD X C "dict.get" getDM := fun pins s sg H x xs v us Q I rx rxs ⟨io, S, a, as, d, S', dn, ra, ras, e, q⟩ => by
  unfold getDM at e
  split at e
  · rename_i k z
    obtain ⟨⟨ks, ds⟩, e1, e⟩ := bind_some' e
    obtain ⟨kk, e2, e⟩ := bind_some' e
    cases e
    obtain ⟨p, kvs, rfl, ea, rfl, rs⟩ := dictAt_rep e1 dn ra
    obtain ⟨v1, v2, rfl, r1, r2⟩ := reps_two ras
    obtain rfl := keyOf_rep e2 r1
    obtain rfl : v = Value.ref p := rx
    cases rxs with
    | @cons _ u1 _ ur ru1 rxs => cases rxs with
      | @cons _ u2 _ _ ru2 rxs =>
        cases rxs
        refine d_get2 (by omega) I (DGet.k ea) ru1 ru2 fun w' s' I' rw' => ⟨_, H, I', rw', ?_⟩
        cases z1 : lkK (kvs.map (·.1)) ds kk with
        | none => rw [(lk_rep rs).2 z1]; rw [z1] at q; exact q _ H io (Ext.refl _ _) dn r2
        | some dv => obtain ⟨w, hw, rw2⟩ := (lk_rep rs).1 dv z1; rw [hw]; rw [z1] at q; exact q _ H io (Ext.refl _ _) dn rw2
  · rename_i k
    obtain ⟨⟨ks, ds⟩, e1, e⟩ := bind_some' e
    obtain ⟨kk, e2, e⟩ := bind_some' e
    cases e
    obtain ⟨p, kvs, rfl, ea, rfl, rs⟩ := dictAt_rep e1 dn ra
    obtain ⟨v1, rfl, r1⟩ := reps1 ras
    obtain rfl := keyOf_rep e2 r1
    obtain rfl : v = Value.ref p := rx
    cases rxs with
    | @cons _ u1 _ ur ru1 rxs =>
      cases rxs
      refine d_get1 (by omega) I (DGet.k ea) ru1 fun w' s' I' rw' => ⟨_, H, I', rw', ?_⟩
      cases z1 : lkK (kvs.map (·.1)) ds kk with
      | none => rw [(lk_rep rs).2 z1]; rw [z1] at q; exact q _ H io (Ext.refl _ _) dn .non
      | some dv => obtain ⟨w, hw, rw2⟩ := (lk_rep rs).1 dv z1; rw [hw]; rw [z1] at q; exact q _ H io (Ext.refl _ _) dn rw2
  · cases e
def delK : List Key → List D → Key → List Key × List D
  | k' :: ks, x :: xs, k => if k' = k then delK ks xs k else (k' :: (delK ks xs k).1, x :: (delK ks xs k).2)
  | _, _, _ => ([], [])
theorem del_rep {K : PySem.W.Frag} {io : Io} {F : Hp} {k : Key} : ∀ {kvs : List (Key × V)} {xs : List D}, Reps K C io F xs (kvs.map (·.2)) → (dropK kvs k).map (·.1) = (delK (kvs.map (·.1)) xs k).1 ∧ Reps K C io F (delK (kvs.map (·.1)) xs k).2 ((dropK kvs k).map (·.2))
  | [], _, .nil => ⟨rfl, .nil⟩
  | (k', v) :: kvs, _, .cons rx r => by
    obtain ⟨h1, h2⟩ := del_rep (k := k) r
    simp only [List.map_cons, delK]
    unfold dropK at h1 h2 ⊢
    by_cases e : k' = k
    · rw [if_pos e, List.filter_cons, if_neg (by simp [e])]
      exact ⟨h1, h2⟩
    · rw [if_neg e, List.filter_cons, if_pos (by simp [e])]
      exact ⟨by rw [List.map_cons, h1], .cons rx h2⟩
def popDM : MF
  | S, .loc n, [k, z] => match S[n]? with
    | some (.dK ks xs) => (keyOf k).bind fun kk => match lkK ks xs kk with
      | some v => some (v, S.set n (.dK (delK ks xs kk).1 (delK ks xs kk).2))
      | none => some (z, S)
    | _ => none
  | _, _, _ => none
theorem popDM_ok : MthD X C "dict.pop" popDM := fun pins s sg H x xs v us Q I rx rxs ⟨io, S, a, as, d, S', dn, ra, ras, e, q⟩ => by
  unfold popDM at e
  split at e
  · rename_i n k z
    split at e
    · rename_i ks ds e1
      obtain ⟨kk, e2, e⟩ := bind_some' e
      cases ra with
      | @loc _ p hl =>
      obtain ⟨kvs, ea, rfl, rs⟩ := dn.obj n _ p e1 hl
      obtain ⟨v1, v2, rfl, r1, r2⟩ := reps_two ras
      obtain rfl := keyOf_rep e2 r1
      obtain rfl : v = Value.ref p := rx
      cases rxs with
      | @cons _ u1 _ ur ru1 rxs => cases rxs with
        | @cons _ u2 _ _ ru2 rxs =>
          cases rxs
          cases z1 : lkK (kvs.map (·.1)) ds kk with
          | some dv =>
            obtain ⟨w, hw, rw2⟩ := (lk_rep rs).1 dv z1
            rw [z1] at e
            cases e
            obtain ⟨k1, k2⟩ := del_rep (k := kk) rs
            obtain ⟨x4, d4⟩ := put_dK dn hl k1 k2
            exact d_pop I ea ru1 hw (.inr ⟨_, rfl⟩) fun w' s' I' rw' => ⟨w, _, I', rw', q _ _ io x4 d4 (rw2.ext x4)⟩
          | none =>
            rw [z1] at e
            cases e
            exact d_popD I ea ru1 ((lk_rep rs).2 z1) fun s' I' => ⟨v2, H, I', ru2, q _ H io (Ext.refl _ _) dn r2⟩
    · cases e
  · cases e
end
end Ev
namespace Ev
open PySem PySem.Spec L2 PyProof.Rows
inductive ZSrc (K : PySem.W.Frag) (C : Nat → Addr) (io : Io) (F : Hp) : D → List D → V → List V → Prop
  | str (x : Str) : ZSrc K C io F (.str x) (signsD x) (.str x) (x.cps.toList.map fun c => V.str ⟨#[c]⟩)
  | lst {a : Addr} {vs : List V} {ds : List D} : SqL K F a vs → Reps K C io F ds vs → ZSrc K C io F (.lst ds) ds (.ref a) vs
  | tup {a : Addr} {vs : List V} {ds : List D} : SqT K F a vs → Reps K C io F ds vs → ZSrc K C io F (.tup ds) ds (.ref a) vs
theorem ZSrc.of {K : PySem.W.Frag} {C : Nat → Addr} {io : Io} {F : Hp} {d : D} {ds : List D} {v : V} (h : itemsD d = some ds) (r : Rep K C io F d v) : ∃ vs, ZSrc K C io F d ds v vs := by
  cases r <;> cases h
  · exact ⟨_, .str _⟩
  · rename_i q r; exact ⟨_, .tup q r⟩
  · rename_i q r; exact ⟨_, .lst q r⟩
end Ev
namespace Ev
open PySem PySem.Spec L2 PyProof.Rows
mutual
def D.low (n : Nat) : D → Bool
  | .loc m => decide (m < n)
  | .tup xs => lows n xs
  | .lst xs => lows n xs
  | .dct _ xs => lows n xs
  | .dcf _ xs => lows n xs
  | .dcT _ xs => lows n xs
  | .exn _ _ xs => lows n xs
  | .non => true
  | .bl _ => true
  | .int _ => true
  | .str _ => true
def lows (n : Nat) : List D → Bool
  | [] => true
  | d :: ds => D.low n d && lows n ds
end
def MO.low (n : Nat) : MO → Bool
  | .lst xs => lows n xs
  | .dK _ xs => lows n xs
  | .dT _ xs => lows n xs
  | .dL _ xs => lows n xs
  | .ins _ _ xs => lows n xs
def lowS (n : Nat) : List MO → Bool
  | [] => true
  | o :: S => MO.low n o && lowS n S
def frzD (n : Nat) (S : Store) : D → Option D
  | .loc m => if m < n then some (.loc m) else match S[m]? with
    | some (.lst xs) => if lows n xs = true then some (.lst xs) else none
    | some (.dK ks xs) => if lows n xs = true then some (.dct ks xs) else none
    | _ => none
  | d => if D.low n d = true then some d else none
def frz (n : Nat) : Res D → Res D
  | .ok d S => match frzD n S d with
    | some d' => if lowS n (S.take n) = true then .ok d' (S.take n) else .bad
    | none => .bad
  | .err x S => if (lows n x.xs && lowS n (S.take n)) = true then .err x (S.take n) else .bad
  | .bad => .bad
end Ev
namespace Ev
open PySem PySem.Spec L2 PyProof.Rows
def keysS : List Key → Option (List Str)
  | [] => some []
  | .inr x :: ks => (keysS ks).map (x :: ·)
  | .inl _ :: _ => none
theorem keysS_map : ∀ {ks : List Key} {xs : List Str}, keysS ks = some xs → ks = xs.map Sum.inr
  | [], _, h => by cases h; rfl
  | .inr x :: ks, _, h => by
    obtain ⟨ys, h1, rfl⟩ := Option.map_eq_some_iff.mp h
    rw [keysS_map h1]; rfl
  | .inl _ :: _, _, h => by cases h
def leS (a b : Str) : Bool := !ltCps b.cps.toList a.cps.toList
def insS (x : Str) : List Str → List Str
  | [] => [x]
  | y :: ys => if leS x y = true then x :: y :: ys else y :: insS x ys
def isortS : List Str → List Str
  | [] => []
  | x :: xs => insS x (isortS xs)
theorem lt_trans' : ∀ {a b c : List Nat}, ltCps b a = false → ltCps c b = false → ltCps c a = false
  | [], b, c, h1, h2 => by
    cases c with
    | nil => rfl
    | cons x c => cases b with
      | nil => rfl
      | cons y b => rfl
  | x :: a, [], c, h1, h2 => by simp [ltCps] at h1
  | x :: a, y :: b, [], h1, h2 => by simp [ltCps] at h2
  | x :: a, y :: b, z :: c, h1, h2 => by
    simp only [ltCps, Bool.or_eq_false_iff, Bool.and_eq_false_imp, decide_eq_false_iff_not, beq_iff_eq, Nat.not_lt] at h1 h2 ⊢
    refine ⟨by omega, fun e => ?_⟩
    have e1 : y = x := by omega
    have e2 : z = y := by omega
    exact lt_trans' (h1.2 e1) (h2.2 e2)
theorem lt_anti : ∀ {a b : List Nat}, ltCps b a = false → ltCps a b = false → a = b
  | [], [], _, _ => rfl
  | [], y :: b, h1, h2 => by simp [ltCps] at h2
  | x :: a, [], h1, h2 => by simp [ltCps] at h1
  | x :: a, y :: b, h1, h2 => by
    simp only [ltCps, Bool.or_eq_false_iff, Bool.and_eq_false_imp, decide_eq_false_iff_not, beq_iff_eq, Nat.not_lt] at h1 h2
    have e : x = y := by omega
    rw [e, lt_anti (h1.2 e.symm) (h2.2 e)]
theorem lt_tot : ∀ {a b : List Nat}, ltCps b a = true → ltCps a b = false
  | [], b, h => by cases b <;> simp [ltCps] at h
  | x :: a, [], _ => rfl
  | x :: a, y :: b, h => by
    simp only [ltCps, Bool.or_eq_true, Bool.and_eq_true, decide_eq_true_eq, beq_iff_eq] at h
    simp only [ltCps, Bool.or_eq_false_iff, Bool.and_eq_false_imp, decide_eq_false_iff_not, beq_iff_eq, Nat.not_lt]
    rcases h with h | ⟨h, h2⟩
    · exact ⟨by omega, fun e => by omega⟩
    · exact ⟨by omega, fun _ => lt_tot h2⟩
theorem leS_trans {a b c : Str} (h1 : leS a b = true) (h2 : leS b c = true) : leS a c = true := by
  simp only [leS, Bool.not_eq_true'] at *
  exact lt_trans' h1 h2
theorem leS_anti {a b : Str} (h1 : leS a b = true) (h2 : leS b a = true) : a = b := by
  simp only [leS, Bool.not_eq_true'] at *
  have := lt_anti h1 h2
  cases a; cases b
  simp only [Str.mk.injEq]
  exact Array.ext' this
theorem leS_tot {a b : Str} (h : leS a b ≠ true) : leS b a = true := by
  unfold leS at *
  rw [Bool.not_eq_true']
  exact lt_tot (by simpa using h)
theorem insS_perm (x : Str) : ∀ ys : List Str, (insS x ys).Perm (x :: ys)
  | [] => .refl _
  | y :: ys => by
    unfold insS
    split
    · exact .refl _
    · exact ((insS_perm x ys).cons y).trans (.swap x y ys)
theorem isortS_perm : ∀ xs : List Str, (isortS xs).Perm xs
  | [] => .refl _
  | x :: xs => (insS_perm x _).trans ((isortS_perm xs).cons x)
theorem insS_pw (x : Str) : ∀ {ys : List Str}, ys.Pairwise (fun a b => leS a b = true) → (insS x ys).Pairwise (fun a b => leS a b = true)
  | [], _ => by simp [insS]
  | y :: ys, h => by
    have h' := List.pairwise_cons.mp h
    unfold insS
    split
    · rename_i e
      refine List.pairwise_cons.mpr ⟨fun z hz => ?_, h⟩
      rcases List.mem_cons.mp hz with rfl | hz
      · exact e
      · exact leS_trans e (h'.1 z hz)
    · rename_i e
      refine List.pairwise_cons.mpr ⟨fun z hz => ?_, insS_pw x h'.2⟩
      rcases List.mem_cons.mp ((insS_perm x ys).mem_iff.mp hz) with rfl | hz
      · exact leS_tot e
      · exact h'.1 z hz
theorem isortS_pw : ∀ xs : List Str, (isortS xs).Pairwise (fun a b => leS a b = true)
  | [] => .nil
  | x :: xs => insS_pw x (isortS_pw xs)
theorem rising_pw : ∀ {p : Str} {l : List Str}, risingS p l = true → (p :: l).Pairwise (fun a b => leS a b = true)
  | p, [], _ => by simp
  | p, x :: r, h => by
    simp only [risingS, Bool.and_eq_true] at h
    have ih := rising_pw h.2
    have ih' := List.pairwise_cons.mp ih
    have hpx : leS p x = true := h.1
    refine List.pairwise_cons.mpr ⟨fun z hz => ?_, ih⟩
    rcases List.mem_cons.mp hz with rfl | hz
    · exact hpx
    · exact leS_trans hpx (ih'.1 z hz)
theorem sorted_pw : ∀ {l : List Str}, sortedS l = true → l.Pairwise (fun a b => leS a b = true)
  | [], _ => .nil
  | _ :: _, h => rising_pw h
theorem pw_eq : ∀ {xs ys : List Str}, xs.Perm ys → xs.Pairwise (fun a b => leS a b = true) → ys.Pairwise (fun a b => leS a b = true) → xs = ys
  | [], ys, h, _, _ => h.nil_eq
  | x :: xs, [], h, _, _ => by simpa using h.length_eq
  | x :: xs, y :: ys, h, h1, h2 => by
    have h1' := List.pairwise_cons.mp h1
    have h2' := List.pairwise_cons.mp h2
    have e : x = y := by
      have m1 : x ∈ y :: ys := h.mem_iff.mp List.mem_cons_self
      have m2 : y ∈ x :: xs := h.mem_iff.mpr List.mem_cons_self
      rcases List.mem_cons.mp m1 with e | m1
      · exact e
      · rcases List.mem_cons.mp m2 with e | m2
        · exact e.symm
        · exact leS_anti (h1'.1 y m2) (h2'.1 x m1)
    subst e
    rw [pw_eq (h.cons_inv) h1'.2 h2'.2]
theorem isortS_eq {xs ys : List Str} (h : ys.Perm xs) (hs : sortedS ys = true) : ys = isortS xs := pw_eq (h.trans (isortS_perm xs).symm) (sorted_pw hs) (isortS_pw xs)
def sortD (S : Store) : List D → Option D
  | [d] => (dictAt S d).bind fun p => (keysS p.1).bind fun ks => if ks.length < 64 then some (.lst ((isortS ks).map D.str)) else none
  | _ => none
section
variable {X : Cx} {C : Nat → Addr} {W : WX}
theorem sortD_ok (hc : X.calm = true) : CallD X C (.builtin "sorted") sortD := fun pins s sg H xs us Q I rx ⟨io, S, as, d, dn, ra, e, q⟩ => by
  unfold sortD at e
  split at e
  · obtain ⟨⟨ks, ds⟩, e1, e⟩ := bind_some' e
    obtain ⟨zs, e2, e⟩ := bind_some' e
    split at e
    · rename_i hz
      cases e
      obtain ⟨v, rfl, rv⟩ := reps1 ra
      obtain ⟨a, kvs, rfl, ea, rfl, rs⟩ := dictAt_rep e1 dn rv
      refine call_sortedD hc pins s sg H _ us Q I rx ⟨a, kvs, zs, rfl, .inl ea, keysS_map e2, hz, fun ys p hp hs hn => ?_⟩
      rw [isortS_eq hp hs]
      obtain ⟨x1, d1, r1⟩ := new_lst dn (reps_strs (isortS zs)) hn
      exact q _ _ io x1 d1 r1
    · cases e
  · cases e
def repL : Nat → List D → List D
  | 0, _ => []
  | n + 1, xs => xs ++ repL n xs
theorem mul_any (l : Addr) (items : Array Value) (n : Nat) (sl : Array (Option Value)) (x : Int) (u : Tok) (hc0 : ¬(!Builtin.List.listFitsIndex x) = true) (hc1 : ¬items.size * x.toNat > (2 ^ 63 - 1) / 8) (hc2 : ¬Builtin.List.listTooLong (items.size * x.toNat) = true) :
    Meets (Builtin.«list.__mul__» ⟨[.ref l, .int x u], []⟩) (fun _ R s => s.heap.get? l = some { cls := .type "list", dict := none, data := .seq items n, slots := sl } ∧ R (.ok (.ret (Value.ref s.heap.objs.size))) { s with heap := s.heap.push { cls := Value.type "list", data := Data.seq (List.foldl (fun x1 x2 => x1 ++ x2) #[] (List.replicate (if items.isEmpty = true then 0 else x.toNat) items)) }, toks := s.toks }) :=
  .of_wp fun prog w A R s h => by
    obtain ⟨hp, g, d, tk, os⟩ := s; obtain ⟨hl, h⟩ := h
    have hsz := PySem.AutoListH.joined_fits hc2
    wp_walk; refine wpAny_ite_false (decide_eq_false (Nat.not_lt.mpr hsz)) ?_; wp_walk; exact ⟨_, rfl, h⟩
theorem rmul_any (a : Int) (t : Tok) (l : Addr) (items : Array Value) (n : Nat) (sl : Array (Option Value)) :
    Meets (Builtin.«int.__rmul__» ⟨[.int a t, .ref l], []⟩) (fun _ R s => s.heap.get? l = some { cls := .type "list", dict := none, data := .seq items n, slots := sl } ∧ R (.ok (.ret Value.notImplemented)) s) :=
  .of_wp fun prog w A R s h => by obtain ⟨hp, g, d, tk, os⟩ := s; obtain ⟨hl, h⟩ := h; wp_walk; exact ⟨_, rfl, h⟩
theorem op_repL : OpR X (binaryOp .Mult) (fun x y H Q => ∃ l k xs, x = .ref l ∧ y = .int k ∧ SqL X.K H l xs ∧ -(2 ^ 63) ≤ k ∧ k < 2 ^ 63 ∧ xs.length * k.toNat ≤ sizeLine ∧ ∀ p, H p = none → Q (.ref p) (upd H p (.lst (List.replicate k.toNat xs).flatten))) := by
  intro pins s σ H x y v u Q I rx ry h
  obtain ⟨l, k, xs, rfl, rfl, hH, h1, h2, hz, q⟩ := h
  cases rx
  obtain ⟨t, rfl⟩ := ry
  obtain ⟨its, r, ⟨⟨c1, d1, t1, sl⟩, n, e, hc, hd, hs⟩, z⟩ := I.list hH
  simp only at hc hd hs
  subst hc hd hs
  have hl := r.length
  have hlen : its.toArray.size * k.toNat ≤ sizeLine := by rw [List.size_toArray, ← hl]; exact hz
  have hcap : ¬ its.toArray.size * k.toNat > (2 ^ 63 - 1) / 8 := by
    have : (sizeLine : Nat) ≤ (2 ^ 63 - 1) / 8 := by decide
    omega
  have hfit : ¬ (!Builtin.List.listFitsIndex k) = true := by
    rw [fitsIndex_both h1 h2]
    exact Bool.false_ne_true
  have hlong : ¬ Builtin.List.listTooLong (its.toArray.size * k.toNat) = true := by
    rw [notLongL hlen]
    exact Bool.false_ne_true
  have hnew : List.foldl (fun x1 x2 => x1 ++ x2) #[] (List.replicate (if its.toArray.isEmpty = true then 0 else k.toNat) its.toArray) = (List.replicate k.toNat its).flatten.toArray := by
    have f0 : ∀ m : Nat, List.foldl (fun x1 x2 => x1 ++ x2) #[] (List.replicate m its.toArray) = (List.replicate m its).flatten.toArray := fun m => by
      have := foldl_rep its m []
      rw [List.nil_append] at this
      exact this
    rw [f0]
    cases its with
    | nil => simp
    | cons a r' => rw [if_neg (by simp)]
  refine wpAny_binaryOp_repeat_ref (T := "list") (U := "int") (by decide) ⟨_, e, rfl⟩ (fun s' => typeIs_int s' k t) noFill_list_mul F.fills_int_mul F.slot_int_rmul repeat_list F.slot_int_index.lookup
    (call_meets F.slot_int_rmul (typeIs_int s k t) F.entry_int_rmul (F.args_int_rmul_2 _ _) (rmul_any k t l its.toArray n sl)
      ⟨e, rfl, ⟨_, e, rfl⟩, call_meets F.slot_list_mul ⟨_, e, rfl⟩ F.entry_list_mul (F.args_list_mul_2 _ _) (mul_any l its.toArray n sl k t hfit hcap hlong) ⟨e, ?_⟩⟩)
  rw [hnew]
  exact ⟨.ref _, _, I.lnew (t' := s.toks) (r.rep k.toNat) (by rw [PyProof.Rows.lm_len_rep_flat, Nat.mul_comm]; exact hz), rfl, q _ I.fresh⟩
def mulL (S : Store) (a b : D) : Option D := match a, b with
  | .lst xs, .int k => if 0 ≤ k ∧ k < 2 ^ 62 ∧ xs.length * k.toNat ≤ sizeLine then some (.lst (repL k.toNat xs)) else none
  | a, b => mulT S a b
theorem reps_rep {K : PySem.W.Frag} {io : Io} {F : Hp} {xs : List D} {vs : List V} (r : Reps K C io F xs vs) : ∀ n : Nat, Reps K C io F (repL n xs) (List.replicate n vs).flatten
  | 0 => .nil
  | n + 1 => by
    rw [List.replicate_succ, List.flatten_cons]
    exact r.append (reps_rep r n)
theorem mulL_ok : OpD X C (binaryOp .Mult) mulL := fun pins s sg H x y v u Q I rx ry ⟨io, S, a, b, d, dn, ra, rb, e, q⟩ => by
  unfold mulL at e
  split at e
  · rename_i xs k
    split at e
    · rename_i hz
      cases e
      cases ra with
      | @lst p vs _ h r =>
      cases rb
      have h' : SqL X.K H p vs := (Fz_same _ _).seq h
      have hlen : vs.length * k.toNat ≤ sizeLine := by rw [← r.length]; exact hz.2.2
      refine op_repL pins s sg H _ _ v u Q I rx ry ⟨p, k, vs, rfl, rfl, h', by omega, by omega, hlen, fun a ha => ?_⟩
      obtain ⟨x1, d1, r1⟩ := new_lst dn (reps_rep r k.toNat) ha
      exact q _ _ io x1 d1 r1
    · cases e
  · exact mulT_ok pins s sg H x y v u Q I rx ry ⟨io, S, _, _, d, dn, ra, rb, e, q⟩
end
end Ev
namespace Ev
open PySem PySem.Spec L2 PyProof.Rows
def rPrs : List (Str × RE) → Env → Store → Res (List D)
  | [], _, S => .ok [] S
  | p :: l, e, S => (p.2 e S).bind fun d S1 => (rPrs l e S1).bind fun ds S2 => .ok (d :: ds) S2
def dispF : List Str → List D → List Key × List D → List Key × List D
  | k :: ks, d :: ds, p => dispF ks ds (putKs p.1 p.2 (.inr k) d)
  | _, _, p => p
def rDispF (l : List (Str × RE)) : RE := fun e S => (rPrs l e S).calm.bind fun ds S1 => .ok (.dct (dispF (l.map (·.1)) ds ([], [])).1 (dispF (l.map (·.1)) ds ([], [])).2) S1
def rDispM (l : List (Str × RE)) : RE := fun e S => (rPrs l e S).calm.bind fun ds S1 => .ok (.loc S1.length) (S1 ++ [.dK (dispF (l.map (·.1)) ds ([], [])).1 (dispF (l.map (·.1)) ds ([], [])).2])
section
variable {X : Cx} {C : Nat → Addr} {W : WX} {pos : Pos} {keys : List (Option Expr)} {values : List Expr} {l : List (Str × RE)}
def updKs : List Key → List D → List Key × List D → List Key × List D
  | k :: ks, d :: ds, p => updKs ks ds (putKs p.1 p.2 k d)
  | _, _, p => p
theorem upd_rep {K : PySem.W.Frag} {io : Io} {F : Hp} : ∀ {more : List (Key × V)} {ds : List D} {acc : List (Key × V)} {p : List Key × List D}, Reps K C io F ds (more.map (·.2)) → acc.map (·.1) = p.1 → Reps K C io F p.2 (acc.map (·.2)) →
    (mergeK acc more).map (·.1) = (updKs (more.map (·.1)) ds p).1 ∧ Reps K C io F (updKs (more.map (·.1)) ds p).2 ((mergeK acc more).map (·.2))
  | [], ds, acc, p, r, h1, h2 => by
    cases ds <;> exact ⟨h1, h2⟩
  | kv :: more, _, acc, p, .cons (d := d) rx r, h1, h2 => by
    obtain ⟨a1, a2⟩ := put_rep (k := kv.1) rx h2
    rw [h1] at a1 a2
    exact upd_rep (acc := putK acc kv.1 kv.2) r a1 a2
end
def sStar (i j : Nat) (a : RE) : RS := fun e S => (a e S).fl e fun d S1 => match d with
  | .tup (x :: xs) => if xs.length ≤ 16000 then .nx (setAll [i, j] [x, .lst xs] e) S1 else .bad
  | _ => .bad
end Ev
namespace Ev
open PySem PySem.Spec L2
section
variable {e : Env} {S : Store} {A B : Type}
@[simp] theorem bind_ok (a : A) (S : Store) (f : A → Store → Res B) : (Res.ok a S).bind f = f a S := (rfl)
@[simp] theorem bind_err (x : Exn) (S : Store) (f : A → Store → Res B) : (Res.err x S).bind f = .err x S := (rfl)
@[simp] theorem fl_ok (a : A) (S : Store) (f : A → Store → Fl) : (Res.ok a S).fl e f = f a S := (rfl)
@[simp] theorem fl_err (x : Exn) (S : Store) (f : A → Store → Fl) : (Res.err x S).fl e f = .er x e S := (rfl)
@[simp] theorem then_nx (k : RS) : (Fl.nx e S).andThen k = k e S := (rfl)
@[simp] theorem then_rt (d : D) (k : RS) : (Fl.rt d S).andThen k = .rt d S := (rfl)
@[simp] theorem then_er (x : Exn) (k : RS) : (Fl.er x e S).andThen k = .er x e S := (rfl)
@[simp] theorem bind_bad (f : A → Store → Res B) : (Res.bad : Res A).bind f = .bad := (rfl)
@[simp] theorem fl_bad (f : A → Store → Fl) : (Res.bad : Res A).fl e f = .bad := (rfl)
@[simp] theorem then_bad (k : RS) : (Fl.bad).andThen k = .bad := (rfl)
@[simp] theorem ofO_none : (ofO none S : Res A) = .bad := (rfl)
@[simp] theorem res_nx : (Fl.nx e S).res = .ok .non S := (rfl)
@[simp] theorem res_rt (d : D) : (Fl.rt d S).res = .ok d S := (rfl)
@[simp] theorem res_er (x : Exn) : (Fl.er x e S).res = .err x S := (rfl)
@[simp] theorem res_ite {c : Prop} [Decidable c] (a b : Fl) : (if c then a else b).res = if c then a.res else b.res := by split <;> rfl
@[simp] theorem then_ite {c : Prop} [Decidable c] (a b : Fl) (k : RS) : (if c then a else b).andThen k = if c then a.andThen k else b.andThen k := by split <;> rfl
@[simp] theorem bind_ite {c : Prop} [Decidable c] (a b : Res A) (k : A → Store → Res B) : (if c then a else b).bind k = if c then a.bind k else b.bind k := by split <;> rfl
@[simp] theorem fl_ite {c : Prop} [Decidable c] (a b : Res A) (k : A → Store → Fl) : (if c then a else b).fl e k = if c then a.fl e k else b.fl e k := by split <;> rfl
@[simp] theorem ofO_some (a : A) : ofO (some a) S = .ok a S := (rfl)
@[simp] theorem rCon_eq (d : D) : rCon d e S = .ok d S := (rfl)
@[simp] theorem rVar_eq (i : Nat) : rVar i e S = match e[i]? with | some (some d) => .ok d S | _ => .bad := (rfl)
@[simp] theorem rBin_eq (f : Store → D → D → Option D) (a b : RE) : rBin f a b e S = (a e S).bind fun x S1 => (b e S1).bind fun y S2 => ofO (f S2 x y) S2 := (rfl)
@[simp] theorem rUn_eq (f : Store → D → Option D) (a : RE) : rUn f a e S = (a e S).bind fun x S1 => ofO (f S1 x) S1 := (rfl)
@[simp] theorem rCal_eq (f : Store → List D → Option D) (a : RA) : rCal f a e S = (a e S).bind fun xs S1 => ofO (f S1 xs) S1 := (rfl)
@[simp] theorem rCall_eq (g : List D → Store → Res D) (a : RA) : rCall g a e S = (a e S).bind fun xs S1 => g xs S1 := (rfl)
@[simp] theorem rCallK_eq (g : List D → Store → Res D) (src : List Src) (as ks : RA) : rCallK g src as ks e S = (as e S).bind fun ds S1 => (ks e S1).bind fun es S2 => match pick ds es src with | some zs => g zs S2 | none => .bad := (rfl)
@[simp] theorem pick_nil (us ws : List D) : pick us ws [] = some [] := (rfl)
@[simp] theorem pick_cons (us ws : List D) (q : Src) (r : List Src) : pick us ws (q :: r) = (pick1 us ws q).bind fun x => (pick us ws r).bind fun xs => some (x :: xs) := (rfl)
@[simp] theorem pick1_p (us ws : List D) (i : Nat) : pick1 us ws (.p i) = us[i]? := (rfl)
@[simp] theorem pick1_k (us ws : List D) (i : Nat) : pick1 us ws (.k i) = ws[i]? := (rfl)
@[simp] theorem pick1_c (us ws : List D) (d : D) : pick1 us ws (.c d) = some d := (rfl)
@[simp] theorem rNil_eq : rNil e S = .ok [] S := (rfl)
@[simp] theorem rCons_eq (a : RE) (r : RA) : rCons a r e S = (a e S).bind fun x S1 => (r e S1).bind fun xs S2 => .ok (x :: xs) S2 := (rfl)
@[simp] theorem rTup_eq (r : RA) : rTup r e S = (r e S).bind fun xs S1 => .ok (.tup xs) S1 := (rfl)
@[simp] theorem rLst_eq (r : RA) : rLst r e S = (r e S).bind fun xs S1 => .ok (.lst xs) S1 := (rfl)
@[simp] theorem rLstM_eq (r : RA) : rLstM r e S = (r e S).bind fun xs S1 => .ok (.loc S1.length) (S1 ++ [.lst xs]) := (rfl)
@[simp] theorem rAddM_eq (a b : RE) : rAddM a b e S = (a e S).bind fun x S1 => (b e S1).bind fun y S2 => match asL S2 x, asL S2 y with
  | some xs, some ys => if xs.length + ys.length ≤ sizeLine then .ok (.loc S2.length) (S2 ++ [.lst (xs ++ ys)]) else .bad
  | _, _ => .bad := (rfl)
@[simp] theorem rDct0_eq : rDct0 e S = .ok (.dct [] []) S := (rfl)
@[simp] theorem rAnd_eq (a b : RE) : rAnd a b e S = (a e S).bind fun x S1 => (ofO (truthD S1 x) S1).bind fun k S2 => if k = true then b e S2 else .ok x S2 := (rfl)
@[simp] theorem rOr_eq (a b : RE) : rOr a b e S = (a e S).bind fun x S1 => (ofO (truthD S1 x) S1).bind fun k S2 => if k = true then .ok x S2 else b e S2 := (rfl)
@[simp] theorem rNot_eq (a : RE) : rNot a e S = (a e S).bind fun x S1 => (ofO (truthD S1 x) S1).bind fun k S2 => .ok (.bl (!k)) S2 := (rfl)
@[simp] theorem rIf_eq (t : RT) (a b : RE) : rIf t a b e S = (t e S).bind fun k S1 => if k = true then a e S1 else b e S1 := (rfl)
@[simp] theorem rTest_eq (a : RE) : rTest a e S = (a e S).bind fun x S1 => ofO (asB x) S1 := (rfl)
@[simp] theorem rTruth_eq (a : RE) : rTruth a e S = (a e S).bind fun x S1 => ofO (truthD S1 x) S1 := (rfl)
@[simp] theorem rAndT_eq (a b : RT) : rAndT a b e S = (a e S).bind fun k S1 => if k = true then b e S1 else .ok false S1 := (rfl)
@[simp] theorem rOrT_eq (a b : RT) : rOrT a b e S = (a e S).bind fun k S1 => if k = true then .ok true S1 else b e S1 := (rfl)
@[simp] theorem rNotT_eq (a : RT) : rNotT a e S = (a e S).bind fun k S1 => .ok (!k) S1 := (rfl)
@[simp] theorem rChain_eq (a : RE) (k : RC) : rChain a k e S = (a e S).bind fun x S1 => k x e S1 := (rfl)
@[simp] theorem rLast_eq (f : Store → D → D → Option D) (b : RE) (x : D) : rLast f b x e S = (b e S).bind fun y S1 => ofO (f S1 x y) S1 := (rfl)
@[simp] theorem rLink_eq (f : Store → D → D → Option D) (b : RE) (k : RC) (x : D) : rLink f b k x e S = (b e S).bind fun y S1 => (ofO ((f S1 x y).bind asB) S1).bind fun t S2 => if t = true then k y e S2 else .ok (.bl false) S2 := (rfl)
@[simp] theorem rSl_eq (a : RE) (lo hi : RO) : rSl a lo hi e S = (a e S).bind fun x S1 => (lo e S1).bind fun l S2 => (hi e S2).bind fun h S3 => ofO (slD S3 x l h) S3 := (rfl)
@[simp] theorem rNoP_eq : rNoP e S = .ok none S := (rfl)
@[simp] theorem rPart_eq (a : RE) : rPart a e S = (a e S).bind fun x S1 => (ofO (asI x) S1).bind fun i S2 => .ok (some i) S2 := (rfl)
@[simp] theorem sNil_eq : sNil e S = .nx e S := (rfl)
@[simp] theorem sSeq_eq (a b : RS) : sSeq a b e S = (a e S).andThen b := (rfl)
@[simp] theorem sIf_eq (t : RT) (a b : RS) : sIf t a b e S = (t e S).fl e fun k S1 => if k = true then a e S1 else b e S1 := (rfl)
@[simp] theorem sRet_eq (a : RE) : sRet a e S = (a e S).fl e fun d S1 => .rt d S1 := (rfl)
@[simp] theorem sExp_eq (a : RE) : sExp a e S = (a e S).fl e fun _ S1 => .nx e S1 := (rfl)
@[simp] theorem sSet_eq (i : Nat) (a : RE) : sSet i a e S = (a e S).fl e fun d S1 => .nx (e.set i (some d)) S1 := (rfl)
@[simp] theorem sAsg_eq (t : Tg) (a : RE) : sAsg t a e S = (a e S).fl e fun d S1 => match bindT S1 d e t with | some e' => .nx e' S1 | none => .bad := (rfl)
@[simp] theorem sPar_eq (is : List Nat) (as : RA) : sPar is as e S = (as e S).fl e fun ds S1 => if ds.length = is.length then .nx (setAll is ds e) S1 else .bad := (rfl)
@[simp] theorem sPutIx_eq (a o i : RE) : sPutIx a o i e S = (a e S).fl e fun v S1 => (o e S1).fl e fun x S2 => (i e S2).fl e fun y S3 => match putIx S3 x y v with | some S4 => .nx e S4 | none => .bad := (rfl)
@[simp] theorem sAug_eq (i : Nat) (f : Store → D → D → Option D) (a : RE) : sAug i f a e S = match e[i]? with
  | some (some x) => (a e S).fl e fun y S1 => match f S1 x y with
    | some z => .nx (e.set i (some z)) S1
    | none => .bad
  | _ => .bad := (rfl)
@[simp] theorem sFor_eq (it : RA) (t : Tg) (body : RS) : sFor it t body e S = (it e S).fl e fun ds S1 => forL t body ds e S1 := (rfl)
@[simp] theorem rLive_eq (a : RE) : rLive a e S = (a e S).bind fun d S1 => if okIt S1 d = true then .ok d S1 else .bad := (rfl)
@[simp] theorem sForV_eq (a : RE) (t : Tg) (body : RS) (k : Nat) : sForV a t body k e S = (rLive a e S).fl e fun x S1 => forV t body x k 0 e S1 := (rfl)
@[simp] theorem rIt_eq (a : RE) : rIt a e S = (a e S).bind fun d S1 => ofO (itemsD d) S1 := (rfl)
@[simp] theorem rRan_eq (f : List D → Option (List D)) (as : RA) : rRan f as e S = (as e S).bind fun ds S1 => ofO (f ds) S1 := (rfl)
@[simp] theorem sRaiseF_eq (c : Nat) (ns : List Str) (as : RA) : sRaiseF c ns as e S = (as e S).fl e fun ds S1 => if ds.length = ns.length then .er ⟨c, ns.reverse, ds.reverse⟩ e S1 else .bad := (rfl)
@[simp] theorem sRaise0_eq (c : Nat) : sRaise0 c e S = .er ⟨c, [], []⟩ e S := (rfl)
@[simp] theorem sTryAs_eq (sub : Nat → Option Bool) (i : Nat) (body suite : RS) : sTryAs sub i body suite e S = match body e S with
  | .er x e1 S1 => catchAs sub i suite x e1 S1
  | f => f := (rfl)
@[simp] theorem sTryOnly_eq (sub : Nat → Option Bool) (body suite : RS) : sTryOnly sub body suite e S = match body e S with
  | .er x e1 S1 => catchOnly sub suite x e1 S1
  | f => f := (rfl)
@[simp] theorem setAll_cons {A : Type} (i : Nat) (is : List Nat) (d : A) (ds : List A) (e : List (Option A)) : setAll (i :: is) (d :: ds) e = setAll is ds (e.set i (some d)) := (rfl)
@[simp] theorem setAll_nil {A : Type} (ds : List A) (e : List (Option A)) : setAll [] ds e = e := by cases ds <;> rfl
@[simp] theorem bindT_nm (d : D) (i : Nat) : bindT S d e (.nm i) = some (e.set i (some d)) := (rfl)
@[simp] theorem bindT_tp (d : D) (is : List Nat) : bindT S d e (.tp is) = (parts S d).bind fun ds => if ds.length = is.length then some (setAll is ds e) else none := (rfl)
@[simp] theorem bindT_tn (d : D) (qs : List (Nat ⊕ List Nat)) : bindT S d e (.tn qs) = (parts S d).bind fun ds => bindN S qs ds e := (rfl)
@[simp] theorem bindN_nil : bindN S [] [] e = some e := (rfl)
@[simp] theorem bindN_inl (i : Nat) (qs : List (Nat ⊕ List Nat)) (d : D) (ds : List D) : bindN S (.inl i :: qs) (d :: ds) e = bindN S qs ds (e.set i (some d)) := (rfl)
@[simp] theorem bindN_inr (is : List Nat) (qs : List (Nat ⊕ List Nat)) (d : D) (ds : List D) : bindN S (.inr is :: qs) (d :: ds) e = (parts S d).bind fun xs => if xs.length = is.length then bindN S qs ds (setAll is xs e) else none := (rfl)
@[simp] theorem parts_tup (xs : List D) : parts S (.tup xs) = some xs := (rfl)
@[simp] theorem parts_lst (xs : List D) : parts S (.lst xs) = some xs := (rfl)
@[simp] theorem itemsD_tup (xs : List D) : itemsD (.tup xs) = some xs := (rfl)
@[simp] theorem itemsD_lst (xs : List D) : itemsD (.lst xs) = some xs := (rfl)
@[simp] theorem asB_bl (b : Bool) : asB (.bl b) = some b := (rfl)
@[simp] theorem asI_int (i : Int) : asI (.int i) = some i := (rfl)
@[simp] theorem truthD_bl (b : Bool) : truthD S (.bl b) = some b := (rfl)
@[simp] theorem truthD_int (i : Int) : truthD S (.int i) = some (i != 0) := (rfl)
@[simp] theorem truthD_non : truthD S .non = some false := (rfl)
@[simp] theorem asL_lst (xs : List D) : asL S (.lst xs) = some xs := (rfl)
@[simp] theorem asL_loc (n : Nat) : asL S (.loc n) = match S[n]? with | some (.lst xs) => some xs | _ => none := (rfl)
@[simp] theorem addD_int (i j : Int) : addD S (.int i) (.int j) = some (.int (i + j)) := (rfl)
@[simp] theorem i2_int (c : Int → Int → Bool) (g : Int → Int → D) (i j : Int) : i2 c g S (.int i) (.int j) = if c i j = true then some (g i j) else none := (rfl)
@[simp] theorem subD_int (i j : Int) : subD S (.int i) (.int j) = some (.int (i - j)) := (rfl)
@[simp] theorem mulD_int (i j : Int) : mulD S (.int i) (.int j) = if mulOk i j = true then some (.int (i * j)) else none := (rfl)
@[simp] theorem mulT_int (i j : Int) : mulT S (.int i) (.int j) = if mulOk i j = true then some (.int (i * j)) else none := (rfl)
@[simp] theorem mulT_str (x : Str) (n : Int) : mulT S (.str x) (.int n) = if 1 < n ∧ n < 1000 ∧ x.length ≠ 0 ∧ x.length * n.toNat ≤ sizeLine then some (.str (repS x n.toNat)) else none := (rfl)
@[simp] theorem divD_int (i j : Int) : divD S (.int i) (.int j) = if (decide (0 < j) && decide (j < 18446744073709551616)) = true then some (.int (i / j)) else none := (rfl)
@[simp] theorem modD_int (i j : Int) : modD S (.int i) (.int j) = if decide (0 < j) = true then some (.int (i % j)) else none := (rfl)
@[simp] theorem powD_int (i j : Int) : powD S (.int i) (.int j) = if powOk i j = true then some (.int (i ^ j.toNat)) else none := (rfl)
@[simp] theorem shlD_int (i j : Int) : shlD S (.int i) (.int j) = if powOk i j = true then some (.int (i * 2 ^ j.toNat)) else none := (rfl)
@[simp] theorem shrD_int (i j : Int) : shrD S (.int i) (.int j) = if decide (0 ≤ j) = true then some (.int (i / 2 ^ j.toNat)) else none := (rfl)
@[simp] theorem andD_int (i j : Int) : andD S (.int i) (.int j) = some (.int (Builtin.bitAnd i j)) := (rfl)
@[simp] theorem orD_int (i j : Int) : orD S (.int i) (.int j) = some (.int (Builtin.bitOr i j)) := (rfl)
@[simp] theorem ltD_int (i j : Int) : ltD S (.int i) (.int j) = some (.bl (decide (i < j))) := (rfl)
@[simp] theorem leD_int (i j : Int) : leD S (.int i) (.int j) = some (.bl (decide (i ≤ j))) := (rfl)
@[simp] theorem gtD_int (i j : Int) : gtD S (.int i) (.int j) = some (.bl (decide (j < i))) := (rfl)
@[simp] theorem geD_int (i j : Int) : geD S (.int i) (.int j) = some (.bl (decide (j ≤ i))) := (rfl)
@[simp] theorem negD_int (i : Int) : negD S (.int i) = some (.int (-i)) := (rfl)
@[simp] theorem absD_int (i : Int) : absD S [.int i] = some (.int (if i < 0 then -i else i)) := (rfl)
@[simp] theorem intT_int (i : Int) : intT S [.int i] = some (.int i) := (rfl)
@[simp] theorem intT_bl (b : Bool) : intT S [.bl b] = some (.int (if b = true then 1 else 0)) := by cases b <;> rfl
@[simp] theorem intT_str (a : Str) : intT S [.str a] = if a.length ≤ 640 then (intText? a).bind fun n => some (.int n) else none := (rfl)
@[simp] theorem fmtD_int (i : Int) : fmtD S (.int i) = if i.natAbs.log2 < 1920 then some (.str (toString i)) else none := (rfl)
@[simp] theorem fmtD_str (y : Str) : fmtD S (.str y) = if y.length ≤ sizeLine then some (.str y) else none := (rfl)
@[simp] theorem fldD_exn (ok : Nat → Bool) (f : Str) (c : Nat) (ns : List Str) (xs : List D) : fldD ok f S (.exn c ns xs) = if ok c = true then (ns.zip xs).lookup f else none := (rfl)
@[simp] theorem replD_str (y z x : Str) : replD y z S (.str x) = if x.length + (x.length + 1) * z.length ≤ 16777216 then some (.str (Txt.replace x y z)) else none := (rfl)
@[simp] theorem parts_loc (n : Nat) : parts S (.loc n) = asL S (.loc n) := (rfl)
@[simp] theorem rJs_nil (acc : Str) : rJs [] acc e S = .ok (.str acc) S := (rfl)
@[simp] theorem rJs_cons (r : RE) (rs : List RE) (acc : Str) : rJs (r :: rs) acc e S = (r e S).bind fun x S1 => match x with
    | .str y => if (acc ++ y).length ≤ sizeLine then rJs rs (acc ++ y) e S1 else .bad
    | _ => .bad := (rfl)
@[simp] theorem intD_int (i : Int) : intD S [.int i] = some (.int i) := (rfl)
@[simp] theorem intD_bl (b : Bool) : intD S [.bl b] = some (.int (if b = true then 1 else 0)) := by cases b <;> rfl
@[simp] theorem maxD2_int (i j : Int) : maxD2 S [.int i, .int j] = some (.int (if j > i then j else i)) := (rfl)
@[simp] theorem minD2_int (i j : Int) : minD2 S [.int i, .int j] = some (.int (if j < i then j else i)) := (rfl)
@[simp] theorem listT_lst (xs : List D) : listT S [.lst xs] = some (.lst xs) := (rfl)
@[simp] theorem listT_tup (xs : List D) : listT S [.tup xs] = some (.lst xs) := (rfl)
@[simp] theorem listT_str (x : Str) : listT S [.str x] = if x.length ≤ sizeLine then some (.lst (signsD x)) else none := (rfl)
@[simp] theorem listT_loc (n : Nat) : listT S [.loc n] = (asL S (.loc n)).bind fun xs => some (.lst xs) := (rfl)
@[simp] theorem tupleT_str (x : Str) : tupleT S [.str x] = if x.length ≤ sizeLine then some (.tup (signsD x)) else none := (rfl)
@[simp] theorem tupleT_lst (xs : List D) : tupleT S [.lst xs] = some (.tup xs) := (rfl)
@[simp] theorem tupleT_tup (xs : List D) : tupleT S [.tup xs] = some (.tup xs) := (rfl)
@[simp] theorem tupleT_loc (n : Nat) : tupleT S [.loc n] = (asL S (.loc n)).bind fun xs => some (.tup xs) := (rfl)
@[simp] theorem revD_str (x : Str) : revD S (.str x) = if x.length ≤ sizeLine then some (.str (revS x)) else none := (rfl)
@[simp] theorem lenD_lst (xs : List D) : lenD S [.lst xs] = some (.int xs.length) := (rfl)
@[simp] theorem lenD_tup (xs : List D) : lenD S [.tup xs] = some (.int xs.length) := (rfl)
theorem isiD_of {T t : String} {d : D} {b : Bool} (h1 : tyD S d = some t) (h2 : kitB t T = some b) : isiD T S d = some (.bl b) := by
  unfold isiD; rw [h1, Option.bind_some, h2, Option.bind_some]
@[simp] theorem isi_int_non : isiD "int" S .non = some (.bl false) := isiD_of rfl (by decide +kernel)
@[simp] theorem isi_int_bl (b : Bool) : isiD "int" S (.bl b) = some (.bl true) := isiD_of rfl (by decide +kernel)
@[simp] theorem isi_int_int (i : Int) : isiD "int" S (.int i) = some (.bl true) := isiD_of rfl (by decide +kernel)
@[simp] theorem isi_int_str (x : Str) : isiD "int" S (.str x) = some (.bl false) := isiD_of rfl (by decide +kernel)
@[simp] theorem isi_int_tup (xs : List D) : isiD "int" S (.tup xs) = some (.bl false) := isiD_of rfl (by decide +kernel)
@[simp] theorem isi_int_lst (xs : List D) : isiD "int" S (.lst xs) = some (.bl false) := isiD_of rfl (by decide +kernel)
@[simp] theorem isi_int_dct (ks : List Key) (xs : List D) : isiD "int" S (.dct ks xs) = some (.bl false) := isiD_of rfl (by decide +kernel)
@[simp] theorem isi_bool_non : isiD "bool" S .non = some (.bl false) := isiD_of rfl (by decide +kernel)
@[simp] theorem isi_bool_bl (b : Bool) : isiD "bool" S (.bl b) = some (.bl true) := isiD_of rfl (by decide +kernel)
@[simp] theorem isi_bool_int (i : Int) : isiD "bool" S (.int i) = some (.bl false) := isiD_of rfl (by decide +kernel)
@[simp] theorem isi_bool_str (x : Str) : isiD "bool" S (.str x) = some (.bl false) := isiD_of rfl (by decide +kernel)
@[simp] theorem isi_bool_tup (xs : List D) : isiD "bool" S (.tup xs) = some (.bl false) := isiD_of rfl (by decide +kernel)
@[simp] theorem isi_bool_lst (xs : List D) : isiD "bool" S (.lst xs) = some (.bl false) := isiD_of rfl (by decide +kernel)
@[simp] theorem isi_bool_dct (ks : List Key) (xs : List D) : isiD "bool" S (.dct ks xs) = some (.bl false) := isiD_of rfl (by decide +kernel)
@[simp] theorem isi_str_non : isiD "str" S .non = some (.bl false) := isiD_of rfl (by decide +kernel)
@[simp] theorem isi_str_bl (b : Bool) : isiD "str" S (.bl b) = some (.bl false) := isiD_of rfl (by decide +kernel)
@[simp] theorem isi_str_int (i : Int) : isiD "str" S (.int i) = some (.bl false) := isiD_of rfl (by decide +kernel)
@[simp] theorem isi_str_str (x : Str) : isiD "str" S (.str x) = some (.bl true) := isiD_of rfl (by decide +kernel)
@[simp] theorem isi_str_tup (xs : List D) : isiD "str" S (.tup xs) = some (.bl false) := isiD_of rfl (by decide +kernel)
@[simp] theorem isi_str_lst (xs : List D) : isiD "str" S (.lst xs) = some (.bl false) := isiD_of rfl (by decide +kernel)
@[simp] theorem isi_str_dct (ks : List Key) (xs : List D) : isiD "str" S (.dct ks xs) = some (.bl false) := isiD_of rfl (by decide +kernel)
@[simp] theorem isi_tuple_non : isiD "tuple" S .non = some (.bl false) := isiD_of rfl (by decide +kernel)
@[simp] theorem isi_tuple_bl (b : Bool) : isiD "tuple" S (.bl b) = some (.bl false) := isiD_of rfl (by decide +kernel)
@[simp] theorem isi_tuple_int (i : Int) : isiD "tuple" S (.int i) = some (.bl false) := isiD_of rfl (by decide +kernel)
@[simp] theorem isi_tuple_str (x : Str) : isiD "tuple" S (.str x) = some (.bl false) := isiD_of rfl (by decide +kernel)
@[simp] theorem isi_tuple_tup (xs : List D) : isiD "tuple" S (.tup xs) = some (.bl true) := isiD_of rfl (by decide +kernel)
@[simp] theorem isi_tuple_lst (xs : List D) : isiD "tuple" S (.lst xs) = some (.bl false) := isiD_of rfl (by decide +kernel)
@[simp] theorem isi_tuple_dct (ks : List Key) (xs : List D) : isiD "tuple" S (.dct ks xs) = some (.bl false) := isiD_of rfl (by decide +kernel)
@[simp] theorem isi_list_non : isiD "list" S .non = some (.bl false) := isiD_of rfl (by decide +kernel)
@[simp] theorem isi_list_bl (b : Bool) : isiD "list" S (.bl b) = some (.bl false) := isiD_of rfl (by decide +kernel)
@[simp] theorem isi_list_int (i : Int) : isiD "list" S (.int i) = some (.bl false) := isiD_of rfl (by decide +kernel)
@[simp] theorem isi_list_str (x : Str) : isiD "list" S (.str x) = some (.bl false) := isiD_of rfl (by decide +kernel)
@[simp] theorem isi_list_tup (xs : List D) : isiD "list" S (.tup xs) = some (.bl false) := isiD_of rfl (by decide +kernel)
@[simp] theorem isi_list_lst (xs : List D) : isiD "list" S (.lst xs) = some (.bl true) := isiD_of rfl (by decide +kernel)
@[simp] theorem isi_list_dct (ks : List Key) (xs : List D) : isiD "list" S (.dct ks xs) = some (.bl false) := isiD_of rfl (by decide +kernel)
@[simp] theorem isi_dict_non : isiD "dict" S .non = some (.bl false) := isiD_of rfl (by decide +kernel)
@[simp] theorem isi_dict_bl (b : Bool) : isiD "dict" S (.bl b) = some (.bl false) := isiD_of rfl (by decide +kernel)
@[simp] theorem isi_dict_int (i : Int) : isiD "dict" S (.int i) = some (.bl false) := isiD_of rfl (by decide +kernel)
@[simp] theorem isi_dict_str (x : Str) : isiD "dict" S (.str x) = some (.bl false) := isiD_of rfl (by decide +kernel)
@[simp] theorem isi_dict_tup (xs : List D) : isiD "dict" S (.tup xs) = some (.bl false) := isiD_of rfl (by decide +kernel)
@[simp] theorem isi_dict_lst (xs : List D) : isiD "dict" S (.lst xs) = some (.bl false) := isiD_of rfl (by decide +kernel)
@[simp] theorem isi_dict_dct (ks : List Key) (xs : List D) : isiD "dict" S (.dct ks xs) = some (.bl true) := isiD_of rfl (by decide +kernel)
@[simp] theorem eqD_eq (a b : D) : eqD S a b = (eqB S a b).bind fun k => some (.bl k) := (rfl)
@[simp] theorem neD_eq (a b : D) : neD S a b = (eqB S a b).bind fun k => some (.bl (!k)) := (rfl)
@[simp] theorem eqB_ii (i j : Int) : eqB S (.int i) (.int j) = some (i == j) := by simp [eqB, deepN, pyD, PyData.eqv]
@[simp] theorem eqB_ss (i j : Str) : eqB S (.str i) (.str j) = some (i == j) := by simp [eqB, deepN, pyD, PyData.eqv]
@[simp] theorem eqB_tt (xs ys : List D) : eqB S (.tup xs) (.tup ys) = (pyAll (pyD S 59) xs).bind fun p => (pyAll (pyD S 59) ys).bind fun q => some (PyData.eqvAll p q) := by
  unfold eqB deepN
  simp only [pyD]
  cases pyAll (pyD S 59) xs <;> cases pyAll (pyD S 59) ys <;> simp [PyData.eqv]
@[simp] theorem eqB_ll (xs ys : List D) : eqB S (.lst xs) (.lst ys) = (pyAll (pyD S 59) xs).bind fun p => (pyAll (pyD S 59) ys).bind fun q => some (PyData.eqvAll p q) := by
  unfold eqB deepN
  simp only [pyD]
  cases pyAll (pyD S 59) xs <;> cases pyAll (pyD S 59) ys <;> simp [PyData.eqv]
@[simp] theorem pyAll_nil (f : D → Option PyData) : pyAll f [] = some [] := (rfl)
@[simp] theorem pyAll_cons' (f : D → Option PyData) (x : D) (xs : List D) : pyAll f (x :: xs) = (f x).bind fun y => (pyAll f xs).bind fun ys => some (y :: ys) := (rfl)
@[simp] theorem pyD_int (n : Nat) (i : Int) : pyD S n (.int i) = some (.int i) := by cases n <;> rfl
@[simp] theorem pyD_str (n : Nat) (i : Str) : pyD S n (.str i) = some (.str i) := by cases n <;> rfl
@[simp] theorem pyD_bl (n : Nat) (i : Bool) : pyD S n (.bl i) = some (.bool i) := by cases n <;> rfl
@[simp] theorem pyD_non (n : Nat) : pyD S n .non = some .none := by cases n <;> rfl
@[simp] theorem isN_non : isN S .non .non = some (.bl true) := (rfl)
@[simp] theorem isN_exn (c : Nat) (ns : List Str) (xs : List D) : isN S (.exn c ns xs) .non = some (.bl false) := (rfl)
end
theorem forL_inv {t : Tg} {body : RS} (P : Env → Store → Prop) : ∀ (ds : List D) {e : Env} {S : Store}, (∀ d ∈ ds, ∀ e S, P e S → ∃ e1, bindT S d e t = some e1 ∧ ∃ e2 S2, body e1 S = .nx e2 S2 ∧ P e2 S2) → P e S → ∃ e' S', forL t body ds e S = .nx e' S' ∧ P e' S'
  | [], e, S, _, h => ⟨e, S, rfl, h⟩
  | d :: ds, e, S, hs, h => by
    obtain ⟨e1, h1, e2, S2, h2, h3⟩ := hs d List.mem_cons_self e S h
    obtain ⟨e', S', h4, h5⟩ := forL_inv P ds (fun d hd => hs d (List.mem_cons_of_mem _ hd)) h3
    exact ⟨e', S', by simp [forL, h1, h2, h4], h5⟩
@[simp] theorem ran1_int (j : Int) : ran1 [.int j] = if -(2 ^ 62) ≤ j ∧ j < 2 ^ 62 then some (rangeD 0 j.toNat) else none := (rfl)
@[simp] theorem ran2_int (i j : Int) : ran2 [.int i, .int j] = if -(2 ^ 62) ≤ i ∧ i < 2 ^ 62 ∧ -(2 ^ 62) ≤ j ∧ j < 2 ^ 62 then some (rangeD i (j - i).toNat) else none := (rfl)
theorem ran_cells (l n : Nat) (h : n ≤ 63) (hn : 1 ≤ n) : ∃ m, m ≤ n ∧ ran1 [.int (if (if (n : Int) < (l : Int) then (n : Int) else (l : Int)) > 1 then (if (n : Int) < (l : Int) then (n : Int) else (l : Int)) else 1)] = some (rangeD 0 m) := by
  refine ⟨(if (if (n : Int) < (l : Int) then (n : Int) else (l : Int)) > 1 then (if (n : Int) < (l : Int) then (n : Int) else (l : Int)) else 1).toNat, ?_, ?_⟩
  · split <;> split <;> omega
  · rw [ran1_int, if_pos]
    split <;> split <;> omega
theorem mem_rangeD {lo : Int} {n : Nat} {d : D} (h : d ∈ rangeD lo n) : ∃ i : Nat, i < n ∧ d = .int (lo + i) := by
  unfold rangeD at h
  obtain ⟨i, h1, h2⟩ := List.mem_map.mp h
  exact ⟨i, List.mem_range.mp h1, h2.symm⟩
theorem atI_mem {A : Type} {xs : List A} {r : Int} (h : 0 ≤ r) (h2 : r < xs.length) : ∃ d, atI xs r = some d ∧ d ∈ xs := by
  have h3 : r.toNat < xs.length := by omega
  exact ⟨xs[r.toNat], by simp [atI, ixN, h, h2, h3], List.getElem_mem h3⟩
end Ev
namespace Ev
open PySem PySem.Spec L2
section
variable {e : Env} {S : Store}
@[simp] theorem rPrs_nil : rPrs [] e S = .ok [] S := (rfl)
@[simp] theorem rPrs_cons (p : Str × RE) (l : List (Str × RE)) : rPrs (p :: l) e S = (p.2 e S).bind fun d S1 => (rPrs l e S1).bind fun ds S2 => .ok (d :: ds) S2 := (rfl)
@[simp] theorem rDispF_eq (l : List (Str × RE)) : rDispF l e S = (rPrs l e S).calm.bind fun ds S1 => .ok (.dct (dispF (l.map (·.1)) ds ([], [])).1 (dispF (l.map (·.1)) ds ([], [])).2) S1 := (rfl)
@[simp] theorem rDispM_eq (l : List (Str × RE)) : rDispM l e S = (rPrs l e S).calm.bind fun ds S1 => .ok (.loc S1.length) (S1 ++ [.dK (dispF (l.map (·.1)) ds ([], [])).1 (dispF (l.map (·.1)) ds ([], [])).2]) := (rfl)
@[simp] theorem sStar_eq (i j : Nat) (a : RE) : sStar i j a e S = (a e S).fl e fun d S1 => match d with
  | .tup (x :: xs) => if xs.length ≤ 16000 then .nx (setAll [i, j] [x, .lst xs] e) S1 else .bad
  | _ => .bad := (rfl)
@[simp] theorem sPutD_eq (a o i : RE) : sPutD a o i e S = (a e S).fl e fun v S1 => (o e S1).fl e fun x S2 => (i e S2).fl e fun y S3 => match putD S3 x y v with
  | some S4 => .nx e S4
  | none => .bad := (rfl)
end
end Ev
namespace Ev
open PySem PySem.Spec L2 PyProof.Rows
section
variable {X : Cx} {C : Nat → Addr} {io : Io} {S : Store} {H : Hp} {pins : List (Addr × Obj)} {sg : L2.St} {s : Shared} {f : D → Option PyData}
def ShR (X : Cx) (s : Shared) (u : Value) (p : PyData) : Prop := ∃ as bs, Reads s.heap u p as ∧ ReadAtMost s.heap p.depth bs ∧ ReprK X.prog X.w bs s.heap p.depth u p.shown
def ShRs (X : Cx) (s : Shared) (us : List Value) (ps : List PyData) : Prop := ∃ as bs, ReadsAll s.heap us ps as ∧ ReadAtMost s.heap (PyData.depthAll ps) bs ∧ ReprAllK X.prog X.w bs s.heap (PyData.depthAll ps) us (PyData.shownAll ps)
theorem ShR.plain {u : Value} {p : PyData} {as : List Addr} (r : Reads s.heap u p as) (hs : p.showable = true) (hd : p.hasDict = true → sysModules ∉ as) (hz : p.shown.length ≤ sizeLine) : ShR X s u p :=
  let ⟨bs, h1, h2⟩ := ReprK.of_reads (prog := X.prog) (w := X.w) r hs hd hz
  ⟨as, bs, r, h1, h2⟩
theorem ShRs.nil : ShRs X s [] [] := ⟨[], [], .nil, fun _ h => absurd h List.not_mem_nil, by rw [PyData.shownAll]; exact .nil⟩
theorem ShRs.cons {u : Value} {us : List Value} {p : PyData} {ps : List PyData} (h : ShR X s u p) (hr : ShRs X s us ps) : ShRs X s (u :: us) (p :: ps) := by
  obtain ⟨a1, b1, r1, m1, k1⟩ := h
  obtain ⟨a2, b2, r2, m2, k2⟩ := hr
  have e : PyData.depthAll (p :: ps) = max p.depth (PyData.depthAll ps) := by rw [PyData.depthAll]
  have e2 : PyData.shownAll (p :: ps) = p.shown :: PyData.shownAll ps := by rw [PyData.shownAll]
  refine ⟨_, b1 ++ b2, .cons r1 r2, fun b hb => ?_, ?_⟩
  · rw [e]
    rcases List.mem_append.mp hb with q | q
    · obtain ⟨x, y, z1, z2⟩ := m1 b q; exact ⟨x, y, z1, by omega⟩
    · obtain ⟨x, y, z1, z2⟩ := m2 b q; exact ⟨x, y, z1, by omega⟩
  · rw [e, e2]
    exact .cons ((k1.more fun b q => List.mem_append_left b2 q).level_le (by omega)) (k2.more_le (fun b q => List.mem_append_right b1 q) (by omega))
end
end Ev
namespace Ev
open PySem PySem.Spec L2 PyProof.Rows
def insAt (S : Store) : D → Option (Nat × List Str × List D)
  | .loc n => match S[n]? with
    | some (.ins c ns xs) => some (c, ns, xs)
    | _ => none
  | _ => none
section
variable {K : PySem.W.Frag} {C : Nat → Addr} {io : Io} {S : Store} {H : Hp} {d : D} {v : V} {c : Nat} {ns : List Str} {xs : List D}
theorem ins_rep (h : insAt S d = some (c, ns, xs)) (dn : Den K C io S H) (r : Rep K C io (Fz io H) d v) : ∃ n a dx fs, d = .loc n ∧ v = .ref a ∧ io.l[n]? = some a ∧ S[n]? = some (.ins c ns xs) ∧ H a = some (.ins (C c) dx fs) ∧ H dx = some (.own a) ∧ fs.map (·.1) = ns ∧ Reps K C io (Fz io H) xs (fs.map (·.2)) := by
  unfold insAt at h
  split at h
  · rename_i n
    split at h
    · rename_i c' ns' xs' e
      cases h
      cases r with
      | loc q =>
        obtain ⟨dx, fs, h1, h2, h3, h4⟩ := dn.obj n _ _ e q
        exact ⟨n, _, dx, fs, rfl, rfl, q, e, h1, h2, h3, h4⟩
    · cases h
  · cases h
end
def atrD (ok : Nat → Bool) (f : Str) (S : Store) (d : D) : Option D := (insAt S d).bind fun p => if ok p.1 = true then (p.2.1.zip p.2.2).lookup f else none
section
variable {X : Cx} {C : Nat → Addr} {W : WX} {e o a : Expr} {re ro ra : RE} {f m : Str} {pos apos tpos : Pos} {ok : Nat → Bool}
theorem ee_atr (he : PE X e (tE X.K C W re)) (hk : ∀ c, ok c = true → Cls X.K (C c) ∧ NoAttr X.K (C c) f) (hb : attributeBase e f X.env (eval e X.env) = eval e X.env := by rfl) : PE X (.Attribute e f pos) (tE X.K C W (rUn (atrD ok f) re)) :=
  (pe_fld he hb).imp fun sg H Q h => (tR.seq1 (R := RepR X.K C) (fun _ x S => ofO (atrD ok f S x) S) h fun _ _ => rfl).mono fun v H1 ⟨e, S, io, d, dn, s, r, p⟩ => by
    obtain ⟨z, ez, p1⟩ := p.ofO
    clear p
    obtain ⟨⟨c, ns, xs⟩, h1, h2⟩ := bind_some' ez
    dsimp only at h2
    split at h2
    · rename_i hc
      obtain ⟨n, b, dx, fs, rfl, rfl, _, _, ha, _, rfl, rs⟩ := ins_rep h1 dn r
      obtain ⟨u, l, rv⟩ := lookup_rep rs h2
      exact ⟨b, C c, dx, fs, u, rfl, ha, (hk c hc).1, (hk c hc).2, l, p1 u H1 io (Ext.refl _ _) dn rv⟩
    · cases h2
def putP (f : Str) (d : D) : List Str → List D → List Str × List D
  | [], _ => ([f], [d])
  | g :: ns, [] => (g :: ns, [])
  | g :: ns, x :: xs => if g = f then (g :: ns, d :: xs) else (g :: (putP f d ns xs).1, x :: (putP f d ns xs).2)
theorem putP_rep {K : PySem.W.Frag} {io : Io} {F : Hp} {d : D} {v : V} (r : Rep K C io F d v) : ∀ {fs : List (Str × V)} {xs : List D}, Reps K C io F xs (fs.map (·.2)) → (putF f v fs).map (·.1) = (putP f d (fs.map (·.1)) xs).1 ∧ Reps K C io F (putP f d (fs.map (·.1)) xs).2 ((putF f v fs).map (·.2))
  | [], _, _ => ⟨rfl, .cons r .nil⟩
  | (g, u) :: fs, _, .cons (d := x) (ds := xs) rx rs => by
    simp only [putF, List.map_cons, putP]
    by_cases e : g = f
    · rw [if_pos e, if_pos e]
      exact ⟨rfl, .cons r rs⟩
    · rw [if_neg e, if_neg e]
      obtain ⟨h1, h2⟩ := putP_rep r rs
      exact ⟨by simp only [List.map_cons, h1], .cons rx h2⟩
def putA (ok : Nat → Bool) (f : Str) (S : Store) (o v : D) : Option Store := match o with
  | .loc n => match S[n]? with
    | some (.ins c ns xs) => if ok c = true ∧ ns.length < 1000 then some (S.set n (.ins c (putP f v ns xs).1 (putP f v ns xs).2)) else none
    | _ => none
  | _ => none
theorem putA_den {K : PySem.W.Frag} {io : Io} {S S' : Store} {H : Hp} {d y : D} {v u : V} (h : putA ok f S d y = some S') (dn : Den K C io S H) (r : Rep K C io (Fz io H) d v) (ry : Rep K C io (Fz io H) y u) :
    ∃ c b dx fs, ok c = true ∧ v = .ref b ∧ H b = some (.ins (C c) dx fs) ∧ fs.length < 1000 ∧ Ext io H io (upd H b (.ins (C c) dx (putF f u fs))) ∧ Den K C io S' (upd H b (.ins (C c) dx (putF f u fs))) := by
  unfold putA at h
  split at h
  · rename_i n
    split at h
    · rename_i c ns xs e
      split at h
      · rename_i hc
        cases h
        cases r with
        | @loc _ b q =>
          obtain ⟨dx, fs, h1, h2, h3, h4⟩ := dn.obj n _ _ e q
          subst h3
          obtain ⟨p1, p2⟩ := putP_rep (f := f) ry h4
          have ex : Ext io H io (upd H b (.ins (C c) dx (putF f u fs))) := Ext.put (mem_all q)
          have ne : dx ≠ b := fun z => by rw [z, h1] at h2; cases h2
          refine ⟨c, b, dx, fs, hc.1, rfl, h1, by simpa using hc.2, ex, dn.put q ⟨dx, _, upd_same, by rw [upd_ne ne]; exact h2, p1, p2.ext ex⟩⟩
      · cases h
    · cases h
  · cases h
def sPutA (ok : Nat → Bool) (f : Str) (a o : RE) : RS := fun e S => (a e S).fl e fun v S1 => (o e S1).fl e fun x S2 => match putA ok f S2 x v with
  | some S3 => .nx e S3
  | none => .bad
theorem s_putA (ha : PE X a (tE X.K C W ra)) (ho : PE X o (tE X.K C W ro)) (hk : ∀ c, ok c = true → Cls X.K (C c) ∧ NoAttr X.K (C c) f) (hs : swapsWith a (some (.Attribute o f apos)) pos.line X.env = pure false := by rfl) :
    PS X (.Assign [.Attribute o f apos] a pos) (tS X.K C W (sPutA ok f ra ro)) :=
  (ps_fld ho ha hs).imp fun Dn sg H h => (tS.seq (R := RepR X.K C) (fun e v S1 => (ro e S1).fl e fun x S2 => match putA ok f S2 x v with | some S3 => .nx e S3 | none => .bad) h fun _ _ => rfl).mono fun v H1 ⟨e, S, io, v1, dn, s, r, p⟩ =>
    ⟨e, S, io, dn, s, (p.of_res (R := RepR X.K C) s).mono fun x H2 ⟨io2, S2, x1, x2, d2, r2, p2⟩ => by
      cases hp : putA ok f S2 x1 v1 with
      | none => rw [hp] at p2; exact p2.elim
      | some S3 =>
        rw [hp] at p2
        obtain ⟨c, b, dx, fs, hc, rfl, hb, hl, ex, dd⟩ := putA_den hp d2 r2 (r.ext x2)
        exact ⟨b, C c, dx, fs, rfl, hb, (hk c hc).1, (hk c hc).2, hl, p2 sg _ io2 ex dd ((s.ext x2).ext ex)⟩⟩
def rMet (c : Nat) (m : Str) (g : List D → Store → Res D) (o : RE) (as : RA) : RE := fun e S => (o e S).bind fun x S1 => match insAt S1 x with
  | some (c', ns, _) => if c' = c ∧ m ∉ ns then (as e S1).bind fun xs S2 => g (x :: xs) S2 else .bad
  | none => .bad
variable {k : Nat} {es : List Expr} {rs : RA} {fa : Addr} {fd : FuncData} {ps : List Str} {g : List D → Store → Res D} {c n : Nat}
theorem lookup_none {m : Str} : ∀ {fs : List (Str × V)}, m ∉ fs.map (·.1) → fs.lookup m = none
  | [], _ => rfl
  | (a, v) :: fs, h => by
    simp only [List.map_cons, List.mem_cons, not_or] at h
    rw [List.lookup_cons, beq_eq_false_iff_ne.mpr h.1]
    exact lookup_none h.2
theorem ee_met {pl : Sem Bool} (ho : PE X o (tE X.K C W ro)) (cl : Cls X.K (C c)) (hm : Meth X.K (C c) m fa) (F : Cal X fa fd ps (spOf X.K C (n + 1) g)) (hb : Binds X.K fd ps []) (tk : L2N.Takes X W)
    (ha : PA X (e :: es) (tA X.K C W rs)) (hn : AL n rs) (hst : starEach (e :: es) X.env = (false, eval e X.env) :: starEach es X.env := by rfl) (hpl : (backTo pos (starEach es X.env)).any (·.1) = false := by rfl)
    (ht : eval (.Call (.Attribute o m apos) (e :: es) [] pos) X.env = (do
      let ov ← eval o X.env
      standAt apos.atName
      let (f, first) ← holding [ov] (getMethod ov m pl)
      callWith pos f first (backTo pos (starEach (e :: es) X.env)) (backToKw pos (keywordEach [] X.env))) := by rfl) :
    PE X (.Call (.Attribute o m apos) (e :: es) [] pos) (tE X.K C W (rMet c m g ro rs)) := by
  refine ⟨fun pins s sg H Q I h => ?_⟩
  have h2 := tR.seq1 (R := RepR X.K C) (fun e x S1 => match insAt S1 x with
    | some (c', ns, _) => if c' = c ∧ m ∉ ns then (rs e S1).bind fun xs S2 => g (x :: xs) S2 else .bad
    | none => .bad) h fun _ _ => rfl
  refine PySem.W.methodCall_KW (pl := pl) (thn (ho.run pins s sg H _ I h2) fun u s1 ⟨x, H1, I1, rx, e1, S1, io1, d1, dn1, sl1, r1, p1⟩ => ?_) ht
  cases hi : insAt S1 d1 with
  | none => rw [hi] at p1; exact p1.elim
  | some q =>
    obtain ⟨c', ns, xs⟩ := q
    rw [hi] at p1
    dsimp only at p1
    split at p1
    · rename_i hc
      obtain ⟨rfl, hm'⟩ := hc
      obtain ⟨k1, b, dx, fs, rfl, rfl, hq, hS, hb', _, rfl, _⟩ := ins_rep hi dn1 r1
      obtain rfl : u = Value.ref b := rx
      refine getmeth_ok I1 hb' cl hm (lookup_none hm') ?_
      have h3 : tA X.K C W rs sg H1 fun vs H2 => vs.length = n ∧ ∃ io2 S2 ds, Ext io1 H1 io2 H2 ∧ Den X.K C io2 S2 H2 ∧ Reps X.K C io2 (Fz io2 H2) ds vs ∧ Post X.K C (RepR X.K C) W sg io2 H2 (g (.loc k1 :: ds) S2) Q :=
        tA.alen hn ⟨e1, S1, io1, dn1, sl1, p1.bind⟩
      refine PySem.W.callWith_K (first := [.ref b]) (h₀ := X.base) I.ok.mod.kin hm.kp (thn (ha.run pos pins s1 sg H1 _ I1 h3) fun us s2 ⟨vs, H2, I2, rv, hl, io2, S2, ds, x2, dn2, rds, q2⟩ => ⟨I2.kIn, ?_⟩) hst hpl
      have rl : Rep X.K C io2 (Fz io2 H2) (.loc k1) (.ref b) := .loc (x2.pre _ _ hq)
      have sp := spOf_of (n := n + 1) (vs := .ref b :: vs) (by simp [hl]) dn2 (.cons rl rds) q2
      have hl2 : (Value.ref b :: us).length = ps.length := by
        rw [← F.len _ _ _ _ sp, List.length_cons, List.length_cons, rv.length]
      have bb := hb s2 (.ref b :: us) I2.kIn (by rw [List.append_nil]; exact hl2)
      rw [List.append_nil] at bb
      exact run_cal F tk bb I2 (.cons (show L2.RelV (V.ref b) (Value.ref b) from rfl) rv) sp
    · exact p1.elim
theorem ee_met0 {pl : Sem Bool} (ho : PE X o (tE X.K C W ro)) (cl : Cls X.K (C c)) (hm : Meth X.K (C c) m fa) (F : Cal X fa fd ps (spOf X.K C 1 g)) (hb : Binds X.K fd ps []) (tk : L2N.Takes X W)
    (ht : eval (.Call (.Attribute o m apos) [] [] pos) X.env = (do
      let ov ← eval o X.env
      standAt apos.atName
      let (f, first) ← holding [ov] (getMethod ov m pl)
      callWith pos f first (backTo pos (starEach [] X.env)) (backToKw pos (keywordEach [] X.env))) := by rfl) :
    PE X (.Call (.Attribute o m apos) [] [] pos) (tE X.K C W (rMet c m g ro rNil)) := by
  refine ⟨fun pins s sg H Q I h => ?_⟩
  have h2 := tR.seq1 (R := RepR X.K C) (fun e x S1 => match insAt S1 x with
    | some (c', ns, _) => if c' = c ∧ m ∉ ns then (rNil e S1).bind fun xs S2 => g (x :: xs) S2 else .bad
    | none => .bad) h fun _ _ => rfl
  refine PySem.W.methodCall_KW (pl := pl) (thn (ho.run pins s sg H _ I h2) fun u s1 ⟨x, H1, I1, rx, e1, S1, io1, d1, dn1, sl1, r1, p1⟩ => ?_) ht
  cases hi : insAt S1 d1 with
  | none => rw [hi] at p1; exact p1.elim
  | some q =>
    obtain ⟨c', ns, xs⟩ := q
    rw [hi] at p1
    dsimp only at p1
    split at p1
    · rename_i hc
      obtain ⟨rfl, hm'⟩ := hc
      obtain ⟨k1, b, dx, fs, rfl, rfl, hq, hS, hb', _, rfl, _⟩ := ins_rep hi dn1 r1
      obtain rfl : u = Value.ref b := rx
      refine getmeth_ok I1 hb' cl hm (lookup_none hm') ?_
      have rl : Rep X.K C io1 (Fz io1 H1) (.loc k1) (.ref b) := .loc hq
      have sp := spOf_of (n := 1) (vs := [.ref b]) (ds := [.loc k1]) rfl dn1 (.cons rl .nil) (p1 : Post X.K C (RepR X.K C) W sg io1 H1 (g [.loc k1] S1) Q)
      have hl2 : ([Value.ref b]).length = ps.length := by
        rw [← F.len _ _ _ _ sp]; rfl
      have bb := hb s1 [.ref b] I1.kIn (by rw [List.append_nil]; exact hl2)
      rw [List.append_nil] at bb
      exact PySem.W.callWith_K0 (first := [.ref b]) I1.kIn hm.kp (run_cal F tk bb I1 (.cons (show L2.RelV (V.ref b) (Value.ref b) from rfl) .nil) sp)
    · exact p1.elim
def madeR (n : Nat) : Res D → Res D
  | .ok .non S => .ok (.loc n) S
  | .err x S => .err x S
  | _ => .bad
def rMake (c : Nat) (g : List D → Store → Res D) (as : RA) : RE := fun e S => (as e S).bind fun xs S1 => madeR S1.length (g (.loc S1.length :: xs) (S1 ++ [.ins c [] []]))
theorem made_den {K : PySem.W.Frag} {io : Io} {S : Store} {H : Hp} {x dx : Addr} (dn : Den K C io S H) (hx : H x = none) (hd : H dx = none) (ne : dx ≠ x) :
    Ext io H (io.add x) (upd (upd H dx (.own x)) x (.ins (C c) dx [])) ∧ Den K C (io.add x) (S ++ [.ins c [] []]) (upd (upd H dx (.own x)) x (.ins (C c) dx [])) ∧ Rep K C (io.add x) (Fz (io.add x) (upd (upd H dx (.own x)) x (.ins (C c) dx []))) (.loc S.length) (.ref x) := by
  have d1 : Den K C io S (upd H dx (.own x)) := dn.new hd
  have e1 : Ext io H io (upd H dx (.own x)) := Ext.new dn hd
  have hx' : (upd H dx (.own x)) x = none := by rw [upd_ne (Ne.symm ne)]; exact hx
  refine ⟨e1.trans (Ext.loc hx'), d1.loc hx' ⟨dx, [], upd_same, by rw [upd_ne ne, upd_same], rfl, .nil⟩, .loc ?_⟩
  rw [← dn.len]
  show (io.l ++ [x])[io.l.length]? = some x
  rw [List.getElem?_append_right (Nat.le_refl _)]; simp
theorem made_sp {K : PySem.W.Frag} {io : Io} {S : Store} {H : Hp} {x dx : Addr} {sg : L2.St} {Q : VK} {ds : List D} {vs : List V} (dn : Den K C io S H) (hx : H x = none) (hd : H dx = none) (ne : dx ≠ x) (r : Reps K C io (Fz io H) ds vs) (hl : vs.length = n)
    (p : Post K C (RepR K C) W sg io H (madeR S.length (g (.loc S.length :: ds) (S ++ [.ins c [] []]))) Q) :
    spOf K C (n + 1) g (.ref x :: vs) (upd (upd H dx (.own x)) x (.ins (C c) dx [])) (fun v H2 => v = .non ∧ Q (.ref x) H2) (WE W sg) := by
  obtain ⟨e1, d1, r1⟩ := made_den (c := c) dn hx hd ne
  refine ⟨by simp [hl], .loc S.length :: ds, S ++ [.ins c [] []], io.add x, d1, .cons r1 (r.ext e1), ?_⟩
  cases q : g (.loc S.length :: ds) (S ++ [.ins c [] []]) with
  | ok d S1 =>
    rw [q] at p
    cases d with
    | non =>
        refine fun b H' io' x' d' r' => ?_
        cases r'
        refine ⟨rfl, p (.ref x) H' io' (e1.trans x') d' (.loc ?_)⟩
        have : (io.add x).l[S.length]? = some x := by cases r1 with | loc h => exact h
        exact x'.pre _ _ this
    | _ => exact p.elim
  | err y S1 => rw [q] at p; exact fun cls dd H' io' x' d' r' => p cls dd H' io' (e1.trans x') d' r'
  | bad => rw [q] at p; exact p.elim
theorem run_cmake {pins : List (Addr × Obj)} {sg : L2.St} {H : Hp} {s : Shared} {Q : VK} {us zs : List Value} {vs : List V} {Ca : Addr} (M : Mk X.K Ca fa) {sp : Sp} (hr : Room (k + 1) X.A) (F : FnOk X.prog X.w X.K X.mg X.base (L2N.CX X.prog X.w) k fa fd ps sp)
    (tk : L2N.Takes X W) (I : L2.Inv X pins sg H s) (hb : ∀ (s' : Shared) (b : Addr), X.K.In s'.heap → BindsTo s' fd ⟨.ref b :: us, []⟩ (ps.zip (.ref b :: zs))) (r : Vals vs zs)
    (h : ∀ x dx, H x = none → H dx = none → dx ≠ x → sp (.ref x :: vs) (upd (upd H dx (.own x)) x (.ins Ca dx [])) (fun v H2 => v = .non ∧ Q (.ref x) H2) (WE W sg)) :
    wpAny (model X.prog X.w) X.A (call (.ref Ca) us) (EP X pins sg Q) X.xe s := by
  have hq := h (s.heap.objs.size + 1) s.heap.objs.size (I.hok.fresh (Nat.le_succ _)) (I.hok.fresh (Nat.le_refl _)) (Nat.ne_of_lt (Nat.lt_succ_self _))
  have J := Inv.made (C := Ca) I
  refine wpAny_call (make_map (f := fa) I.kIn M.makes M.init (beq_iff_eq.mp M.fn) (codeAny_mono (F.run _ X.stack _ _ ⟨Value.ref (s.heap.objs.size + 1) :: us, []⟩ (Value.ref (s.heap.objs.size + 1) :: zs) _ _ (WE W sg) (hr.make Ca us [])
    (J.env0.make Ca us []) (hb _ _ J.kIn) (.cons (show L2.RelV (V.ref (s.heap.objs.size + 1)) (Value.ref (s.heap.objs.size + 1)) from rfl) r) hq) fun rr s' hq' => ?_))
  cases rr with
  | error e => exact L2N.passAt tk sg pins _ _ e s' J hq'
  | ok fl =>
    cases fl with
    | ret u =>
      obtain ⟨v, H', I3, rv, ev, q3⟩ := J.after hq'
      subst ev
      exact ⟨rv, ⟨V.ref (s.heap.objs.size + 1), H', I3, rfl, q3⟩⟩
    | next => exact False.elim hq'
    | brk => exact False.elim hq'
    | cont => exact False.elim hq'
theorem ee_make0 {x : Str} {p : Pos} (M : Mk X.K (C c) fa) (F : FnOk X.prog X.w X.K X.mg X.base (L2N.CX X.prog X.w) k fa fd ps (spOf X.K C 1 g)) (hr : Room (k + 1) X.A) (hg : Gl X x) (hm : X.mg x = some (.ref (C c))) (hb : Binds X.K fd ps []) (tk : L2N.Takes X W)
    (hdb : (x == ("__debug__" : Str)) = false := by decide) : PE X (.Call (.Name x p) [] [] pos) (tE X.K C W (rMake c g rNil)) := by
  refine ⟨fun pins s sg H Q I h => ?_⟩
  obtain ⟨e, S, io, dn, sl, q⟩ := h
  replace q : Post X.K C (RepR X.K C) W sg io H (madeR S.length (g [.loc S.length] (S ++ [.ins c [] []]))) Q := q
  refine wpAny_Call_Name_kw (ld_glob I hg hm ?_ hdb)
  refine PySem.W.callWith_K0 I.kIn M.kp (run_cmake M hr F tk I (zs := []) (fun s' b kin => ?_) .nil fun x dx hx hd ne => made_sp (n := 0) (ds := []) dn hx hd ne .nil rfl q)
  have hl2 : ([Value.ref b]).length = ps.length := by
    have z := F.len _ _ _ _ (made_sp (n := 0) (ds := []) (x := s.heap.objs.size + 1) (dx := s.heap.objs.size) dn (I.hok.fresh (Nat.le_succ _)) (I.hok.fresh (Nat.le_refl _)) (Nat.ne_of_lt (Nat.lt_succ_self _)) .nil rfl q)
    rw [← z]; rfl
  have bb := hb s' [.ref b] kin (by rw [List.append_nil]; exact hl2)
  rw [List.append_nil] at bb
  exact bb
def rMetD (c : Nat) (m : Str) (g : List D → Store → Res D) (is : List Int) (o : RE) (as : RA) : RE := fun e S => (o e S).bind fun x S1 => match insAt S1 x with
  | some (c', ns, _) => if c' = c ∧ m ∉ ns then (as e S1).bind fun xs S2 => g (x :: (xs ++ is.map D.int)) S2 else .bad
  | none => .bad
theorem reps_ints {K : PySem.W.Frag} {io : Io} {F : Hp} : ∀ is : List Int, Reps K C io F (is.map D.int) (is.map V.int)
  | [] => .nil
  | i :: is => .cons (.int i) (reps_ints is)
theorem ee_metD {pl : Sem Bool} {is : List Int} (ho : PE X o (tE X.K C W ro)) (cl : Cls X.K (C c)) (hm : Meth X.K (C c) m fa) (F : Cal X fa fd ps (spOf X.K C (n + 1 + is.length) g)) (hb : ∃ ds, Vals (is.map V.int) ds ∧ Binds X.K fd ps ds) (tk : L2N.Takes X W)
    (ha : PA X (e :: es) (tA X.K C W rs)) (hn : AL n rs) (hst : starEach (e :: es) X.env = (false, eval e X.env) :: starEach es X.env := by rfl) (hpl : (backTo pos (starEach es X.env)).any (·.1) = false := by rfl)
    (ht : eval (.Call (.Attribute o m apos) (e :: es) [] pos) X.env = (do
      let ov ← eval o X.env
      standAt apos.atName
      let (f, first) ← holding [ov] (getMethod ov m pl)
      callWith pos f first (backTo pos (starEach (e :: es) X.env)) (backToKw pos (keywordEach [] X.env))) := by rfl) :
    PE X (.Call (.Attribute o m apos) (e :: es) [] pos) (tE X.K C W (rMetD c m g is ro rs)) := by
  refine ⟨fun pins s sg H Q I h => ?_⟩
  have h2 := tR.seq1 (R := RepR X.K C) (fun e x S1 => match insAt S1 x with
    | some (c', ns, _) => if c' = c ∧ m ∉ ns then (rs e S1).bind fun xs S2 => g (x :: (xs ++ is.map D.int)) S2 else .bad
    | none => .bad) h fun _ _ => rfl
  refine PySem.W.methodCall_KW (pl := pl) (thn (ho.run pins s sg H _ I h2) fun u s1 ⟨x, H1, I1, rx, e1, S1, io1, d1, dn1, sl1, r1, p1⟩ => ?_) ht
  cases hi : insAt S1 d1 with
  | none => rw [hi] at p1; exact p1.elim
  | some q =>
    obtain ⟨c', ns, xs⟩ := q
    rw [hi] at p1
    dsimp only at p1
    split at p1
    · rename_i hc
      obtain ⟨rfl, hm'⟩ := hc
      obtain ⟨k1, b, dx, fs, rfl, rfl, hq, hS, hb', _, rfl, _⟩ := ins_rep hi dn1 r1
      obtain rfl : u = Value.ref b := rx
      obtain ⟨dvs, rdv, hbd⟩ := hb
      refine getmeth_ok I1 hb' cl hm (lookup_none hm') ?_
      have h3 : tA X.K C W rs sg H1 fun vs H2 => vs.length = n ∧ ∃ io2 S2 ds, Ext io1 H1 io2 H2 ∧ Den X.K C io2 S2 H2 ∧ Reps X.K C io2 (Fz io2 H2) ds vs ∧ Post X.K C (RepR X.K C) W sg io2 H2 (g (.loc k1 :: (ds ++ is.map D.int)) S2) Q :=
        tA.alen hn ⟨e1, S1, io1, dn1, sl1, p1.bind⟩
      refine PySem.W.callWith_K (first := [.ref b]) (h₀ := X.base) I.ok.mod.kin hm.kp (thn (ha.run pos pins s1 sg H1 _ I1 h3) fun us s2 ⟨vs, H2, I2, rv, hl, io2, S2, ds, x2, dn2, rds, q2⟩ => ⟨I2.kIn, ?_⟩) hst hpl
      have rl : Rep X.K C io2 (Fz io2 H2) (.loc k1) (.ref b) := .loc (x2.pre _ _ hq)
      have sp := spOf_of (n := n + 1 + is.length) (vs := .ref b :: (vs ++ is.map V.int)) (by simp [hl]; omega) dn2 (.cons rl (rds.append (reps_ints is))) q2
      have rall : Vals (V.ref b :: (vs ++ is.map V.int)) (Value.ref b :: (us ++ dvs)) := .cons (show L2.RelV (V.ref b) (Value.ref b) from rfl) (rv.append rdv)
      have hl2 : (Value.ref b :: us ++ dvs).length = ps.length := by
        have z := rall.length
        rw [F.len _ _ _ _ sp] at z
        exact z.symm
      exact run_cal F tk (hbd s2 (.ref b :: us) I2.kIn hl2) I2 rall sp
    · exact p1.elim
theorem ee_metD0 {pl : Sem Bool} {is : List Int} (ho : PE X o (tE X.K C W ro)) (cl : Cls X.K (C c)) (hm : Meth X.K (C c) m fa) (F : Cal X fa fd ps (spOf X.K C (1 + is.length) g)) (hb : ∃ ds, Vals (is.map V.int) ds ∧ Binds X.K fd ps ds) (tk : L2N.Takes X W)
    (ht : eval (.Call (.Attribute o m apos) [] [] pos) X.env = (do
      let ov ← eval o X.env
      standAt apos.atName
      let (f, first) ← holding [ov] (getMethod ov m pl)
      callWith pos f first (backTo pos (starEach [] X.env)) (backToKw pos (keywordEach [] X.env))) := by rfl) :
    PE X (.Call (.Attribute o m apos) [] [] pos) (tE X.K C W (rMetD c m g is ro rNil)) := by
  refine ⟨fun pins s sg H Q I h => ?_⟩
  have h2 := tR.seq1 (R := RepR X.K C) (fun e x S1 => match insAt S1 x with
    | some (c', ns, _) => if c' = c ∧ m ∉ ns then (rNil e S1).bind fun xs S2 => g (x :: (xs ++ is.map D.int)) S2 else .bad
    | none => .bad) h fun _ _ => rfl
  refine PySem.W.methodCall_KW (pl := pl) (thn (ho.run pins s sg H _ I h2) fun u s1 ⟨x, H1, I1, rx, e1, S1, io1, d1, dn1, sl1, r1, p1⟩ => ?_) ht
  cases hi : insAt S1 d1 with
  | none => rw [hi] at p1; exact p1.elim
  | some q =>
    obtain ⟨c', ns, xs⟩ := q
    rw [hi] at p1
    dsimp only at p1
    split at p1
    · rename_i hc
      obtain ⟨rfl, hm'⟩ := hc
      obtain ⟨k1, b, dx, fs, rfl, rfl, hq, hS, hb', _, rfl, _⟩ := ins_rep hi dn1 r1
      obtain rfl : u = Value.ref b := rx
      obtain ⟨dvs, rdv, hbd⟩ := hb
      refine getmeth_ok I1 hb' cl hm (lookup_none hm') ?_
      have rl : Rep X.K C io1 (Fz io1 H1) (.loc k1) (.ref b) := .loc hq
      have sp := spOf_of (n := 1 + is.length) (vs := .ref b :: is.map V.int) (ds := .loc k1 :: is.map D.int) (by simp; omega) dn1 (.cons rl (reps_ints is)) (p1 : Post X.K C (RepR X.K C) W sg io1 H1 (g (.loc k1 :: ([] ++ is.map D.int)) S1) Q)
      have rall : Vals (V.ref b :: is.map V.int) (Value.ref b :: dvs) := .cons (show L2.RelV (V.ref b) (Value.ref b) from rfl) rdv
      have hl2 : ([Value.ref b] ++ dvs).length = ps.length := by
        have z := rall.length
        rw [F.len _ _ _ _ sp] at z
        exact z.symm
      exact PySem.W.callWith_K0 (first := [.ref b]) I1.kIn hm.kp (run_cal F tk (hbd s1 [.ref b] I1.kIn hl2) I1 rall sp)
    · exact p1.elim
end
def isC (k : Nat) : Nat → Bool := fun c => decide (c = k)
theorem isC_h {K : PySem.W.Frag} {C : Nat → Addr} {k : Nat} {f : Str} (h1 : Cls K (C k)) (h2 : NoAttr K (C k) f) : ∀ c, isC k c = true → Cls K (C c) ∧ NoAttr K (C c) f := fun c h => by
  simp only [isC, decide_eq_true_eq] at h
  subst h
  exact ⟨h1, h2⟩
inductive Atm where
  | b (x : Bool)
  | i (x : Int)
def Atm.D : Atm → D
  | .b x => .bl x
  | .i x => .int x
def Atm.V : Atm → V
  | .b x => .bl x
  | .i x => .int x
def Atm.val : Atm → Tok → Value
  | .b x, _ => .bool x
  | .i x, t => .int x t
def atVal : List Atm → List Tok → List Value
  | a :: as, t :: ts => a.val t :: atVal as ts
  | _, _ => []
def KTupA (K : PySem.W.Frag) (a : Addr) (xs : List Atm) : Prop := ∃ (ts : List Tok) (n : Nat) (sl : Array (Option Value)), ts.length = xs.length ∧ K.lookup a = some ⟨.type "tuple", none, .seq (atVal xs ts).toArray n, sl⟩ ∧ xs.length ≤ 1000
theorem at_vals : ∀ {xs : List Atm} {ts : List Tok}, ts.length = xs.length → Vals (xs.map Atm.V) (atVal xs ts) ∧ (atVal xs ts).length = xs.length
  | [], [], _ => ⟨.nil, rfl⟩
  | a :: xs, t :: ts, h => by
    obtain ⟨h1, h2⟩ := at_vals (xs := xs) (ts := ts) (by simpa using h)
    refine ⟨.cons ?_ h1, by simp [atVal, h2]⟩
    cases a with
    | b x => exact rfl
    | i x => exact ⟨t, rfl⟩
theorem reps_atm {K : PySem.W.Frag} {C : Nat → Addr} {io : Io} {F : Hp} : ∀ xs : List Atm, Reps K C io F (xs.map Atm.D) (xs.map Atm.V)
  | [] => .nil
  | .b x :: xs => .cons (.bl x) (reps_atm xs)
  | .i x :: xs => .cons (.int x) (reps_atm xs)
theorem ee_gA {X : Cx} {C : Nat → Addr} {W : WX} {pos : Pos} {x : Str} {xs : List Atm} (h : ∃ a, X.mg x = some (.ref a) ∧ KTupA X.K a xs) (hg : Gl X x := by rfl) (hd : (x == ("__debug__" : Str)) = false := by decide) : PE X (.Name x pos) (tE X.K C W (rCon (.tup (xs.map Atm.D)))) :=
  let ⟨a, hm, ts, n, sl, hl, e, hz⟩ := h
  ee_glob (v := .ref a) hg hm rfl (fun io F => .tup (.inr ⟨_, _, n, e, rfl, rfl, by
    have := (at_vals hl).2
    rw [List.size_toArray, this, sizeLine_eq]; omega, by simpa using (at_vals hl).1⟩) (reps_atm xs)) hd
end Ev
namespace Ev
open PySem PySem.Spec L2 PyProof.Rows
section
variable {X : Cx} {C : Nat → Addr} {W : WX}
def keysI : List Key → Option (List Int)
  | [] => some []
  | .inl x :: ks => (keysI ks).map (x :: ·)
  | .inr _ :: _ => none
theorem keysI_map : ∀ {ks : List Key} {xs : List Int}, keysI ks = some xs → ks = xs.map Sum.inl
  | [], _, h => by cases h; rfl
  | .inl x :: ks, _, h => by
    obtain ⟨ys, h1, rfl⟩ := Option.map_eq_some_iff.mp h
    rw [keysI_map h1]; rfl
  | .inr _ :: _, _, h => by cases h
def insI (x : Int) : List Int → List Int
  | [] => [x]
  | y :: ys => if x ≤ y then x :: y :: ys else y :: insI x ys
def isortI : List Int → List Int
  | [] => []
  | x :: xs => insI x (isortI xs)
theorem insI_perm (x : Int) : ∀ xs : List Int, (insI x xs).Perm (x :: xs)
  | [] => .refl _
  | y :: ys => by
    unfold insI
    split
    · exact .refl _
    · exact ((insI_perm x ys).cons y).trans (.swap x y ys)
theorem isortI_perm : ∀ xs : List Int, (isortI xs).Perm xs
  | [] => .refl _
  | x :: xs => (insI_perm x _).trans ((isortI_perm xs).cons x)
theorem insI_pw {x : Int} : ∀ {xs : List Int}, xs.Pairwise (· ≤ ·) → (insI x xs).Pairwise (· ≤ ·)
  | [], _ => by simp [insI]
  | y :: ys, h => by
    rw [List.pairwise_cons] at h
    unfold insI
    split
    · rename_i hxy
      rw [List.pairwise_cons]
      refine ⟨fun z hz => ?_, List.pairwise_cons.mpr h⟩
      rcases List.mem_cons.mp hz with rfl | hz
      · exact hxy
      · exact Int.le_trans hxy (h.1 z hz)
    · rename_i hxy
      rw [List.pairwise_cons]
      refine ⟨fun z hz => ?_, insI_pw h.2⟩
      rcases List.mem_cons.mp ((insI_perm x ys).mem_iff.mp hz) with rfl | hz
      · omega
      · exact h.1 z hz
theorem isortI_pw : ∀ xs : List Int, (isortI xs).Pairwise (· ≤ ·)
  | [] => .nil
  | x :: xs => insI_pw (isortI_pw xs)
theorem pwI_eq : ∀ {xs ys : List Int}, xs.Perm ys → xs.Pairwise (· ≤ ·) → ys.Pairwise (· ≤ ·) → xs = ys
  | [], ys, h, _, _ => by rw [h.nil_eq]
  | x :: xs, [], h, _, _ => by cases h.symm.nil_eq
  | x :: xs, y :: ys, h, h1, h2 => by
    rw [List.pairwise_cons] at h1 h2
    have e : x = y := by
      have a : x ∈ y :: ys := h.mem_iff.mp List.mem_cons_self
      have b : y ∈ x :: xs := h.mem_iff.mpr List.mem_cons_self
      rcases List.mem_cons.mp a with e | a
      · exact e
      · rcases List.mem_cons.mp b with e | b
        · exact e.symm
        · have := h1.1 y b
          have := h2.1 x a
          omega
    subst e
    rw [pwI_eq (List.perm_cons x |>.mp h) h1.2 h2.2]
theorem isortI_eq {xs ys : List Int} (h : ys.Perm xs) (hs : ys.Pairwise (· ≤ ·)) : ys = isortI xs := pwI_eq (h.trans (isortI_perm xs).symm) hs (isortI_pw xs)
def sortX (S : Store) : List D → Option D
  | [d] => match dictAt S d with
    | some p => match keysI p.1 with
      | some ks => if ks.length < 64 then some (.lst ((isortI ks).map D.int)) else none
      | none => sortD S [d]
    | none => none
  | _ => none
theorem sortX_ok (hc : X.calm = true) : CallD X C (.builtin "sorted") sortX := fun pins s sg H xs us Q I rx ⟨io, S, as, d, dn, ra, e, q⟩ => by
  unfold sortX at e
  split at e
  · rename_i d0
    split at e
    · rename_i p e1
      split at e
      · rename_i zs e2
        split at e
        · rename_i hz
          cases e
          obtain ⟨v, rfl, rv⟩ := reps1 ra
          obtain ⟨a, kvs, rfl, ea, hk, rs⟩ := dictAt_rep (ks := p.1) (xs := p.2) e1 dn rv
          refine call_sortedDI hc pins s sg H _ us Q I rx ⟨a, kvs, zs, rfl, .inl ea, by rw [hk]; exact keysI_map e2, hz, fun ys p hp hs hn => ?_⟩
          rw [isortI_eq hp hs]
          obtain ⟨x1, d1, r1⟩ := new_lst dn (reps_ints (isortI zs)) hn
          exact q _ _ io x1 d1 r1
        · cases e
      · exact sortD_ok hc pins s sg H xs us Q I rx ⟨io, S, _, d, dn, ra, e, q⟩
    · cases e
  · cases e
theorem et_if2 {c1 c2 : Expr} {r1 r2 : RT} (h1 : PT X c1 (tT X.K C W r1)) (h2 : PT X c2 (tT X.K C W r2)) : PTs X [c1, c2] (tT X.K C W (rAndT r1 r2)) := by
  refine ⟨fun pins s sg H Q I h => ?_⟩
  have h3 := tR.seq1 (R := EqR) (r := r1) (fun e k S => if k = true then r2 e S else .ok false S) h fun _ _ => rfl
  simp only [List.forIn_cons, if_true]
  refine wpAny_bind (wpAny_bind (thn (h1.run pins s sg H _ I h3) fun k s1 ⟨H1, I1, e, S, io, k', dn, sl, ek, p⟩ => wpAny_pure ?_))
  cases ek
  dsimp only
  cases k with
  | true =>
    simp only [if_true]
    exact wpAny_bind (wpAny_bind (thn (h2.run pins s1 sg H1 Q I1 ⟨e, S, io, dn, sl, p⟩) fun k2 s2 q2 => wpAny_pure (wpAny_pure q2)))
  | false =>
    simp only [Bool.false_eq_true, if_false]
    exact wpAny_bind (wpAny_pure (wpAny_pure ⟨H1, I1, p false H1 io (Ext.refl _ _) dn rfl⟩))
end
end Ev
namespace Ev
open PySem PySem.Spec L2 PyProof.Rows
section
variable {X : Cx} {C : Nat → Addr} {W : WX}
def eqL (S : Store) (a b : D) : Option D := match a, b with
  | .lst (_ :: _), .lst [] => some (.bl false)
  | a, b => eqD S a b
def neL (S : Store) (a b : D) : Option D := match a, b with
  | .lst (_ :: _), .lst [] => some (.bl true)
  | a, b => neD S a b
@[simp] theorem eqL_nil (S : Store) (xs : List D) : eqL S (.lst xs) (.lst []) = some (.bl xs.isEmpty) := by
  cases xs with
  | nil => simp [eqL, PyData.eqvAll]
  | cons x xs => rfl
@[simp] theorem neL_nil (S : Store) (xs : List D) : neL S (.lst xs) (.lst []) = some (.bl (!xs.isEmpty)) := by
  cases xs with
  | nil => simp [neL, PyData.eqvAll]
  | cons x xs => rfl
def leDS (S : Store) (a b : D) : Option D := match a, b with
  | .str x, .str y => some (.bl (!decide (y.cps.toList < x.cps.toList)))
  | a, b => leD S a b
@[simp] theorem leDS_str (S : Store) (x y : Str) : leDS S (.str x) (.str y) = some (.bl (!decide (y.cps.toList < x.cps.toList))) := (rfl)
@[simp] theorem leDS_int (S : Store) (i j : Int) : leDS S (.int i) (.int j) = some (.bl (decide (i ≤ j))) := (rfl)
end
end Ev
namespace Ev
open PySem PySem.Spec L2 PyProof.Rows
section
variable {X : Cx} {C : Nat → Addr} {W : WX}
def rBad : RE := fun _ _ => .bad
def sBad : RS := fun _ _ => .bad
@[simp] theorem rBad_eq (e : Env) (S : Store) : rBad e S = .bad := (rfl)
@[simp] theorem sBad_eq (e : Env) (S : Store) : sBad e S = .bad := (rfl)
end
section
variable {X : Cx} {C : Nat → Addr} {W : WX}
def getL (S : Store) (x y : D) : Option D := match x, y with
  | .loc n, .int k => match S[n]? with
    | some (.lst xs) => atI xs k
    | _ => none
  | _, _ => none
def sAugIx (f : Store → D → D → Option D) (o i a : RE) : RS := fun e S => (o e S).fl e fun x S1 => (i e S1).fl e fun y S2 => match getL S2 x y with
  | none => .bad
  | some v => (a e S2).fl e fun z S3 => match f S3 v z with
    | none => .bad
    | some w => match putIx S3 x y w with
      | none => .bad
      | some S4 => .nx e S4
@[simp] theorem sAugIx_eq (f : Store → D → D → Option D) (o i a : RE) (e : Env) (S : Store) : sAugIx f o i a e S = (o e S).fl e fun x S1 => (i e S1).fl e fun y S2 => match getL S2 x y with
  | none => .bad
  | some v => (a e S2).fl e fun z S3 => match f S3 v z with
    | none => .bad
    | some w => match putIx S3 x y w with
      | none => .bad
      | some S4 => .nx e S4 := (rfl)
end
end Ev
namespace Ev
open PySem PySem.Spec L2 PyProof.Rows
def allO (f : D → Option D) : List D → Option (List D)
  | [] => some []
  | d :: ds => (f d).bind fun x => (allO f ds).bind fun xs => some (x :: xs)
def dz (n : Nat) (S : Store) : Nat → D → Option D
  | k + 1, .tup xs => (allO (dz n S k) xs).bind fun ys => some (.tup ys)
  | k + 1, .lst xs => (allO (dz n S k) xs).bind fun ys => some (.lst ys)
  | k + 1, .loc m => if m < n then some (.loc m) else match S[m]? with
    | some (.lst xs) => (allO (dz n S k) xs).bind fun ys => some (.lst ys)
    | _ => none
  | _, .non => some .non
  | _, .bl b => some (.bl b)
  | _, .int i => some (.int i)
  | _, .str x => some (.str x)
  | _, _ => none
def D.atom : D → Bool
  | .non => true
  | .bl _ => true
  | .int _ => true
  | .str _ => true
  | _ => false
def D.flT : Nat → D → Bool
  | _, .loc _ => true
  | k + 1, .tup xs => xs.all (D.flT k)
  | _, d => D.atom d
def D.flat (d : D) : Bool := D.flT 6 d
def MO.flat : MO → Bool
  | .lst xs => xs.all D.flat
  | .dK _ xs => xs.all D.flat
  | .dT _ xs => xs.all D.flat
  | .dL _ xs => xs.all D.flat
  | .ins _ _ xs => xs.all D.flat
open Classical in
noncomputable def zc (n : Nat) (g : List D → Store → Res D) (ds : List D) (S : Store) : Res D :=
  match allO (dz n S 12) ds with
  | none => .bad
  | some ds' => if lowS n (S.take n) = true ∧ (S.take n).all MO.flat = true then
      match g ds' (S.take n) with
      | .ok d S' => if S' = S.take n ∧ D.atom d = true then .ok d S else .bad
      | .err x S' => if S' = S.take n ∧ x.xs.all D.atom = true then .err x S else .bad
      | .bad => .bad
    else .bad
noncomputable def rCallZ (i : Nat) (g : List D → Store → Res D) (rs : RA) : RE := fun e S => (rs e S).bind fun ds S1 => match e[i]? with
  | some (some (.loc n)) => zc n g ds S1
  | _ => .bad
@[simp] theorem rCallZ_eq (i : Nat) (g : List D → Store → Res D) (rs : RA) (e : Env) (S : Store) : rCallZ i g rs e S = (rs e S).bind fun ds S1 => match e[i]? with
  | some (some (.loc n)) => zc n g ds S1
  | _ => .bad := (rfl)
end Ev
namespace Ev
open PySem PySem.Spec L2 PyProof.Rows
end Ev
namespace Ev
open PySem PySem.Spec L2 PyProof.Rows
end Ev
namespace Ev
open PySem PySem.Spec L2 PyProof.Rows
def hitsD (S : Store) (q : List Key × List D) : List Key → List D → Option Bool
  | k :: ks, x :: xs => match lkK q.1 q.2 k with
    | none => some false
    | some y => (eqB S x y).bind fun e => (hitsD S q ks xs).bind fun b => some (e && b)
  | _, _ => some true
def eqKB (S : Store) (a b : D) : Option Bool := (dictAt S a).bind fun p => (dictAt S b).bind fun q => if p.1.length = q.1.length then hitsD S q p.1 p.2 else some false
def eqKD (S : Store) (a b : D) : Option D := (eqKB S a b).bind fun k => some (.bl k)
section
variable {X : Cx} {C : Nat → Addr}
theorem hits_of {pins : List (Addr × Obj)} {s : Shared} {sg : L2.St} {H : Hp} {io : Io} {S : Store} {A : Around} (I : Inv X pins sg H s) (dn : Den X.K C io S H) (hu : A.units + 62 < cLine) {q : List Key × List D} {kb : List (Key × V)} {vb : List (Key × Value)} (rb : KV kb vb) (eb : kb.map (·.1) = q.1) (db : Reps X.K C io (Fz io H) q.2 (kb.map (·.2))) :
    ∀ {ka : List (Key × V)} {va : List (Key × Value)} {xs : List D} {r : Bool}, KV ka va → Reps X.K C io (Fz io H) xs (ka.map (·.2)) → hitsD S q (ka.map (·.1)) xs = some r → PySem.W.KeqHits A s vb va r := by
  intro ka va xs r ra
  unfold KV at ra
  induction ra generalizing xs r with
  | nil =>
    intro rx h
    cases rx
    cases h
    exact .nil
  | @cons p w ps ws h t ih =>
    intro rx hh
    cases rx with
    | @cons x xs' _ _ r0 rr =>
    obtain ⟨h1, h2⟩ := h
    obtain ⟨k, v⟩ := w
    have h1' : p.1 = k := h1
    simp only [List.map_cons, hitsD] at hh
    have lk := lk_rep (k := p.1) db
    rw [eb] at lk
    cases e : lkK q.1 q.2 p.1 with
    | none =>
      rw [e] at hh
      cases hh
      have vn := lk.2 e
      have rr := rb.val p.1
      rw [vn] at rr
      rw [h1'] at rr
      exact .miss rr.none_of
    | some y =>
      rw [e] at hh
      obtain ⟨e1, h3, hh⟩ := bind_some' hh
      obtain ⟨b1, h4, hh⟩ := bind_some' hh
      cases hh
      obtain ⟨vy, vy1, vy2⟩ := lk.1 y e
      have rr2 := rb.val p.1
      rw [vy1, h1'] at rr2
      obtain ⟨uy, hy, ry⟩ := rr2.some_of
      obtain ⟨pa, g1, h3⟩ := bind_some' h3
      obtain ⟨pb, g2, h3⟩ := bind_some' h3
      cases h3
      obtain ⟨⟨as, r1⟩, b1', l1⟩ := reads_of I dn g1 r0 h2
      obtain ⟨⟨bs, r2⟩, b2', l2⟩ := reads_of I dn g2 vy2 ry
      have hl : min pa.depth pb.depth ≤ 60 := Nat.le_trans (Nat.min_le_left _ _) l1
      exact .hit hy (SeqAt.eqAt_plain pa pb A s _ _ _ _ r1 r2 b1' b2' (by omega)) (ih rr h4)
theorem kv_len {ka : List (Key × V)} {va : List (Key × Value)} (h : KV ka va) : ka.length = va.length := h.length
theorem hits_res {pins : List (Addr × Obj)} {s : Shared} {sg : L2.St} {H : Hp} {io : Io} {S : Store} {a b : D} {x y : V} {k : Bool} (I : Inv X pins sg H s) (dn : Den X.K C io S H) (hu : X.A.units + 64 < cLine) (ra : Rep X.K C io (Fz io H) a x) (rb : Rep X.K C io (Fz io H) b y) (e : eqKB S a b = some k) :
    ∃ la lb va vb r, x = .ref la ∧ y = .ref lb ∧ (la == sysModules) = false ∧ (lb == sysModules) = false ∧ s.heap.DictOf (mixKind X.prog X.w) la va ∧ s.heap.DictOf (mixKind X.prog X.w) lb vb ∧ (va.length = vb.length → PySem.W.KeqHits X.A.in1 s vb va r) ∧ (va.length == vb.length && r) = k := by
  obtain ⟨p, e1, e⟩ := bind_some' e
  obtain ⟨q, e2, e⟩ := bind_some' e
  obtain ⟨la, ka, rfl, ha, ea, da⟩ := dictAt_rep e1 dn ra
  obtain ⟨lb, kb, rfl, hb, eb, db⟩ := dictAt_rep e2 dn rb
  obtain ⟨_, ya, va, ra', dda⟩ := dk_of I.hok ha
  obtain ⟨_, yb, vb, rb', ddb⟩ := dk_of I.hok hb
  have la1 := kv_len ra'
  have lb1 := kv_len rb'
  have lp : p.1.length = va.length := by rw [← ea, List.length_map]; exact la1
  have lq : q.1.length = vb.length := by rw [← eb, List.length_map]; exact lb1
  have hu' : X.A.in1.units + 62 < cLine := by
    have : X.A.in1.units ≤ X.A.units + 1 := Nat.le_refl _
    omega
  split at e
  · rename_i hl
    rw [← ea] at e
    refine ⟨la, lb, va, vb, k, rfl, rfl, ya, yb, dda, ddb, fun _ => hits_of I dn hu' rb' eb db ra' da e, ?_⟩
    have : va.length = vb.length := by omega
    simp [this]
  · rename_i hl
    cases e
    refine ⟨la, lb, va, vb, false, rfl, rfl, ya, yb, dda, ddb, fun z => absurd (by omega) hl, ?_⟩
    simp
theorem eqKD_ok (hu : X.A.units + 64 < cLine) : OpD X C (compareOp .Eq) eqKD := by
  intro pins s sg H x y v u Q I rx ry ⟨io, S, a, b, d, dn, ra, rb, e, q⟩
  obtain ⟨k, e1, e2⟩ := bind_some' e
  cases e2
  obtain ⟨la, lb, va, vb, r, rfl, rfl, ya, yb, dda, ddb, hh, er⟩ := hits_res I dn hu ra rb e1
  obtain rfl : v = Value.ref la := rx
  obtain rfl : u = Value.ref lb := ry
  refine PySem.W.keq_eq (knd := mixKind X.prog X.w) (r := r) ya yb dda ddb (by omega) hh ?_
  rw [er]
  exact ⟨.bl _, H, I, rfl, q _ H io (Ext.refl _ _) dn (.bl _)⟩
end
end Ev
namespace Ev
open PySem PySem.Spec L2 PyProof.Rows
end Ev
namespace Ev
open PySem PySem.Spec L2 PyProof.Rows
end Ev
namespace Ev
open PySem PySem.Spec L2 PyProof.Rows
structure InsC (K : PySem.W.Frag) (D : Addr) : Prop where
  cl : Cls K D
  ha : PySem.W.findIn K (.ref D) "__class__" = some (some (.builtin "object.__class__"))
  hn : PySem.W.specialIn K (.builtin "object.__class__") "__get__" = some (some (.builtin "getset_descriptor.__get__"))
  ht : PySem.W.takesIn K (.builtin "object.__class__") = some true
  hm : PySem.W.mroIn K D (.type "object") = some true
def isiO (ko : Nat → Option Bool) (kq : TK → Option Bool) (S : Store) (d : D) : Option D := match insAt S d with
  | some (c, _, _) => (ko c).bind fun b => some (.bl b)
  | none => isiQ kq S d
section
variable {X : Cx} {C : Nat → Addr} {W : WX} {a e2 : Expr} {ra : RE} {c : V} {cv : Value} {kq : TK → Option Bool} {ko : Nat → Option Bool} {pos p : Pos}
theorem ee_isiO (ha : PE X a (tE X.K C W ra)) (hg : Gl X "isinstance") (hm : X.mg "isinstance" = none) (hc : PE X e2 (tC c)) (hk : ClsV c cv) (hq : ∀ k b, kq k = some b → PySem.W.kitOne X.K (tkV C k) cv = some b) (hX : ∀ n b, kq (.inr n) = some b → ExcC X.K (C n))
    (ho : ∀ n b, ko n = some b → InsC X.K (C n) ∧ PySem.W.kitOne X.K (.ref (C n)) cv = some b)
    (hv0 : bootBuiltins "isinstance" = some (.builtin "isinstance") := by decide +kernel)
    (he : starEach [a, e2] X.env = (false, eval a X.env) :: starEach [e2] X.env := by rfl) (he2 : starEach [e2] X.env = [(false, eval e2 X.env)] := by rfl) : PE X (.Call (.Name "isinstance" p) [a, e2] [] pos) (tE X.K C W (rUn (isiO ko kq) ra)) := by
  have hC : CallR X (.builtin "isinstance") (fun xs H Q => ∃ x io S d z, xs = [x, c] ∧ Den X.K C io S H ∧ Rep X.K C io (Fz io H) d x ∧ isiO ko kq S d = some z ∧ (∀ b, z = .bl b → Q (.bl b) H)) := by
    intro pins s sg H xs us Q I r ⟨x, io, S, d, z, hx, dn, rd, ez, q⟩
    subst hx
    obtain ⟨u1, u2, rfl, r1, r2⟩ := vals2 r
    have e2 := hk.eq r2
    subst e2
    unfold isiO at ez
    split at ez
    · rename_i c' ns xs' hi
      obtain ⟨b, eb, ez⟩ := bind_some' ez
      cases ez
      obtain ⟨E, ko1⟩ := ho _ _ eb
      obtain ⟨n, a', dx, fs, rfl, rfl, h1, h2, h3, h4⟩ := ins_rep hi dn rd
      obtain ⟨P, Z, p, hx⟩ := kit_of I r1 (.base (.ins h3 E.cl E.ha E.hn E.ht E.hm))
      exact PySem.W.kia_one Z I.kIn p ko1 hx fun tk => ⟨.bl b, H, I.tok tk, rfl, q b rfl⟩
    · obtain ⟨k, ek, ez⟩ := bind_some' ez
      obtain ⟨b, eb, ez⟩ := bind_some' ez
      cases ez
      obtain ⟨P, Z, p, hx⟩ := kitD (fun n e => hX n b (by rw [← e]; exact eb)) ek I dn rd r1
      exact PySem.W.kia_one Z I.kIn p (hq k b eb) hx fun tk => ⟨.bl b, H, I.tok tk, rfl, q b rfl⟩
  exact (pe_callB hC hg hm hv0 (pa_cons ha (pa_cons hc pa_nil he2) he) (by decide) (by decide) he (by rw [he2]; rfl)).imp fun sg H Q h => (tR.seq1 (R := RepR X.K C) (fun _ d S => ofO (isiO ko kq S d) S) h fun _ _ => rfl).mono fun v H1 ⟨e, S, io, d, dn, s, r, p⟩ => by
    obtain ⟨z, ez, p⟩ := p.ofO
    exact ⟨v, io, S, d, z, rfl, dn, r, ez, fun b hb => by subst hb; exact p _ H1 io (Ext.refl _ _) dn (.bl _)⟩
end
theorem kit_same {K : PySem.W.Frag} {a : Addr} : PySem.W.kitOne K (.ref a) (.ref a) = some true := by
  unfold PySem.W.kitOne
  rw [if_pos (by simp)]
end Ev
namespace Ev
open PySem PySem.Spec L2 PyProof.Rows
def lkF (n : Nat) (S : Store) : D → Option D
  | .loc m => if m < n then none else match S[m]? with
    | some (.dK ks xs) => if lows n xs = true then some (.dcf ks xs) else none
    | _ => none
  | _ => none
def frzK (n : Nat) : Res D → Res D
  | .ok d S => match lkF n S d with
    | some d' => if lowS n (S.take n) = true then .ok d' (S.take n) else .bad
    | none => .bad
  | .err x S => if (lows n x.xs && lowS n (S.take n)) = true then .err x (S.take n) else .bad
  | .bad => .bad
def rFrzK (a : RE) : RE := fun e S => frzK S.length (a e S)
def keyDD : Key → D
  | .inl i => .int i
  | .inr x => .str x
theorem key_rep {K : PySem.W.Frag} {C : Nat → Addr} {io : Io} {F : Hp} (k : Key) : Rep K C io F (keyDD k) (kV k) := by
  cases k with
  | inl i => exact .int i
  | inr x => exact .str x
def keysF : D → Option (List D)
  | .dcf ks _ => some (ks.map keyDD)
  | _ => none
def itemsF : D → Option (List D)
  | .dcf ks xs => some (List.zipWith (fun k x => .tup [keyDD k, x]) ks xs)
  | _ => none
def rKeys (a : RE) : RA := fun e S => (a e S).bind fun d S1 => ofO (keysF d) S1
def rItems (a : RE) : RA := fun e S => (a e S).bind fun d S1 => ofO (itemsF d) S1
def rMulM (a b : RE) : RE := fun e S => (a e S).bind fun x S1 => (b e S1).bind fun y S2 => match asL S2 x, y with
  | some xs, .int k => if 0 ≤ k ∧ k < 2 ^ 62 ∧ xs.length * k.toNat ≤ sizeLine then .ok (.loc S2.length) (S2 ++ [.lst (repL k.toNat xs)]) else .bad
  | _, _ => .bad
@[simp] theorem rMulM_eq {a b : RE} {e : Env} {S : Store} : rMulM a b e S = (a e S).bind fun x S1 => (b e S1).bind fun y S2 => match asL S2 x, y with
  | some xs, .int k => if 0 ≤ k ∧ k < 2 ^ 62 ∧ xs.length * k.toNat ≤ sizeLine then .ok (.loc S2.length) (S2 ++ [.lst (repL k.toNat xs)]) else .bad
  | _, _ => .bad := (rfl)
@[simp] theorem rKeys_eq {a : RE} {e : Env} {S : Store} : rKeys a e S = (a e S).bind fun d S1 => ofO (keysF d) S1 := (rfl)
@[simp] theorem rItems_eq {a : RE} {e : Env} {S : Store} : rItems a e S = (a e S).bind fun d S1 => ofO (itemsF d) S1 := (rfl)
@[simp] theorem rFrzK_eq {a : RE} {e : Env} {S : Store} : rFrzK a e S = frzK S.length (a e S) := (rfl)
end Ev
namespace Ev
open PySem PySem.Spec L2 PyProof.Rows
end Ev
namespace Ev
open PySem PySem.Spec L2 PyProof.Rows
def pairsK : List D → Option (List Key × List D)
  | [] => some ([], [])
  | .tup [k, x] :: r => (Ev.keyOf k).bind fun q => (pairsK r).bind fun p => some (q :: p.1, x :: p.2)
  | _ => none
def dictL (S : Store) : List D → Option D
  | [d] => (asL S d).bind fun ds => (pairsK ds).bind fun p => some (.dct (updKs p.1 p.2 ([], [])).1 (updKs p.1 p.2 ([], [])).2)
  | _ => none
section
variable {X : Cx} {C : Nat → Addr} {W : WX}
theorem pairsK_rep {K : PySem.W.Frag} {io : Io} {F : Hp} : ∀ {ds : List D} {vs : List V} {p : List Key × List D}, pairsK ds = some p → Reps K C io F ds vs →
    ∃ (ps : List Addr) (kvs : List (Key × V)), vs = ps.map V.ref ∧ PySem.Paired (fun q (kv : Key × V) => SqT K F q [kV kv.1, kv.2]) ps kvs ∧ kvs.map (·.1) = p.1 ∧ Reps K C io F p.2 (kvs.map (·.2))
  | [], _, _, h, .nil => by cases h; exact ⟨[], [], rfl, .nil, rfl, .nil⟩
  | .tup [k, x] :: ds, _, _, h, .cons r rs => by
    obtain ⟨q, h1, h⟩ := bind_some' h
    obtain ⟨p, h2, h⟩ := bind_some' h
    cases h
    obtain ⟨ps, kvs, e1, e2, e3, e4⟩ := pairsK_rep h2 rs
    cases r with
    | @tup t _ _ hq rr =>
      obtain ⟨w1, w2, rfl, r1, r2⟩ := reps2 rr
      obtain rfl := Ev.keyOf_rep h1 r1
      exact ⟨t :: ps, (q, w2) :: kvs, by rw [e1]; rfl, .cons hq e2, by rw [List.map_cons, e3], .cons r2 e4⟩
theorem paired_mono {α β : Type} {F G : α → β → Prop} (h : ∀ a b, F a b → G a b) : ∀ {l : List α} {m : List β}, PySem.Paired F l m → PySem.Paired G l m
  | _, _, .nil => .nil
  | _, _, .cons p r => .cons (h _ _ p) (paired_mono h r)
theorem dictL_ok (hc : X.calm = true) : CallD X C (.type "dict") dictL := fun pins s sg H xs us Q I rx ⟨io, S, as, d, dn, ra, e, q⟩ => by
  unfold dictL at e
  split at e
  · obtain ⟨ds, e1, e⟩ := bind_some' e
    obtain ⟨p, e2, e⟩ := bind_some' e
    cases e
    obtain ⟨v, rfl, rv⟩ := reps1 ra
    obtain ⟨a, vs, rfl, hq, rs⟩ := asL_rep e1 dn rv
    obtain ⟨ps, kvs, rfl, hp, k1, k2⟩ := pairsK_rep e2 rs
    refine call_dictP hc pins s sg H _ us Q I rx ⟨a, ps, kvs, rfl, hq, paired_mono (fun _ _ h => sqT_same (Fz_same _ _) h) hp, fun b hb => ?_⟩
    obtain ⟨m1, m2⟩ := upd_rep (acc := []) (p := ([], [])) k2 rfl .nil
    rw [k1] at m1 m2
    refine q _ _ io (Ext.new dn hb) (dn.new hb) (.dct (by rw [Fz_out (dn.fresh hb)]; exact upd_same) m1 rfl (m2.ext (Ext.new dn hb)))
  · cases e
end
section
variable {S : Store}
@[simp] theorem isi_int_dcf (ks : List Key) (xs : List D) : isiD "int" S (.dcf ks xs) = some (.bl false) := isiD_of rfl (by decide +kernel)
@[simp] theorem isi_bool_dcf (ks : List Key) (xs : List D) : isiD "bool" S (.dcf ks xs) = some (.bl false) := isiD_of rfl (by decide +kernel)
@[simp] theorem isi_str_dcf (ks : List Key) (xs : List D) : isiD "str" S (.dcf ks xs) = some (.bl false) := isiD_of rfl (by decide +kernel)
@[simp] theorem isi_tuple_dcf (ks : List Key) (xs : List D) : isiD "tuple" S (.dcf ks xs) = some (.bl false) := isiD_of rfl (by decide +kernel)
@[simp] theorem isi_list_dcf (ks : List Key) (xs : List D) : isiD "list" S (.dcf ks xs) = some (.bl false) := isiD_of rfl (by decide +kernel)
@[simp] theorem isi_dict_dcf (ks : List Key) (xs : List D) : isiD "dict" S (.dcf ks xs) = some (.bl true) := isiD_of rfl (by decide +kernel)
end
end Ev
namespace Ev
open PySem PySem.Spec PyProof.Rows HotX
end Ev
namespace Ev
open PySem PySem.Spec L2
section
variable {X : Cx} {C : Nat → Addr} {W : WX} {pos : Pos}
theorem Cal.h {k : Nat} {f : Addr} {fd : FuncData} {ps : List Str} {sp : Sp} (F : L2H.FnH X.prog X.w X.K X.mg X.base (L2N.CX X.prog X.w) k f fd ps sp) (hr : L2H.RoomH k X.A) (hc : L2H.HotC X) : Cal X f fd ps sp :=
  ⟨F.len, fun pins sg s H args us vs Q E I b r h => by
    obtain ⟨p, hot, hp⟩ := hc
    have P1 := I.pin p (List.mem_append_left _ hp)
    exact F.run X.A X.stack s H args us vs Q E p hr hot ⟨P1.1, P1.2.1, fun hm => (List.mem_cons.mp (I.stkSub p.1 hm)).elim P1.2.2.1 P1.2.2.2.1, P1.2.2.2.2⟩ I.env0 b r h⟩
end
end Ev
namespace Ev
open PySem PySem.Spec L2
theorem _root_.L2.PE.ex {X : Cx} {e : Expr} {p : Nat → Prop} {t : Nat → TE} (h : ∀ c, p c → PE X e (t c)) : PE X e (fun sg H Q => ∃ c, p c ∧ t c sg H Q) := ⟨fun pins s sg H Q I ⟨c, hc, q⟩ => (h c hc).run pins s sg H Q I q⟩
end Ev
namespace Ev
open PySem PySem.Spec L2
theorem _root_.L2H.RoomH.units {k : Nat} {A : Around} (r : L2H.RoomH k A) : A.units + 64 < cLine := by have := r.un; omega
theorem _root_.L2H.PIH.imp {X : Cx} {tg iter : Expr} {w w' : TI} (h : L2H.PIH X tg iter w) (hi : ∀ sg H R, w' sg H R → w sg H R) : L2H.PIH X tg iter w' := ⟨fun pins s sg H R I q => h.run pins s sg H R I (hi _ _ _ q)⟩
end Ev
namespace Ev
open PySem PySem.Spec L2 PyProof.Rows
end Ev
namespace Ev
open PySem PySem.Spec L2 PyProof.Rows
open PySem.AutoSeq1 (wpAny_loadPart')
open PySem.MeetsSeq PySem.MeetsSeq2 PySem.MeetsSeq3 PySem.SeqAt
section
variable {prog : Program} {w : World} {A : Around} {E : Value → Shared → Prop} {s : Shared} {K : PySem.W.Frag} {x y C L f : Addr} {h₀ : Heap} {m : Str → Option Value} {ox : Obj} {od : Option Obj} {tb : Value}
open PySem.W in
theorem ne_K {Q : Value → Shared → Prop} (hu : A.units + 1 < cLine) (F : Fr h₀ L s.heap m) (X0 : K.In h₀) (I : InstAt s.heap x ox C od) (hb : Looks (model prog w) s.heap (typeOf (.ref y)) tb) (hn : notFirst K C tb = true)
    (hs : findIn K (.ref C) "__eq__" = some (some (.ref f))) (hf : isFn K (.ref f) = true) (hne : findIn K (.ref C) "__ne__" = some (some (.builtin "object.__ne__"))) (hob : subIn K (.ref C) (.type "object") = some true)
    (h : wpAny (model prog w) A.in1 (call (.ref f) [.ref x, .ref y]) (fun v s' => ∃ k, v = .bool k ∧ Q (.bool (!k)) s') E s) : wpAny (model prog w) A (richCompare .NotEq (.ref x) (.ref y)) Q E s := by
  have Xs := X0.keeps F.keep
  have ent : wpAny (model prog w) A.in1 (Builtin.«object.__ne__» ⟨[.ref x, .ref y], []⟩) (fun r s' => ∃ k : Bool, r = .done (.ret (.bool k)) ∧ Q (.bool k) s') E s := by
    unfold Builtin.«object.__ne__»
    repeat (first
      | with_reducible refine wpAny_cRoomFor hu ?_
      | (refine wpAny_bind (m := callSpecialIfBound? (.ref x) (Str.ofString "__eq__") [.ref y]) (ifBound_K Xs I hs hf (wpAny_mono h (fun r s' hr => by
          obtain ⟨b, rfl, hq⟩ := hr
          repeat (first | exact ⟨_, rfl, hq⟩ | exact wpAny_pure ⟨_, rfl, hq⟩ | exact wpAny_truthy_bool ⟨_, rfl, hq⟩ | (refine wpAny_bind (m := truthy (.bool _)) (wpAny_truthy_bool ?_)) | wp_step)) fun _ _ e => e)))
      | wp_step)
  have chk : ∀ {R : Unit → Shared → Prop}, R () s → wpAny (model prog w) A.in1 (checkBuiltinCall "object.__ne__" ⟨[.ref x, .ref y], []⟩) R E s := by
    intro R hR
    simp only [checkBuiltinCall, PySem.F.cmpKind_ne, PySem.F.cmpSplit_ne]
    refine wpAny_bind ?_
    unfold isInstance
    refine wpAny_bind (I.type.here ((looks_subIn Xs hob).here ?_))
    repeat wp_step
    exact hR
  have one : wpAny (model prog w) A (tryCompare (.ref x) "__ne__" (.ref y)) (fun r s' => ∃ v, r = some v ∧ Q v s') E s := by
    unfold tryCompare
    simp only [callSpecialIfBound?, bindSpecialIfBound?]
    refine wpAny_bind (wpAny_holding (wpAny_bind (wpAny_bind (wpAny_bind (I.type.here ((looks_findIn Xs hne).here ?_))))))
    simp only [PySem.F.cmp_object.ne.bind]
    have fin : wpAny (model prog w) A (call (.builtin "object.__ne__") [.ref x, .ref y]) (fun v s' => ∃ k : Bool, v = .bool k ∧ Q (.bool k) s') E s := by
      refine wpAny_call (codeAny_call_builtin PySem.F.cmp_object.ne.plain PySem.F.cmpEntry_ne (chk ?_))
      refine wpAny_mono ent (fun r s' hr => ?_) fun _ _ e => e
      obtain ⟨k, rfl, hq⟩ := hr
      exact ⟨k, rfl, hq⟩
    have fin3 : wpAny (model prog w) A (call (.builtin "object.__ne__") ([.ref x] ++ [.ref y]) >>= fun v => pure (some v)) (fun a s' => wpAny (model prog w) A (match a with
        | some Value.notImplemented => pure none
        | none => pure none
        | some v => pure (some v)) (fun r s' => ∃ v, r = some v ∧ Q v s') E s') E s :=
      wpAny_bind (wpAny_mono fin (fun v s' hv => by
        obtain ⟨k, rfl, hq⟩ := hv
        exact wpAny_pure (wpAny_pure ⟨_, rfl, hq⟩)) fun _ _ e => e)
    refine wpAny_bind (wpAny_askSetting (wpAny_ite ?_))
    split
    · exact wpAny_bind (wpAny_pure (wpAny_pure fin3))
    · exact wpAny_tryCatch (wpAny_bind (wpAny_pure (wpAny_pure fin3)))
  unfold richCompare
  simp only [oneThing_ref]
  refine wpAny_holding (wpAny_bind (wpAny_cRoomFor (by omega) ?_))
  refine wpAny_bind (I.type.here (wpAny_bind (hb.here ?_)))
  have last : wpAny (model prog w) A (tryCompare (.ref x) "__ne__" (.ref y)) (fun r s' => ∃ v, r = some v ∧ Q v s') E s := one
  split
  · rename_i q
    have e : subIn K tb (.ref C) = some false := by
      rcases Bool.or_eq_true_iff.mp hn with z | z
      · rw [beq_iff_eq.mp z] at q; simp at q
      · exact beq_iff_eq.mp z
    refine wpAny_bind ((looks_subIn Xs e).here ?_)
    simp only [Bool.false_eq_true, if_false]
    refine wpAny_bind (wpAny_mono last (fun r s' z => ?_) fun _ _ e => e)
    obtain ⟨v, rfl, hq⟩ := z
    exact wpAny_pure hq
  · refine wpAny_bind (wpAny_pure ?_)
    simp only [Bool.false_eq_true, if_false]
    refine wpAny_bind (wpAny_mono last (fun r s' z => ?_) fun _ _ e => e)
    obtain ⟨v, rfl, hq⟩ := z
    exact wpAny_pure hq
end
end Ev
namespace Ev
open PySem PySem.Spec L2 PyProof.Rows
open PySem.AutoSeq1 (wpAny_loadPart')
open PySem.MeetsSeq PySem.MeetsSeq2 PySem.MeetsSeq3 PySem.SeqAt
def dictR (S : Store) : D → Option (List Key × List D)
  | .dcf ks xs => some (ks, xs)
  | d => dictAt S d
theorem dictR_rep {K : PySem.W.Frag} {C : Nat → Addr} {io : Io} {S : Store} {H : Hp} {d : D} {v : V} {p : List Key × List D} (h : dictR S d = some p) (dn : Den K C io S H) (r : Rep K C io (Fz io H) d v) :
    ∃ a kvs, v = .ref a ∧ Rd H a (.dK kvs) ∧ kvs.map (·.1) = p.1 ∧ Reps K C io (Fz io H) p.2 (kvs.map (·.2)) := by
  cases r with
  | dcf q e1 e2 rs =>
    cases h
    subst e2
    exact ⟨_, _, rfl, .inr ⟨_, Fz_same _ _ _ _ q⟩, e1, rs⟩
  | dct q e1 e2 rs =>
    have h' : dictAt S (.dct _ _) = some (p.1, p.2) := h
    obtain ⟨a, kvs, e, h1, h2, h3⟩ := dictAt_rep h' dn (.dct q e1 e2 rs)
    exact ⟨a, kvs, e, .of h1, h2, h3⟩
  | loc q =>
    have h' : dictAt S (.loc _) = some (p.1, p.2) := h
    obtain ⟨a, kvs, e, h1, h2, h3⟩ := dictAt_rep h' dn (.loc q)
    exact ⟨a, kvs, e, .of h1, h2, h3⟩
  | _ => cases h
def ofOS : Option (D × Store) → Res D
  | some (d, S) => .ok d S
  | none => .bad
def OpS (X : Cx) (C : Nat → Addr) (g : Value → Value → Sem Value) (f : Store → D → D → Option (D × Store)) : Prop :=
  OpR X g (fun x y H Q => ∃ io S a b d S', Den X.K C io S H ∧ Rep X.K C io (Fz io H) a x ∧ Rep X.K C io (Fz io H) b y ∧ f S a b = some (d, S') ∧ ∀ v H' io', Ext io H io' H' → Den X.K C io' S' H' → Rep X.K C io' (Fz io' H') d v → Q v H')
def rBinS (f : Store → D → D → Option (D × Store)) (a b : RE) : RE := fun e S => (a e S).bind fun x S1 => (b e S1).bind fun y S2 => ofOS (f S2 x y)
theorem post_ofOS {K : PySem.W.Frag} {C : Nat → Addr} {W : WX} {sg : L2.St} {io : Io} {H : Hp} {o : Option (D × Store)} {Q : VK} (h : Post K C (RepR K C) W sg io H (ofOS o) Q) : ∃ d S', o = some (d, S') ∧ ∀ v H' io', Ext io H io' H' → Den K C io' S' H' → Rep K C io' (Fz io' H') d v → Q v H' := by
  cases o with
  | some p => exact ⟨p.1, p.2, rfl, h⟩
  | none => exact h.elim
section
variable {X : Cx} {C : Nat → Addr} {W : WX} {a b : Expr} {ra rb : RE} {pos : Pos}
theorem ee_cmpS {op : CmpOp} {f : Store → D → D → Option (D × Store)} (ho : OpS X C (compareOp op) f) (ha : PE X a (tE X.K C W ra)) (hb : PE X b (tE X.K C W rb)) (hm : behindInMarks op b = false) : PE X (.Compare a [op] [b] pos) (tE X.K C W (rBinS f ra rb)) :=
  (pe_cmpR ho ha hb hm).imp fun sg H Q h => (tR.seq2 repM (fun _ x y S => ofOS (f S x y)) h fun _ _ => rfl).mono fun x H1 h1 => h1.mono fun y H2 ⟨e, S, io, x1, y1, d, s, r1, r2, p⟩ => by
    obtain ⟨z, S', ez, p⟩ := post_ofOS p
    exact ⟨io, S, x1, y1, z, S', d, r1, r2, ez, p⟩
theorem et_cmpS {op : CmpOp} {f : Store → D → D → Option (D × Store)} (ho : OpS X C (compareOp op) f) (ha : PE X a (tE X.K C W ra)) (hb : PE X b (tE X.K C W rb)) (hm : behindInMarks op b = false) : PT X (.Compare a [op] [b] pos) (tT X.K C W (rTest (rBinS f ra rb))) :=
  (pt_cmpR ho ha hb hm).imp (tTest_of fun sg H Q h => (tR.seq2 repM (fun _ x y S => ofOS (f S x y)) h fun _ _ => rfl).mono fun x H1 h1 => h1.mono fun y H2 ⟨e, S, io, x1, y1, d, s, r1, r2, p⟩ => by
    obtain ⟨z, S', ez, p⟩ := post_ofOS p
    exact ⟨io, S, x1, y1, z, S', d, r1, r2, ez, p⟩)
end
def eqO (c : Nat) (g : List D → Store → Res D) (ne : Bool) (S : Store) (a b : D) : Option (D × Store) := match insAt S a, insAt S b with
  | some (c1, _, _), some (c2, _, _) => if c1 = c ∧ c2 = c then (match g [a, b] S with
    | .ok (.bl r) S' => some (.bl (r != ne), S')
    | _ => none) else none
  | _, _ => none
section
variable {X : Cx} {C : Nat → Addr} {c : Nat} {fa : Addr} {fd : FuncData} {ps : List Str} {g : List D → Store → Res D}
theorem eqO_pre {pins : List (Addr × Obj)} {s : Shared} {sg : L2.St} {H : Hp} {io : Io} {S S' : Store} {a b d : D} {x y : V} {v u : Value} {ne : Bool} (I : Inv X pins sg H s) (dn : Den X.K C io S H) (ra : Rep X.K C io (Fz io H) a x) (rb : Rep X.K C io (Fz io H) b y) (rx : RelV x v) (ry : RelV y u) (e : eqO c g ne S a b = some (d, S')) :
    ∃ r la lb mA od mB od', d = .bl (r != ne) ∧ g [a, b] S = .ok (.bl r) S' ∧ x = .ref la ∧ y = .ref lb ∧ v = .ref la ∧ u = .ref lb ∧ PySem.W.InstAt s.heap la mA (C c) od ∧ PySem.W.InstAt s.heap lb mB (C c) od' := by
  unfold eqO at e
  cases ha : insAt S a with
  | none => rw [ha] at e; cases e
  | some pa =>
  cases hb' : insAt S b with
  | none => rw [ha, hb'] at e; cases e
  | some pb =>
  obtain ⟨c1, n1, x1⟩ := pa
  obtain ⟨c2, n2, x2⟩ := pb
  rw [ha, hb'] at e
  dsimp only at e
  split at e
  · rename_i hc
    obtain ⟨rfl, rfl⟩ := hc
    split at e
    · rename_i r S2 hg
      cases e
      obtain ⟨ka, la, dx, fs, rfl, rfl, _, _, hA, _, _, _⟩ := ins_rep ha dn ra
      obtain ⟨kb, lb, dy, gs, rfl, rfl, _, _, hB, _, _, _⟩ := ins_rep hb' dn rb
      obtain rfl : v = Value.ref la := rx
      obtain rfl : u = Value.ref lb := ry
      obtain ⟨mA, J, _⟩ := ins_get I.hok hA
      obtain ⟨mB, J', _⟩ := ins_get I.hok hB
      obtain ⟨od, J, _⟩ := J.look
      obtain ⟨od', J', _⟩ := J'.look
      exact ⟨r, la, lb, _, od, _, od', rfl, hg, rfl, rfl, rfl, rfl, J, J'⟩
    · cases e
  · cases e
theorem eqO_sp {sg : L2.St} {H : Hp} {io : Io} {S S' : Store} {a b : D} {la lb : Addr} {r : Bool} (dn : Den X.K C io S H) (ra : Rep X.K C io (Fz io H) a (.ref la)) (rb : Rep X.K C io (Fz io H) b (.ref lb)) (hg : g [a, b] S = .ok (.bl r) S') :
    spOf X.K C 2 g [.ref la, .ref lb] H (fun z H' => z = .bl r ∧ ∃ io', Ext io H io' H' ∧ Den X.K C io' S' H') (WE (fun _ _ _ _ => False) sg) := by
  have hsp : Post X.K C (RepR X.K C) (fun _ _ _ _ => False) sg io H (g [a, b] S) (fun z H' => z = .bl r ∧ ∃ io', Ext io H io' H' ∧ Den X.K C io' S' H') := by
    rw [hg]
    intro z H' io' ex d' rz
    cases rz
    exact ⟨rfl, io', ex, d'⟩
  exact spOf_of (n := 2) (vs := [.ref la, .ref lb]) rfl dn (.cons ra (.cons rb .nil)) hsp
structure CalI (X : Cx) (f : Addr) (fd : FuncData) (ps : List Str) (sp : Sp) : Prop where
  len : ∀ vs H Q E, sp vs H Q E → vs.length = ps.length
  run : ∀ (pins : List (Addr × Obj)) (sg : L2.St) (s : Shared) (H : Hp) (args : Args) (us : List Value) (vs : List V) (Q : VK) (E : XK), L2.Inv X pins sg H s → BindsTo s fd args (ps.zip us) → Vals vs us → sp vs H Q E →
    codeAny (model X.prog X.w) X.A.in1 (.call (.ref f) args) (CR (L2N.CX X.prog X.w) X.stack X.prog X.w H s Q E) s
theorem CalI.ok {X : Cx} {k : Nat} {f : Addr} {fd : FuncData} {ps : List Str} {sp : Sp} (F : FnOk X.prog X.w X.K X.mg X.base (L2N.CX X.prog X.w) k f fd ps sp) (hr : Room (k + 1) X.A) : CalI X f fd ps sp :=
  ⟨F.len, fun pins sg s H args us vs Q E I => F.run X.A.in1 X.stack s H args us vs Q E hr.in1 I.env0.in1⟩
theorem run_calI {W : WX} {pins : List (Addr × Obj)} {sg : L2.St} {H : Hp} {s : Shared} {Q : VK} {us zs : List Value} {kw : List (Str × Value)} {vs : List V} {sp : Sp} (F : CalI X fa fd ps sp) (tk : L2N.Takes X W) (hb : BindsTo s fd ⟨us, kw⟩ (ps.zip zs)) (I : L2.Inv X pins sg H s) (r : Vals vs zs) (h : sp vs H Q (WE W sg)) :
    wpAny (model X.prog X.w) X.A.in1 (call (.ref fa) us kw) (EP X pins sg Q) X.xe s := by
  refine wpAny_call (codeAny_mono (F.run pins sg s H _ zs vs Q (WE W sg) I hb r h) fun r s' hq => ?_)
  cases r with
  | error e => exact L2N.passAt tk sg pins H s e s' I hq
  | ok fl =>
    cases fl with
    | ret u => exact I.after hq
    | next => exact hq.elim
    | brk => exact hq.elim
    | cont => exact hq.elim
theorem eqO_ok (hs : PySem.W.findIn X.K (.ref (C c)) "__eq__" = some (some (.ref fa))) (hf : PySem.W.isFn X.K (.ref fa) = true) (F : Cal X fa fd ps (spOf X.K C 2 g)) (hb : Binds X.K fd ps []) (hu : X.A.units + 64 < cLine) : OpS X C (compareOp .Eq) (eqO c g false) := by
  intro pins s sg H x y v u Q I rx ry ⟨io, S, a, b, d, S', dn, ra, rb, e, q⟩
  obtain ⟨r, la, lb, mA, od, mB, od', rfl, hg, rfl, rfl, rfl, rfl, J, J'⟩ := eqO_pre I dn ra rb rx ry e
  obtain ⟨m, hF⟩ := I.fr
  show wpAny (model X.prog X.w) X.A (richCompare .Eq (.ref la) (.ref lb)) _ _ _
  refine PySem.W.cmp_K (op := .Eq) (tb := .ref (C c)) (by omega) hF I.ok.mod.kin J J'.type (by simp [PySem.W.notFirst]) hs hf ?_
  have sp := eqO_sp (sg := sg) dn ra rb hg
  have hl2 : ([Value.ref la, Value.ref lb]).length = ps.length := by
    rw [← F.len _ _ _ _ sp]; rfl
  have bb := hb s [.ref la, .ref lb] I.kIn (by rw [List.append_nil]; exact hl2)
  rw [List.append_nil] at bb
  refine wpAny_mono (run_cal F Ev.takes0 bb I (.cons (show L2.RelV (V.ref la) (Value.ref la) from rfl) (.cons (show L2.RelV (V.ref lb) (Value.ref lb) from rfl) .nil)) sp) (fun w s' hw => ?_) fun _ _ z => z
  obtain ⟨z, H', I', rz, ez, io', ex, d'⟩ := hw
  subst ez
  cases rz
  refine ⟨.bl r, H', I', rfl, ?_⟩
  have := q (.bl (r != false)) H' io' ex d' (.bl _)
  simpa using this
theorem neO_ok (hs : PySem.W.findIn X.K (.ref (C c)) "__eq__" = some (some (.ref fa))) (hf : PySem.W.isFn X.K (.ref fa) = true) (hne : PySem.W.findIn X.K (.ref (C c)) "__ne__" = some (some (.builtin "object.__ne__"))) (hob : PySem.W.subIn X.K (.ref (C c)) (.type "object") = some true) (F : CalI X fa fd ps (spOf X.K C 2 g)) (hb : Binds X.K fd ps []) (hu : X.A.units + 64 < cLine) : OpS X C (compareOp .NotEq) (eqO c g true) := by
  intro pins s sg H x y v u Q I rx ry ⟨io, S, a, b, d, S', dn, ra, rb, e, q⟩
  obtain ⟨r, la, lb, mA, od, mB, od', rfl, hg, rfl, rfl, rfl, rfl, J, J'⟩ := eqO_pre I dn ra rb rx ry e
  obtain ⟨m, hF⟩ := I.fr
  show wpAny (model X.prog X.w) X.A (richCompare .NotEq (.ref la) (.ref lb)) _ _ _
  refine ne_K (tb := .ref (C c)) (by omega) hF I.ok.mod.kin J J'.type (by simp [PySem.W.notFirst]) hs hf hne hob ?_
  have sp := eqO_sp (sg := sg) dn ra rb hg
  have hl2 : ([Value.ref la, Value.ref lb]).length = ps.length := by
    rw [← F.len _ _ _ _ sp]; rfl
  have bb := hb s [.ref la, .ref lb] I.kIn (by rw [List.append_nil]; exact hl2)
  rw [List.append_nil] at bb
  refine wpAny_mono (run_calI F Ev.takes0 bb I (.cons (show L2.RelV (V.ref la) (Value.ref la) from rfl) (.cons (show L2.RelV (V.ref lb) (Value.ref lb) from rfl) .nil)) sp) (fun w s' hw => ?_) fun _ _ z => z
  obtain ⟨z, H', I', rz, ez, io', ex, d'⟩ := hw
  subst ez
  cases rz
  refine ⟨r, rfl, .bl (!r), H', I', rfl, ?_⟩
  have := q (.bl (r != true)) H' io' ex d' (.bl _)
  simpa using this
end
theorem new_dK {K : PySem.W.Frag} {C : Nat → Addr} {io : Io} {S : Store} {H : Hp} {p : Addr} {kvs : List (Key × V)} {xs : List D} (d : Den K C io S H) (hp : H p = none) (r : Reps K C io (Fz io H) xs (kvs.map (·.2))) :
    Ext io H (io.add p) (upd H p (.dK kvs)) ∧ Den K C (io.add p) (S ++ [.dK (kvs.map (·.1)) xs]) (upd H p (.dK kvs)) ∧ Rep K C (io.add p) (Fz (io.add p) (upd H p (.dK kvs))) (.loc S.length) (.ref p) := by
  refine ⟨Ext.loc hp, d.loc hp ⟨kvs, upd_same, rfl, r.ext (Ext.loc hp)⟩, .loc ?_⟩
  rw [← d.len]
  show (io.l ++ [p])[io.l.length]? = some p
  rw [List.getElem?_append_right (Nat.le_refl _)]; simp
def rDictM (as : RA) : RE := fun e S => (as e S).bind fun xs S1 => match xs with
  | [d] => (match dictR S1 d with
    | some p => .ok (.loc S1.length) (S1 ++ [.dK p.1 p.2])
    | none => .bad)
  | _ => .bad
theorem ee_dictM {X : Cx} {C : Nat → Addr} {W : WX} {e : Expr} {rs : RA} {pos p : Pos} (hg : Gl X "dict") (hm : X.mg "dict" = none) (ha : PA X [e] (tA X.K C W rs))
    (he : starEach [e] X.env = (false, eval e X.env) :: starEach [] X.env := by rfl) (hpl : (backTo pos (starEach [] X.env)).any (·.1) = false := by rfl) : PE X (.Call (.Name "dict" p) [e] [] pos) (tE X.K C W (rDictM rs)) :=
  (pe_callTy call_dictD hg hm (by decide +kernel) ha (by decide) (by decide) he hpl).imp fun sg H Q h => (tR.seq1 (R := RepsR X.K C) (fun _ xs S1 => match xs with
  | [d] => (match dictR S1 d with
    | some p => .ok (.loc S1.length) (S1 ++ [.dK p.1 p.2])
    | none => .bad)
  | _ => .bad) h fun _ _ => rfl).mono fun vs H1 ⟨e, S, io, x1, dn, s, r1, p⟩ => by
    match x1, p with
    | [], p => exact p.elim
    | _ :: _ :: _, p => exact p.elim
    | [d], p =>
      obtain ⟨v, rfl, h⟩ := reps1 r1
      dsimp only at p
      cases h1 : dictR S d with
      | none => rw [h1] at p; exact p.elim
      | some ys =>
        rw [h1] at p
        obtain ⟨a, kvs, rfl, hq, ek, rs⟩ := dictR_rep h1 dn h
        refine ⟨a, kvs, rfl, hq, fun l hl => ?_⟩
        obtain ⟨x, d', r'⟩ := new_dK dn hl rs
        rw [ek] at d'
        exact p _ _ _ x d' r'
end Ev
namespace Ev
open PySem PySem.Spec L2
def Fl.ner : Fl → Fl
  | .nx e S => .nx e S
  | .rt d S => .rt d S
  | _ => .bad
abbrev Hd := (Nat → Option Bool) × Option Nat × RS
def catchO (oi : Option Nat) (su : RS) (x : Exn) (e : Env) (S : Store) : Fl := match oi with
  | some i => (su (e.set i (some (.exn x.c x.ns x.xs))) S).clr i
  | none => (su e S).ner
def catchM : List Hd → Exn → Env → Store → Fl
  | [], x, e, S => .er x e S
  | h :: r, x, e, S => match h.1 x.c with
    | some true => catchO h.2.1 h.2.2 x e S
    | some false => catchM r x e S
    | none => .bad
def sTryM (hs : List Hd) (body : RS) : RS := fun e S => match body e S with
  | .er x e1 S1 => catchM hs x e1 S1
  | f => f
@[simp] theorem sTryM_eq (l : List Hd) (body : RS) (e : Env) (S : Store) : sTryM l body e S = match body e S with
  | .er x e1 S1 => catchM l x e1 S1
  | f => f := (rfl)
end Ev
namespace Ev
open PySem PySem.Spec L2
def rCalM (f : Store → List D → Option (List D)) (a : RA) : RE := fun e S => (a e S).bind fun xs S1 => match f S1 xs with
  | some ds => .ok (.loc S1.length) (S1 ++ [.lst ds])
  | none => .bad
@[simp] theorem rCalM_eq (f : Store → List D → Option (List D)) (a : RA) (e : Env) (S : Store) : rCalM f a e S = (a e S).bind fun xs S1 => match f S1 xs with
  | some ds => .ok (.loc S1.length) (S1 ++ [.lst ds])
  | none => .bad := (rfl)
end Ev
namespace Ev
open PySem PySem.Spec L2 PyProof.Rows
def rPrsK : List (Key × RE) → Env → Store → Res (List D)
  | [], _, S => .ok [] S
  | p :: l, e, S => (p.2 e S).bind fun d S1 => (rPrsK l e S1).bind fun ds S2 => .ok (d :: ds) S2
def dispK : List Key → List D → List Key × List D → List Key × List D
  | k :: ks, d :: ds, p => dispK ks ds (putKs p.1 p.2 k d)
  | _, _, p => p
def rDispKF (l : List (Key × RE)) : RE := fun e S => (rPrsK l e S).calm.bind fun ds S1 => .ok (.dct (dispK (l.map (·.1)) ds ([], [])).1 (dispK (l.map (·.1)) ds ([], [])).2) S1
def rDispKM (l : List (Key × RE)) : RE := fun e S => (rPrsK l e S).calm.bind fun ds S1 => .ok (.loc S1.length) (S1 ++ [.dK (dispK (l.map (·.1)) ds ([], [])).1 (dispK (l.map (·.1)) ds ([], [])).2])
section
variable {e : Env} {S : Store}
@[simp] theorem rPrsK_nil : rPrsK [] e S = .ok [] S := (rfl)
@[simp] theorem rPrsK_cons (p : Key × RE) (l : List (Key × RE)) : rPrsK (p :: l) e S = (p.2 e S).bind fun d S1 => (rPrsK l e S1).bind fun ds S2 => .ok (d :: ds) S2 := (rfl)
@[simp] theorem rDispKF_eq (l : List (Key × RE)) : rDispKF l e S = (rPrsK l e S).calm.bind fun ds S1 => .ok (.dct (dispK (l.map (·.1)) ds ([], [])).1 (dispK (l.map (·.1)) ds ([], [])).2) S1 := (rfl)
@[simp] theorem rDispKM_eq (l : List (Key × RE)) : rDispKM l e S = (rPrsK l e S).calm.bind fun ds S1 => .ok (.loc S1.length) (S1 ++ [.dK (dispK (l.map (·.1)) ds ([], [])).1 (dispK (l.map (·.1)) ds ([], [])).2]) := (rfl)
end
end Ev
namespace Ev
open PySem PySem.Spec L2 PyProof.Rows
def keysOf : List D → Option (List Key)
  | [] => some []
  | d :: ds => (keyOf d).bind fun k => (keysOf ds).bind fun ks => some (k :: ks)
def hasT (ks : List (List Key)) (k : List Key) : Bool := ks.any fun k' => decide (k' = k)
def repT : List (List Key) → List D → List Key → D → List D
  | k' :: ks, x :: xs, k, v => (if k' = k then v else x) :: repT ks xs k v
  | _, xs, _, _ => xs
def putKT (ks : List (List Key)) (xs : List D) (k : List Key) (v : D) : List (List Key) × List D := if hasT ks k = true then (ks, repT ks xs k v) else (ks ++ [k], xs ++ [v])
def rDctTM : RE := fun _ S => .ok (.loc S.length) (S ++ [.dT [] []])
def putT (S : Store) (x : D) (ys : List D) (v : D) : Option Store := match x with
  | .loc n => match S[n]? with
    | some (.dT ks xs) => (keysOf ys).bind fun k => if ks.length < sizeLine then some (S.set n (.dT (putKT ks xs k v).1 (putKT ks xs k v).2)) else none
    | _ => none
  | _ => none
def sPutT (a o : RE) (i : RA) : RS := fun e S => (a e S).fl e fun v S1 => (o e S1).fl e fun x S2 => (i e S2).fl e fun ys S3 => match putT S3 x ys v with
  | some S4 => .nx e S4
  | none => .bad
def keysT : D → Option (List D)
  | .dcT ks _ => some (ks.map fun k => .tup (k.map keyDD))
  | _ => none
def rKeysT (a : RE) : RA := fun e S => (a e S).bind fun d S1 => ofO (keysT d) S1
section
variable {e : Env} {S : Store}
@[simp] theorem rDctTM_eq : rDctTM e S = .ok (.loc S.length) (S ++ [.dT [] []]) := (rfl)
@[simp] theorem sPutT_eq (a o : RE) (i : RA) : sPutT a o i e S = (a e S).fl e fun v S1 => (o e S1).fl e fun x S2 => (i e S2).fl e fun ys S3 => match putT S3 x ys v with | some S4 => .nx e S4 | none => .bad := (rfl)
@[simp] theorem rKeysT_eq (a : RE) : rKeysT a e S = (a e S).bind fun d S1 => ofO (keysT d) S1 := (rfl)
end
end Ev
namespace Ev
open PySem PySem.Spec L2 PyProof.Rows
def unlk (n : Nat) : Res D → Res D
  | .ok d S => match S[n]? with
    | some (.dL ks xs) => .ok d (S.set n (.dK ks xs))
    | _ => .bad
  | _ => .bad
def rLock (tg : Env → Store → Option Nat) (r : RE) : RE := fun e S => match tg e S with
  | some n => match S[n]? with
    | some (.dK ks xs) => unlk n (r e (S.set n (.dL ks xs)))
    | _ => .bad
  | none => .bad
section
variable {K : PySem.W.Frag} {C : Nat → Addr}
theorem Fz_k {io : Io} {k' : List (Addr × (Obj × HO))} {H : Hp} : Fz ⟨io.l, io.h, k'⟩ H = Fz io H := rfl
theorem Rep.atk {io : Io} {k' : List (Addr × (Obj × HO))} {F : Hp} {d : D} {v : V} (r : Rep K C io F d v) : Rep K C ⟨io.l, io.h, k'⟩ F d v := r.mono (io := io) (io' := ⟨io.l, io.h, k'⟩) (fun _ _ h => h) fun _ _ h => h
theorem Reps.atk {io : Io} {k' : List (Addr × (Obj × HO))} {F : Hp} {d : List D} {v : List V} (r : Reps K C io F d v) : Reps K C ⟨io.l, io.h, k'⟩ F d v := r.mono (io := io) (io' := ⟨io.l, io.h, k'⟩) (fun _ _ h => h) fun _ _ h => h
theorem den_swap {io : Io} {k' : List (Addr × (Obj × HO))} {S : Store} {H : Hp} {n : Nat} {a : Addr} {u : HO} {m : MO} (d : Den K C io S H) (hn : io.l[n]? = some a) (hk : ∀ b, b ≠ a → k'.lookup b = io.k.lookup b)
    (hm : ORep K C ⟨io.l, io.h, k'⟩ (upd H a u) a m) : Den K C ⟨io.l, io.h, k'⟩ (S.set n m) (upd H a u) := by
  have nd := List.nodup_append.mp d.nd
  have fz : Fz io (upd H a u) = Fz io H := Fz_upd_old (mem_all hn)
  refine ⟨by rw [List.length_set]; exact d.len, d.nd, fun j x b e1 e2 => ?_, fun q hq => ?_⟩
  · have e2' : io.l[j]? = some b := e2
    by_cases hj : j = n
    · subst hj
      rw [hn] at e2'
      cases e2'
      rw [List.getElem?_set_self (by have := (List.getElem?_eq_some_iff.mp hn).1; rw [← d.len]; exact this)] at e1
      cases e1
      exact hm
    · rw [List.getElem?_set_ne (Ne.symm hj)] at e1
      have e : b ≠ a := fun z => hj (nodup_at nd.1 e2' (z ▸ hn))
      have q := d.obj j x b e1 e2'
      have hb : upd H a u b = H b := upd_ne e
      cases x with
      | lst ds => obtain ⟨vs, h1, h2⟩ := q; exact ⟨vs, by rw [hb]; exact h1, by rw [Fz_k, fz]; exact h2.atk⟩
      | dK ks ds => obtain ⟨vs, h1, h2, h3⟩ := q; exact ⟨vs, by rw [hb]; exact h1, h2, by rw [Fz_k, fz]; exact h3.atk⟩
      | dT ks ds => obtain ⟨vs, h1, h2, h3⟩ := q; exact ⟨vs, by rw [hb]; exact h1, h2, by rw [Fz_k, fz]; exact h3.atk⟩
      | dL ks ds => obtain ⟨vs, o, h0, h1, h2, h3⟩ := q; exact ⟨vs, o, by rw [hk b e]; exact h0, by rw [hb]; exact h1, h2, by rw [Fz_k, fz]; exact h3.atk⟩
      | ins c ns ds =>
        obtain ⟨dx, fs, h1, h2, h3, h4⟩ := q
        have hx : dx ≠ a := fun z => by
          have := d.notOwn h2
          rw [z] at this
          exact this (mem_all hn)
        exact ⟨dx, fs, by rw [hb]; exact h1, by rw [upd_ne hx]; exact h2, h3, by rw [Fz_k, fz]; exact h4.atk⟩
  · have hq' : q ∈ io.h := hq
    have e : q.1 ≠ a := fun z => nd.2.2 a (List.mem_of_getElem? hn) q.1 (List.mem_map.mpr ⟨q, hq', rfl⟩) z.symm
    rw [upd_ne e]; exact d.hid q hq'
theorem look_self {a : Addr} {y : Obj × HO} {l : List (Addr × (Obj × HO))} : ((a, y) :: l).lookup a = some y := by simp [List.lookup]
theorem look_ne {a b : Addr} {y : Obj × HO} {l : List (Addr × (Obj × HO))} (h : b ≠ a) : ((a, y) :: l).lookup b = l.lookup b := by
  have : (b == a) = false := by simp [h]
  simp [List.lookup, this]
end
section
variable {X : Cx} {C : Nat → Addr} {W : WX}
theorem ee_lock {e : Expr} {r : RE} (tg : Env → Store → Option Nat) (he : PE X e (tE X.K C W r)) : PE X e (tE X.K C W (rLock tg r)) := (pe_lock he).imp fun sg H Q h => by
  obtain ⟨en, S, io, dn, sl, p⟩ := h
  unfold rLock at p
  cases ht : tg en S with
  | none => rw [ht] at p; exact p.elim
  | some n =>
    rw [ht] at p
    dsimp only at p
    split at p
    · rename_i ks xs es
      have hl : n < io.l.length := by rw [dn.len]; exact (List.getElem?_eq_some_iff.mp es).1
      obtain ⟨a, ha⟩ : ∃ a, io.l[n]? = some a := ⟨io.l[n], List.getElem?_eq_getElem hl⟩
      obtain ⟨kvs, h1, h2, h3⟩ := dn.obj n _ a es ha
      refine ⟨a, .dK kvs, h1, trivial, fun od => ?_⟩
      have fz : Fz io (upd H a (.frz od (.dK kvs))) = Fz io H := Fz_upd_old (mem_all ha)
      have d1 : Den X.K C ⟨io.l, io.h, (a, (od, .dK kvs)) :: io.k⟩ (S.set n (.dL ks xs)) (upd H a (.frz od (.dK kvs))) :=
        den_swap dn ha (fun b hb => look_ne hb) ⟨kvs, od, look_self, upd_same, h2, by rw [Fz_k, fz]; exact h3.atk⟩
      refine ⟨en, S.set n (.dL ks xs), ⟨io.l, io.h, (a, (od, .dK kvs)) :: io.k⟩, d1, ⟨sl.len, fun i d hd => ?_⟩, ?_⟩
      · obtain ⟨v, g1, g2⟩ := sl.get i d hd
        exact ⟨v, g1, by rw [Fz_k, fz]; exact g2.atk⟩
      · cases hr : r en (S.set n (.dL ks xs)) with
        | bad => rw [hr] at p; exact p
        | err y Sy => rw [hr] at p; exact p.elim
        | ok d S' =>
          rw [hr] at p
          dsimp only [unlk] at p
          split at p
          · rename_i ks' xs' es'
            intro b H' io' x d' rp
            have ha' : io'.l[n]? = some a := x.pre n a ha
            obtain ⟨kv', o', g0, g1, g2, g3⟩ := d'.obj n _ a es' ha'
            rw [x.kep, look_self] at g0
            cases g0
            refine ⟨g1, ?_⟩
            have fz' : Fz io' (upd H' a (.dK kvs)) = Fz io' H' := Fz_upd_old (mem_all ha')
            have hs : Same (Fz io H) (Fz io' H') := by
              have q := x.same
              rw [Fz_k, fz] at q
              exact q
            refine p b (upd H' a (.dK kvs)) ⟨io'.l, io'.h, io.k⟩ ⟨x.pre, x.hid, by show Same (Fz io H) (Fz io' (upd H' a (.dK kvs))); rw [fz']; exact hs, rfl⟩ ?_ (by show Rep X.K C ⟨io'.l, io'.h, io.k⟩ (Fz io' (upd H' a (.dK kvs))) d b; rw [fz']; exact rp.atk)
            exact den_swap d' ha' (fun b hb => by rw [x.kep, look_ne hb]) ⟨kvs, upd_same, g2, by rw [Fz_k, fz']; exact g3.atk⟩
          · exact p.elim
    · exact p.elim
end
def unlkS (n : Nat) : Fl → Fl
  | .nx e S => match S[n]? with
    | some (.dL ks xs) => .nx e (S.set n (.dK ks xs))
    | _ => .bad
  | _ => .bad
def sLock (tg : Env → Store → Option Nat) (r : RS) : RS := fun e S => match tg e S with
  | some n => match S[n]? with
    | some (.dK ks xs) => unlkS n (r e (S.set n (.dL ks xs)))
    | _ => .bad
  | none => .bad
section
variable {X : Cx} {C : Nat → Addr} {W : WX}
theorem s_lock {st : Stmt} {r : RS} (tg : Env → Store → Option Nat) (he : PS X st (tS X.K C W r)) : PS X st (tS X.K C W (sLock tg r)) := (ps_lock he).imp fun Dn sg H h => by
  obtain ⟨en, S, io, dn, sl, p⟩ := h
  unfold sLock at p
  cases ht : tg en S with
  | none => rw [ht] at p; exact p.elim
  | some n =>
    rw [ht] at p
    dsimp only at p
    split at p
    · rename_i ks xs es
      have hl : n < io.l.length := by rw [dn.len]; exact (List.getElem?_eq_some_iff.mp es).1
      obtain ⟨a, ha⟩ : ∃ a, io.l[n]? = some a := ⟨io.l[n], List.getElem?_eq_getElem hl⟩
      obtain ⟨kvs, h1, h2, h3⟩ := dn.obj n _ a es ha
      refine ⟨a, .dK kvs, h1, trivial, fun od => ?_⟩
      have fz : Fz io (upd H a (.frz od (.dK kvs))) = Fz io H := Fz_upd_old (mem_all ha)
      have d1 : Den X.K C ⟨io.l, io.h, (a, (od, .dK kvs)) :: io.k⟩ (S.set n (.dL ks xs)) (upd H a (.frz od (.dK kvs))) :=
        den_swap dn ha (fun b hb => look_ne hb) ⟨kvs, od, look_self, upd_same, h2, by rw [Fz_k, fz]; exact h3.atk⟩
      refine ⟨en, S.set n (.dL ks xs), ⟨io.l, io.h, (a, (od, .dK kvs)) :: io.k⟩, d1, ⟨sl.len, fun i d hd => ?_⟩, ?_⟩
      · obtain ⟨v, g1, g2⟩ := sl.get i d hd
        exact ⟨v, g1, by rw [Fz_k, fz]; exact g2.atk⟩
      · cases hr : r en (S.set n (.dL ks xs)) with
        | nx e' S' =>
          rw [hr] at p
          dsimp only [unlkS] at p
          split at p
          · rename_i ks' xs' es'
            intro sg' H' io' x d' sl'
            have ha' : io'.l[n]? = some a := x.pre n a ha
            obtain ⟨kv', o', g0, g1, g2, g3⟩ := d'.obj n _ a es' ha'
            rw [x.kep, look_self] at g0
            cases g0
            refine ⟨g1, ?_⟩
            have fz' : Fz io' (upd H' a (.dK kvs)) = Fz io' H' := Fz_upd_old (mem_all ha')
            have hs : Same (Fz io H) (Fz io' H') := by
              have q := x.same
              rw [Fz_k, fz] at q
              exact q
            refine p sg' (upd H' a (.dK kvs)) ⟨io'.l, io'.h, io.k⟩ ⟨x.pre, x.hid, by show Same (Fz io H) (Fz io' (upd H' a (.dK kvs))); rw [fz']; exact hs, rfl⟩ ?_ ⟨sl'.len, fun i d hd => ?_⟩
            · exact den_swap d' ha' (fun b hb => by rw [x.kep, look_ne hb]) ⟨kvs, upd_same, g2, by rw [Fz_k, fz']; exact g3.atk⟩
            · obtain ⟨v, q1, q2⟩ := sl'.get i d hd
              exact ⟨v, q1, by show Rep X.K C ⟨io'.l, io'.h, io.k⟩ (Fz io' (upd H' a (.dK kvs))) d v; rw [fz']; exact q2.atk⟩
          · exact p.elim
        | _ => rw [hr] at p; exact p.elim
    · exact p.elim
end
def itemK (S : Store) (x : D) (i : Nat) : Option (Option D) := match x with
  | .loc n => match S[n]? with
    | some (.dL ks _) => some (ks.map keyDD)[i]?
    | _ => none
  | _ => none
def okK (S : Store) : D → Bool
  | .loc n => match S[n]? with
    | some (.dL _ _) => true
    | _ => false
  | _ => false
def rLiveK (a : RE) : RE := fun e S => (a e S).bind fun d S1 => if okK S1 d = true then .ok d S1 else .bad
def WkK (K : PySem.W.Frag) (C : Nat → Addr) : Io → Hp → D → It → Prop := fun io F x J =>
  ∀ (io' : Io) (H' : Hp) (S' : Store), (∀ (n : Nat) (a : Addr), io.l[n]? = some a → io'.l[n]? = some a) → io'.k = io.k → Same F (Fz io' H') → Den K C io' S' H' →
    ∀ i, (itemK S' x i = some none → J.stop i H') ∧ ∀ d, itemK S' x i = some (some d) → J.go i H' ∧ ∀ v H'', J.yld i H' v H'' → Ext io' H' io' H'' ∧ Den K C io' S' H'' ∧ Rep K C io' (Fz io' H'') d v
theorem wkK_loc {K : PySem.W.Frag} {C : Nat → Addr} {io : Io} {F : Hp} {a : Addr} {n : Nat} {o : Obj} {kvs : List (Key × V)} (h : io.l[n]? = some a) (hk : io.k.lookup a = some (o, .dK kvs)) : WkK K C io F (.loc n) (Itk a o kvs) := fun io' H' S' hp hkk hs dn i => by
  have ha := hp n a h
  cases hS : S'[n]? with
  | none => exact ⟨fun z => by simp [itemK, hS] at z, fun d z => by simp [itemK, hS] at z⟩
  | some x =>
    cases x with
    | dL ks xs =>
      obtain ⟨kv', o', g0, g1, g2, g3⟩ := dn.obj n _ a hS ha
      rw [hkk, hk] at g0
      cases g0
      subst g2
      refine ⟨fun z => ?_, fun d z => ?_⟩
      · simp only [itemK, hS, Option.some.injEq] at z
        have := List.getElem?_eq_none_iff.mp z
        simp only [List.length_map] at this
        exact ⟨g1, this⟩
      · simp only [itemK, hS, Option.some.injEq] at z
        have hi : i < kvs.length := by
          have := (List.getElem?_eq_some_iff.mp z).1
          simpa using this
        refine ⟨⟨g1, hi⟩, fun u H'' y => ?_⟩
        obtain ⟨rfl, k, v, e1, rfl⟩ := y
        have : d = keyDD k := by
          simp [e1] at z
          exact z.symm
        subst this
        exact ⟨Ext.refl _ _, dn, key_rep k⟩
    | lst xs => exact ⟨fun z => by simp [itemK, hS] at z, fun d z => by simp [itemK, hS] at z⟩
    | dK ks xs => exact ⟨fun z => by simp [itemK, hS] at z, fun d z => by simp [itemK, hS] at z⟩
    | dT ks xs => exact ⟨fun z => by simp [itemK, hS] at z, fun d z => by simp [itemK, hS] at z⟩
    | ins c ns xs => exact ⟨fun z => by simp [itemK, hS] at z, fun d z => by simp [itemK, hS] at z⟩
theorem ei_keysK {X : Cx} {C : Nat → Addr} {W : WX} {tg a : Expr} {ra : RE} (ha : PE X a (tE X.K C W ra)) : PI X tg a (tR X.K C (WkK X.K C) W (rLiveK ra)) :=
  (pi_keys ha).imp fun sg H R h => (tR.seq1 (R := RepR X.K C) (fun _ d S1 => if okK S1 d = true then .ok d S1 else .bad) h fun _ _ => rfl).mono fun x H1 ⟨e, S, io, d, dn, s, r, p⟩ => by
    split at p
    · rename_i ok
      unfold okK at ok
      split at ok
      · split at ok
        · rename_i ks xs es
          cases r with
          | @loc _ b hl =>
          obtain ⟨kvs, o, g0, g1, g2, g3⟩ := dn.obj _ _ b es hl
          exact ⟨b, o, rfl, .inl ⟨kvs, g1, p _ H1 io (Ext.refl _ _) dn (wkK_loc hl g0)⟩⟩
        · cases ok
      · cases ok
    · exact p.elim
def lcK (t : Tg) (c : RT) (elt : RE) (e0 : Env) (x : D) : Nat → Nat → Store → Res (List D)
  | 0, _, _ => .bad
  | k + 1, i, S => match itemK S x i with
    | none => .bad
    | some none => .ok [] S
    | some (some d) => match bindT S d e0 t with
      | none => .bad
      | some e1 => (c e1 S).bind fun b S1 => if b = true then (elt e1 S1).bind fun y S2 => (lcK t c elt e0 x k (i + 1) S2).bind fun ys S3 => .ok (y :: ys) S3 else lcK t c elt e0 x k (i + 1) S1
def rLcK (fin : List D → Store → Res D) (a : RE) (t : Tg) (vs : List Nat) (c : RT) (elt : RE) (k : Nat) : RE := fun e S => (rLiveK a e S).bind fun x S1 => if k ≤ sizeLine then (lcK t c elt (wipeE e vs) x k 0 S1).calm.bind fin else .bad
section
variable {X : Cx} {C : Nat → Addr} {W : WX} {elt tg iter : Expr} {ifs : List Expr} {scope : Scope} {own : List (Str × Nat)} {pos : Pos} {ra : RE} {t : Tg} {rc : RT} {re : RE} {fin : List D → Store → Res D}
theorem lcK_read (k : Nat) (hfin : FinOk fin) (sg : L2.St) (H : Hp) (Q : VK) (vs : List Nat) (hv : ∀ i ∈ t.ixs, i ∈ vs) (h : tE X.K C W (rLcK fin ra t vs rc re k) sg H Q) :
    tLc (tR X.K C (WkK X.K C) W (rLiveK ra)) (gTg X.K C t)
      (tT X.K C (fun _ _ _ _ => False) rc) (tE X.K C (fun _ _ _ _ => False) re) vs sg H Q := by
  refine (tR.seq1 (R := WkK X.K C) (fun e x S1 => if k ≤ sizeLine then (lcK t rc re (wipeE e vs) x k 0 S1).calm.bind fin else .bad) h fun _ _ => rfl).mono fun J H1 ⟨e, S, io, x, dn, sl, wk, post⟩ => ?_
  split at post
  · rename_i hz
    intro p hp
    let Done : List D → Store → Prop := fun ys S2 => Post X.K C (RepR X.K C) W sg io H1 (fin ys S2) Q
    refine ⟨fun i m H' => m + i = k ∧ ∃ S' io' acc ys, (∀ (n : Nat) (a : Addr), io.l[n]? = some a → io'.l[n]? = some a) ∧ (io'.h = io.h ∧ io'.k = io.k) ∧ Same (Fz io H1) (Fz (io'.hide p (.lst acc)) H') ∧
        Den X.K C (io'.hide p (.lst acc)) S' H' ∧ Reps X.K C io' (Fz (io'.hide p (.lst acc)) H') ys acc ∧ acc.length ≤ i ∧ ∃ zs S2, lcK t rc re (wipeE e vs) x m i S' = .ok zs S2 ∧ Done (ys ++ zs) S2,
      ⟨k, rfl, S, io, [], [], fun _ _ h => h, ⟨rfl, rfl⟩, by rw [Fz_hide hp]; exact fun _ _ h => h, dn.hide hp rfl, .nil, Nat.le_refl _, ?_⟩, fun i m H' ⟨hm, S', io', acc, ys, h1, h2, h3, d', rs, hl, zs, S2, hlc, hd⟩ => ?_⟩
    · cases q : lcK t rc re (wipeE e vs) x k 0 S with
      | ok zs S2 => rw [q] at post; exact ⟨zs, S2, rfl, post⟩
      | err x S2 => rw [q] at post; exact post.elim
      | bad => rw [q] at post; exact post.elim
    obtain ⟨stop, step⟩ := wk (io'.hide p (.lst acc)) H' S' h1 h2.2 h3 d' i
    cases m with
    | zero => cases hlc
    | succ m =>
    unfold lcK at hlc
    cases hq : itemK S' x i with
    | none => rw [hq] at hlc; cases hlc
    | some o =>
    rw [hq] at hlc
    cases o with
    | none =>
      cases hlc
      rw [List.append_nil] at hd
      exact .inl ⟨stop hq, hfin X.K C W sg io io' H1 H' S' p ys acc Q h1 h2 h3 d' rs hd⟩
    | some d =>
      obtain ⟨go, yld⟩ := step d hq
      refine .inr ⟨go, fun H2 => ∃ S' io' acc ys, (∀ (n : Nat) (a : Addr), io.l[n]? = some a → io'.l[n]? = some a) ∧ (io'.h = io.h ∧ io'.k = io.k) ∧ Same (Fz io H1) (Fz (io'.hide p (.lst acc)) H2) ∧
        Den X.K C (io'.hide p (.lst acc)) S' H2 ∧ Reps X.K C io' (Fz (io'.hide p (.lst acc)) H2) ys acc ∧ acc.length ≤ i + 1 ∧ ∃ zs S2, lcK t rc re (wipeE e vs) x m (i + 1) S' = .ok zs S2 ∧ Done (ys ++ zs) S2, fun H2 h2 => ⟨m, by omega, by omega, h2⟩, fun v0 H2 y => ?_⟩
      obtain ⟨x2, d2, r2⟩ := yld v0 H2 y
      cases hb : bindT S' d (wipeE e vs) t with
      | none => simp only [hb] at hlc; cases hlc
      | some e1 =>
        simp only [hb] at hlc
        have hs2 : Slots X.K C (io'.hide p (.lst acc)) (Fz (io'.hide p (.lst acc)) H2) (wipeE e vs) (wipe sg vs) := by
          have s0 := sl.wipe vs
          refine ⟨s0.len, fun j q hq => ?_⟩
          obtain ⟨v, v1, v2⟩ := s0.get j q hq
          exact ⟨v, v1, (v2.mono (io' := io'.hide p (.lst acc)) h1 h3).mono (fun _ _ z => z) x2.same⟩
        refine ⟨wipeE e vs, S', io'.hide p (.lst acc), d, e1, d2, hs2, r2, hb, fun sg3 s3 ag => ⟨?_, e1, S', io'.hide p (.lst acc), d2, s3, ?_⟩⟩
        · rw [ag vs hv]
          have : ∀ s : L2.St, wipe (wipe s vs) vs = wipe s vs := fun s => by
            apply List.ext_getElem?
            intro j
            rw [wipe_get, wipe_get, wipe_length]
            by_cases hj : j ∈ vs <;> simp [hj]
          exact this sg
        cases hc : rc e1 S' with
        | err y Sy => rw [hc] at hlc; cases hlc
        | bad => rw [hc] at hlc; cases hlc
        | ok k S3 =>
          rw [hc] at hlc
          intro b H3 io3 x3 d3 eb
          cases eb
          have hh3 : io3.h = (p, HO.lst acc) :: io'.h := x3.hid
          have e3 : io3 = (⟨io3.l, io'.h, io'.k⟩ : Io).hide p (.lst acc) := by
            have hk3 : _ = io'.k := x3.kep
            show io3 = ⟨io3.l, _ :: io'.h, io'.k⟩
            rw [← hh3, ← hk3]
          cases k with
          | false =>
            replace hlc : lcK t rc re (wipeE e vs) x m (i + 1) S3 = .ok zs S2 := hlc
            rw [if_neg Bool.false_ne_true]
            have px := x2.trans x3
            refine ⟨S3, ⟨io3.l, io'.h, io'.k⟩, acc, ys, fun n a hn => px.pre n a (h1 n a hn), h2, ?_, ?_, ?_, by omega, zs, S2, hlc, hd⟩
            · rw [← e3]; exact h3.trans px.same
            · rw [← e3]; exact d3
            · rw [← e3]; exact rs.mono (io := io') (io' := ⟨io3.l, io'.h, io'.k⟩) px.pre px.same
          | true =>
            replace hlc : ((re e1 S3).bind fun y S2 => (lcK t rc re (wipeE e vs) x m (i + 1) S2).bind fun ys S3 => Res.ok (y :: ys) S3) = .ok zs S2 := hlc
            rw [if_pos rfl]
            refine ⟨e1, S3, io3, d3, s3.ext x3, ?_⟩
            cases he : re e1 S3 with
            | err y Sy => rw [he] at hlc; cases hlc
            | bad => rw [he] at hlc; cases hlc
            | ok y1 S4 =>
              rw [he] at hlc
              replace hlc : ((lcK t rc re (wipeE e vs) x m (i + 1) S4).bind fun ys S3 => Res.ok (y1 :: ys) S3) = .ok zs S2 := hlc
              intro v H4 io4 x4 d4 r4
              have hh4 : io4.h = (p, HO.lst acc) :: io'.h := x4.hid.trans hh3
              have e4 : io4 = (⟨io4.l, io'.h, io'.k⟩ : Io).hide p (.lst acc) := by
                have hk4 : _ = io'.k := x4.kep.trans x3.kep
                show io4 = ⟨io4.l, _ :: io'.h, io'.k⟩
                rw [← hh4, ← hk4]
              have px := (x2.trans x3).trans x4
              have hD : H4 p = some (.lst acc) := (d4.hid (p, .lst acc) (by rw [hh4]; exact List.mem_cons_self)).1
              refine ⟨acc, hD, by omega, ?_⟩
              cases hr : lcK t rc re (wipeE e vs) x m (i + 1) S4 with
              | err q Sq => rw [hr] at hlc; cases hlc
              | bad => rw [hr] at hlc; cases hlc
              | ok zs' S5 =>
                rw [hr] at hlc
                cases hlc
                have fz : Fz ((⟨io4.l, io'.h, io'.k⟩ : Io).hide p (.lst (acc ++ [v]))) (upd H4 p (.lst (acc ++ [v]))) = Fz io4 H4 := by
                  rw [Fz_hide_put (o := .lst acc), ← e4]
                refine ⟨S4, ⟨io4.l, io'.h, io'.k⟩, acc ++ [v], ys ++ [y1], fun n a hn => px.pre n a (h1 n a hn), h2, ?_, ?_, ?_, by simp; omega, zs', S2, hr, by rw [List.append_assoc]; exact hd⟩
                · rw [fz]; exact h3.trans px.same
                · rw [e4] at d4
                  exact d4.rehide rfl
                · rw [fz]
                  exact (rs.mono (io := io') (io' := ⟨io4.l, io'.h, io'.k⟩) px.pre px.same).append (.cons (r4.mono (io := io4) (io' := ⟨io4.l, io'.h, io'.k⟩) (fun _ _ z => z) fun _ _ z => z) .nil)
  · exact post.elim
theorem ee_lcK (k : Nat) {vs : List Nat} (hfin : FinOk fin) (hc : X.calm = true) (hN : X.N.Nodup) (hi : PI X tg iter (tR X.K C (WkK X.K C) W (rLiveK ra))) (ok : BlkOk X.N X.env.scope scope own) (hw : own.map (·.2) = vs) (hv : ∀ i ∈ t.ixs, i ∈ vs)
    (hg : ∀ (s : Shared) (H : Hp) (A : Addr) (cl : List (Str × Addr)) (fp : List Addr), GD (X.blk s H scope (compEnvC scope cl A X.env) fp) C tg t)
    (ht : ∀ (s : Shared) (H : Hp) (A : Addr) (cl : List (Str × Addr)) (fp : List Addr), PTs (X.blk s H scope (compEnvC scope cl A X.env) fp) ifs (tT X.K C (fun _ _ _ _ => False) rc))
    (he : ∀ (s : Shared) (H : Hp) (A : Addr) (cl : List (Str × Addr)) (fp : List Addr), PE (X.blk s H scope (compEnvC scope cl A X.env) fp) elt (tE X.K C (fun _ _ _ _ => False) re)) (hs : ∀ x, foldedSetIterable iter X.env x = pure x := by intro _; rfl) :
    PE X (.ListComp elt [⟨tg, iter, ifs, 0⟩] scope pos) (tE X.K C W (rLcK fin ra t vs rc re k)) := by
  subst hw
  exact (pe_lc (g := gTg X.K C t) hc hN hi ok hg ht he hs).imp fun sg H Q h => lcK_read k hfin sg H Q _ hv h
theorem s_setLcK (i k : Nat) {vs : List Nat} {y : Str} {py spos : Pos} (hfin : FinOk fin) (hc : X.calm = true) (hN : X.N.Nodup) (hsw : swapsWith (.ListComp elt [⟨tg, iter, ifs, 0⟩] scope pos) (some (.Name y py)) spos.line X.env = pure true)
    (hi : PI X tg iter (tR X.K C (WkK X.K C) W (rLiveK ra))) (ok : BlkOk X.N X.env.scope scope own) (hw : own.map (·.2) = vs) (hv : ∀ i ∈ t.ixs, i ∈ vs)
    (hg : ∀ (s : Shared) (H : Hp) (A : Addr) (cl : List (Str × Addr)) (fp : List Addr), GD (X.blk s H scope (compEnvC scope cl A X.env) fp) C tg t)
    (ht : ∀ (s : Shared) (H : Hp) (A : Addr) (cl : List (Str × Addr)) (fp : List Addr), PTs (X.blk s H scope (compEnvC scope cl A X.env) fp) ifs (tT X.K C (fun _ _ _ _ => False) rc))
    (he : ∀ (s : Shared) (H : Hp) (A : Addr) (cl : List (Str × Addr)) (fp : List Addr), PE (X.blk s H scope (compEnvC scope cl A X.env) fp) elt (tE X.K C (fun _ _ _ _ => False) re)) (hs : ∀ x, foldedSetIterable iter X.env x = pure x := by intro _; rfl)
    (hy : X.N[i]? = some y := by rfl) (hyl : X.env.scope.names.lookup y = some .local := by rfl) :
    PS X (.Assign [.Name y py] (.ListComp elt [⟨tg, iter, ifs, 0⟩] scope pos) spos) (tS X.K C W (sSet i (rLcK fin ra t vs rc re k))) := by
  subst hw
  exact (ps_setLc (g := gTg X.K C t) hc hN hy hyl hsw hi ok hg ht he hs).imp fun Dn sg H h => lcK_read k hfin sg H _ _ hv ((tS.seq (R := RepR X.K C) (fun e d S1 => .nx (e.set i (some d)) S1) h fun _ _ => rfl).mono fun v H1 ⟨e, S, io, k1, d, s, q, p⟩ => p _ H1 io (Ext.refl _ _) d (s.set i q))
end
def dictU (S : Store) : D → Option (List Key × List D)
  | .loc n => match S[n]? with
    | some (.dL ks xs) => some (ks, xs)
    | some (.dK ks xs) => some (ks, xs)
    | _ => none
  | .dct ks xs => some (ks, xs)
  | _ => none
theorem dictU_rep {K : PySem.W.Frag} {C : Nat → Addr} {io : Io} {S : Store} {H : Hp} {d : D} {v : V} {ks : List Key} {xs : List D} (h : dictU S d = some (ks, xs)) (dn : Den K C io S H) (r : Rep K C io (Fz io H) d v) :
    ∃ a kvs, v = .ref a ∧ Rd H a (.dK kvs) ∧ kvs.map (·.1) = ks ∧ Reps K C io (Fz io H) xs (kvs.map (·.2)) := by
  cases r with
  | dct q e1 e2 rs =>
    cases h
    subst e2
    exact ⟨_, _, rfl, .inl (Fz_same _ _ _ _ q), e1, rs⟩
  | @loc n a q =>
    simp only [dictU] at h
    split at h
    · rename_i ks' xs' e
      cases h
      obtain ⟨kvs, o, h0, h1, h2, h3⟩ := dn.obj n _ a e q
      exact ⟨a, kvs, rfl, .inr ⟨o, h1⟩, h2, h3⟩
    · rename_i ks' xs' e
      cases h
      obtain ⟨kvs, h1, h2, h3⟩ := dn.obj n _ a e q
      exact ⟨a, kvs, rfl, .inl h1, h2, h3⟩
    · cases h
  | _ => cases h
def dixR (S : Store) (a b : D) : Option D := (dictU S a).bind fun p => (keyOf b).bind fun k => lkK p.1 p.2 k
def dninR (S : Store) (a b : D) : Option D := (dictU S b).bind fun p => (keyOf a).bind fun k => some (.bl (!(lkK p.1 p.2 k).isSome))
section
variable {X : Cx} {C : Nat → Addr} {W : WX}
theorem ee_dixR {a b : Expr} {ra rb : RE} {pos : Pos} (hu : X.A.units + 64 < cLine) (ha : PE X a (tE X.K C W ra)) (hb : PE X b (tE X.K C W rb)) (hs : NoSl b := by exact fun _ _ => rfl) : PE X (.Subscript a b pos) (tE X.K C W (rBin dixR ra rb)) :=
  (pe_dget (by omega) ha hb hs).imp fun sg H Q h => (tR.seq2 repM (fun _ x y S => ofO (dixR S x y) S) h fun _ _ => rfl).mono fun x H1 h1 => h1.mono fun y H2 ⟨e, S, io, x1, y1, d, s, r1, r2, p⟩ => by
    obtain ⟨z, ez, p⟩ := p.ofO
    obtain ⟨⟨ks, xs⟩, e1, ez⟩ := bind_some' ez
    obtain ⟨k, e2, ez⟩ := bind_some' ez
    obtain ⟨a, kvs, rfl, ea, rfl, rs⟩ := dictU_rep e1 d r1
    obtain rfl := keyOf_rep e2 r2
    obtain ⟨v, hv, rv⟩ := (lk_rep rs).1 z ez
    exact ⟨a, v, rfl, by rw [← hv]; exact .inl ⟨kvs, k, ea, rfl, rfl⟩, p v H2 io (Ext.refl _ _) d rv⟩
theorem dninR_ok (hu : X.A.units + 64 < cLine) : OpD X C (compareOp .NotIn) dninR := fun pins s sg H x y v u Q I rx ry ⟨io, S, a, b, d, dn, ra, rb, e, q⟩ => by
  obtain ⟨⟨ks, xs⟩, e1, e⟩ := bind_some' e
  obtain ⟨k, e2, e⟩ := bind_some' e
  cases e
  obtain ⟨p, kvs, rfl, ea, rfl, rs⟩ := dictU_rep e1 dn rb
  obtain rfl := keyOf_rep e2 ra
  obtain rfl : u = Value.ref p := ry
  have iso : (valV kvs k).isSome = (lkK (kvs.map (·.1)) xs k).isSome := by
    cases z : lkK (kvs.map (·.1)) xs k with
    | none => rw [(lk_rep rs).2 z]; rfl
    | some dv => obtain ⟨w, hw, _⟩ := (lk_rep rs).1 dv z; rw [hw]; rfl
  refine d_notIn (by omega) I (.inl ⟨kvs, k, ea, rfl, rfl⟩) rx fun s' I' => ?_
  rw [iso]
  exact ⟨.bl _, H, I', rfl, q _ H io (Ext.refl _ _) dn (.bl _)⟩
end
def tgV (i : Nat) : Env → Store → Option Nat := fun e _ => match e[i]? with
  | some (some (.loc n)) => some n
  | _ => none
def eqOT (c : Nat) (g : List D → Store → Res D) (S : Store) (a b : D) : Option (D × Store) := match insAt S a, b with
  | some (c1, _, _), .str _ => if c1 = c then (match g [a, b] S with
    | .ok (.bl r) S' => some (.bl r, S')
    | _ => none) else none
  | _, _ => none
section
variable {X : Cx} {C : Nat → Addr} {c : Nat} {fa : Addr} {fd : FuncData} {ps : List Str} {g : List D → Store → Res D}
theorem eqOT_pre {pins : List (Addr × Obj)} {s : Shared} {sg : L2.St} {H : Hp} {io : Io} {S S' : Store} {a b d : D} {x y : V} {v u : Value} (I : L2.Inv X pins sg H s) (dn : Den X.K C io S H) (ra : Rep X.K C io (Fz io H) a x) (rb : Rep X.K C io (Fz io H) b y) (rx : RelV x v) (ry : RelV y u) (e : eqOT c g S a b = some (d, S')) :
    ∃ r la mA od z t, d = .bl r ∧ g [a, b] S = .ok (.bl r) S' ∧ x = .ref la ∧ y = .str z ∧ v = .ref la ∧ u = .str z t ∧ PySem.W.InstAt s.heap la mA (C c) od := by
  unfold eqOT at e
  cases ha : insAt S a with
  | none => rw [ha] at e; cases e
  | some pa =>
  obtain ⟨c1, n1, x1⟩ := pa
  rw [ha] at e
  split at e
  · rename_i h1
    cases h1
    split at e
    · rename_i hc
      subst hc
      split at e
      · rename_i r S2 hg
        cases e
        obtain ⟨ka, la, dx, fs, rfl, rfl, _, _, hA, _, _, _⟩ := ins_rep ha dn ra
        cases rb
        obtain rfl : v = Value.ref la := rx
        obtain ⟨t, rfl⟩ := (show ∃ t, u = Value.str _ t from ry)
        obtain ⟨mA, J, _⟩ := ins_get I.hok hA
        obtain ⟨od, J, _⟩ := J.look
        exact ⟨r, la, _, od, _, t, rfl, hg, rfl, rfl, rfl, rfl, J⟩
      · cases e
    · cases e
  · cases e
theorem eqOT_ok (hs : PySem.W.findIn X.K (.ref (C c)) "__eq__" = some (some (.ref fa))) (hf : PySem.W.isFn X.K (.ref fa) = true) (F : Cal X fa fd ps (spOf X.K C 2 g)) (hb : Binds X.K fd ps []) (hu : X.A.units + 64 < cLine) : OpS X C (compareOp .Eq) (eqOT c g) := by
  intro pins s sg H x y v u Q I rx ry ⟨io, S, a, b, d, S', dn, ra, rb, e, q⟩
  obtain ⟨r, la, mA, od, z, t, rfl, hg, rfl, rfl, rfl, rfl, J⟩ := eqOT_pre I dn ra rb rx ry e
  obtain ⟨m, hF⟩ := I.fr
  show wpAny (model X.prog X.w) X.A (richCompare .Eq (.ref la) (.str z t)) _ _ _
  refine PySem.W.cmp_K (op := .Eq) (tb := .type "str") (by omega) hF I.ok.mod.kin J (PySem.W.Looks.of_pure rfl) (by rfl) hs hf ?_
  have sp : spOf X.K C 2 g [.ref la, .str z] H (fun z H' => z = .bl r ∧ ∃ io', Ext io H io' H' ∧ Den X.K C io' S' H') (WE (fun _ _ _ _ => False) sg) := by
    have hsp : Post X.K C (RepR X.K C) (fun _ _ _ _ => False) sg io H (g [a, b] S) (fun z H' => z = .bl r ∧ ∃ io', Ext io H io' H' ∧ Den X.K C io' S' H') := by
      rw [hg]
      intro z H' io' ex d' rz
      cases rz
      exact ⟨rfl, io', ex, d'⟩
    exact spOf_of (n := 2) (vs := [.ref la, .str z]) rfl dn (.cons ra (.cons rb .nil)) hsp
  have hl2 : ([Value.ref la, Value.str z t]).length = ps.length := by
    rw [← F.len _ _ _ _ sp]; rfl
  have bb := hb s [.ref la, .str z t] I.kIn (by rw [List.append_nil]; exact hl2)
  rw [List.append_nil] at bb
  refine wpAny_mono (run_cal F Ev.takes0 bb I (.cons (show L2.RelV (V.ref la) (Value.ref la) from rfl) (.cons (show L2.RelV (V.str z) (Value.str z t) from ry) .nil)) sp) (fun w s' hw => ?_) fun _ _ z => z
  obtain ⟨z, H', I', rz, ez, io', ex, d'⟩ := hw
  subst ez
  cases rz
  exact ⟨.bl r, H', I', rfl, q (.bl r) H' io' ex d' (.bl _)⟩
end
section
variable {e : Env} {S : Store}
@[simp] theorem sLock_eq (tg : Env → Store → Option Nat) (r : RS) : sLock tg r e S = (match tg e S with | some n => (match S[n]? with | some (.dK ks xs) => unlkS n (r e (S.set n (.dL ks xs))) | _ => .bad) | none => .bad) := (rfl)
@[simp] theorem rLock_eq (tg : Env → Store → Option Nat) (r : RE) : rLock tg r e S = (match tg e S with | some n => (match S[n]? with | some (.dK ks xs) => unlk n (r e (S.set n (.dL ks xs))) | _ => .bad) | none => .bad) := (rfl)
end
end Ev
namespace Lw
open PySem PySem.Spec L2 Ev
noncomputable section
def topS (i : Nat) : Stmt := PySem.Challenge.pw_sealedreach_k20_cells_laid_and_cleared.main.body.getD i (.Pass ⟨0, 0, 0, 0⟩)
abbrev cl_NoBounds : Nat := 1
abbrev cl_NoOffset : Nat := 2
abbrev cl_NoAddress : Nat := 3
abbrev cl_NoWord : Nat := 4
abbrev cl_Fault : Nat := 5
abbrev cl_Cells : Nat := 6
def clsS (i j : Nat) : Stmt := match topS i with | .ClassDef _ _ _ body _ _ _ _ _ _ _ => body.getD j (.Pass ⟨0, 0, 0, 0⟩) | _ => .Pass ⟨0, 0, 0, 0⟩
abbrev si_Fault : Stmt := clsS 6 0
theorem sci_Fault : FnScope ["self", "word"] ["self", "word"] (defScope si_Fault) := ⟨rfl, rfl, rfl, by decide +kernel, rfl, by decide +kernel, by decide +kernel⟩
abbrev s_is_whole : Stmt := topS 11
theorem sc_is_whole : FnScope ["thing"] ["thing"] (defScope s_is_whole) := ⟨rfl, rfl, rfl, by decide +kernel, rfl, by decide +kernel, by decide +kernel⟩
abbrev s_look_at_bounds : Stmt := topS 12
theorem sc_look_at_bounds : FnScope ["low", "high"] ["low", "high"] (defScope s_look_at_bounds) := ⟨rfl, rfl, rfl, by decide +kernel, rfl, by decide +kernel, by decide +kernel⟩
abbrev s_from_bits : Stmt := topS 13
theorem sc_from_bits : FnScope ["step", "first", "count"] ["step", "first", "count"] (defScope s_from_bits) := ⟨rfl, rfl, rfl, by decide +kernel, rfl, by decide +kernel, by decide +kernel⟩
abbrev s_is_word : Stmt := topS 18
theorem sc_is_word : FnScope ["thing"] ["thing"] (defScope s_is_word) := ⟨rfl, rfl, rfl, by decide +kernel, rfl, by decide +kernel, by decide +kernel⟩
abbrev s_are_lawful : Stmt := topS 19
theorem sc_are_lawful : FnScope ["rights", "groups", "right"] ["rights"] (defScope s_are_lawful) := ⟨rfl, rfl, rfl, by decide +kernel, rfl, by decide +kernel, by decide +kernel⟩
abbrev s_rights_in : Stmt := topS 20
theorem sc_rights_in : FnScope ["bits", "place", "right"] ["bits"] (defScope s_rights_in) := ⟨rfl, rfl, rfl, by decide +kernel, rfl, by decide +kernel, by decide +kernel⟩
abbrev s_fields_of : Stmt := topS 21
theorem sc_fields_of : FnScope ["word", "bits", "first", "count", "step", "low", "high"] ["word"] (defScope s_fields_of) := ⟨rfl, rfl, rfl, by decide +kernel, rfl, by decide +kernel, by decide +kernel⟩
abbrev s_is_lawful : Stmt := topS 22
theorem sc_is_lawful : FnScope ["thing", "fields"] ["thing"] (defScope s_is_lawful) := ⟨rfl, rfl, rfl, by decide +kernel, rfl, by decide +kernel, by decide +kernel⟩
abbrev s_bare : Stmt := topS 24
theorem sc_bare : FnScope ["word"] ["word"] (defScope s_bare) := ⟨rfl, rfl, rfl, by decide +kernel, rfl, by decide +kernel, by decide +kernel⟩
abbrev s_look_at_offset : Stmt := topS 30
theorem sc_look_at_offset : FnScope ["offset"] ["offset"] (defScope s_look_at_offset) := ⟨rfl, rfl, rfl, by decide +kernel, rfl, by decide +kernel, by decide +kernel⟩
abbrev s_is_address : Stmt := topS 31
theorem sc_is_address : FnScope ["thing"] ["thing"] (defScope s_is_address) := ⟨rfl, rfl, rfl, by decide +kernel, rfl, by decide +kernel, by decide +kernel⟩
abbrev s_address_by : Stmt := topS 32
theorem sc_address_by : FnScope ["word", "offset", "right", "sealed", "low", "high", "at", "rights", "kind"] ["word", "offset", "right", "sealed"] (defScope s_address_by) := ⟨rfl, rfl, rfl, by decide +kernel, rfl, by decide +kernel, by decide +kernel⟩
abbrev s_look_at_stored : Stmt := topS 34
theorem sc_look_at_stored : FnScope ["word", "what", "rights"] ["word", "what"] (defScope s_look_at_stored) := ⟨rfl, rfl, rfl, by decide +kernel, rfl, by decide +kernel, by decide +kernel⟩
abbrev s_law_pool : Stmt := topS 36
theorem sc_law_pool : FnScope ["_law_script", "_law_k", "_law_cell", "_law_size", "_law_mixed"] ["_law_script", "_law_k"] (defScope s_law_pool) := ⟨rfl, rfl, rfl, by decide +kernel, rfl, by decide +kernel, by decide +kernel⟩
abbrev s_law_take : Stmt := topS 37
theorem sc_law_take : FnScope ["_law_pool_here", "_law_many", "_law_found"] ["_law_pool_here", "_law_many"] (defScope s_law_take) := ⟨rfl, rfl, rfl, by decide +kernel, rfl, by decide +kernel, by decide +kernel⟩
abbrev s_law_least : Stmt := topS 38
theorem sc_law_least : FnScope ["_law_low", "_law_high", "_law_step"] ["_law_low", "_law_high"] (defScope s_law_least) := ⟨rfl, rfl, rfl, by decide +kernel, rfl, by decide +kernel, by decide +kernel⟩
abbrev s_law_made : Stmt := topS 40
theorem sc_law_made : FnScope ["_law_low", "_law_high", "_law_at", "_law_rights_here", "_law_kind", "_law_step", "_law_bits", "_law_place", "_law_sign"] ["_law_low", "_law_high", "_law_at", "_law_rights_here", "_law_kind"] (defScope s_law_made) := ⟨rfl, rfl, rfl, by decide +kernel, rfl, by decide +kernel, by decide +kernel⟩
abbrev s_law_bounds : Stmt := topS 41
theorem sc_law_bounds : FnScope ["_law_pool_here", "_law_low", "_law_many", "_law_own_low", "_law_own_high", "_law_step"] ["_law_pool_here"] (defScope s_law_bounds) := ⟨rfl, rfl, rfl, by decide +kernel, rfl, by decide +kernel, by decide +kernel⟩
abbrev s_law_rights : Stmt := topS 42
theorem sc_law_rights : FnScope ["_law_pool_here", "_law_way", "_law_sign"] ["_law_pool_here"] (defScope s_law_rights) := ⟨rfl, rfl, rfl, by decide +kernel, rfl, by decide +kernel, by decide +kernel⟩
abbrev s_law_word : Stmt := topS 43
theorem sc_law_word : FnScope ["_law_pool_here", "_law_low", "_law_high", "_law_rights_here", "_law_at", "_law_kind", "_law_word_here"] ["_law_pool_here"] (defScope s_law_word) := ⟨rfl, rfl, rfl, by decide +kernel, rfl, by decide +kernel, by decide +kernel⟩
abbrev s_Cells_put : Stmt := clsS 33 2
theorem sc_Cells_put : FnScope ["self", "address", "word"] ["self", "address", "word"] (defScope s_Cells_put) := ⟨rfl, rfl, rfl, by decide +kernel, rfl, by decide +kernel, by decide +kernel⟩
abbrev s_Cells_lay : Stmt := clsS 33 3
theorem sc_Cells_lay : FnScope ["self", "address", "word"] ["self", "address", "word"] (defScope s_Cells_lay) := ⟨rfl, rfl, rfl, by decide +kernel, rfl, by decide +kernel, by decide +kernel⟩
abbrev s_Cells_marked : Stmt := clsS 33 9
theorem sc_Cells_marked : FnScope ["self", "low", "high", "address"] ["self", "low", "high"] (defScope s_Cells_marked) := ⟨rfl, rfl, rfl, by decide +kernel, rfl, by decide +kernel, by decide +kernel⟩
abbrev s_Cells_clear : Stmt := clsS 33 8
theorem sc_Cells_clear : FnScope ["self", "low", "high", "address"] ["self", "low", "high"] (defScope s_Cells_clear) := ⟨rfl, rfl, rfl, by decide +kernel, rfl, by decide +kernel, by decide +kernel⟩
abbrev s_Cells_cell : Stmt := clsS 33 1
theorem sc_Cells_cell : FnScope ["self", "address"] ["self", "address"] (defScope s_Cells_cell) := ⟨rfl, rfl, rfl, by decide +kernel, rfl, by decide +kernel, by decide +kernel⟩
abbrev s_Cells_put_lowest : Stmt := clsS 33 7
theorem sc_Cells_put_lowest : FnScope ["self", "address", "number", "bits"] ["self", "address", "number"] (defScope s_Cells_put_lowest) := ⟨rfl, rfl, rfl, by decide +kernel, rfl, by decide +kernel, by decide +kernel⟩
abbrev s_Cells_poke : Stmt := clsS 33 6
theorem sc_Cells_poke : FnScope ["self", "word", "offset", "number"] ["self", "word", "offset", "number"] (defScope s_Cells_poke) := ⟨rfl, rfl, rfl, by decide +kernel, rfl, by decide +kernel, by decide +kernel⟩
abbrev s_Cells_store : Stmt := clsS 33 5
theorem sc_Cells_store : FnScope ["self", "word", "offset", "what", "address"] ["self", "word", "offset", "what"] (defScope s_Cells_store) := ⟨rfl, rfl, rfl, by decide +kernel, rfl, by decide +kernel, by decide +kernel⟩
abbrev s_Cells_load : Stmt := clsS 33 4
theorem sc_Cells_load : FnScope ["self", "word", "offset", "found"] ["self", "word", "offset"] (defScope s_Cells_load) := ⟨rfl, rfl, rfl, by decide +kernel, rfl, by decide +kernel, by decide +kernel⟩
abbrev s_law_said : Stmt := topS 44
theorem sc_law_said : FnScope ["_law_cells", "_law_door", "_law_thing", "_law_word_here", "_law_kept", "e", "_law_kinds", "_law_at"] ["_law_cells", "_law_door", "_law_thing", "_law_word_here"] (defScope s_law_said) := ⟨rfl, rfl, rfl, by decide +kernel, rfl, by decide +kernel, by decide +kernel⟩
abbrev s_law_odd_so : Stmt := topS 45
theorem sc_law_odd_so : FnScope ["_law_cells", "_law_word_here", "_law_kept", "_law_address", "_law_thing", "_law_bad", "_law_door"] ["_law_cells", "_law_word_here"] (defScope s_law_odd_so) := ⟨rfl, rfl, rfl, by decide +kernel, rfl, by decide +kernel, by decide +kernel⟩
abbrev s_law_laid : Stmt := topS 46
theorem sc_law_laid : FnScope ["_law_pool_here", "_law_cells", "_law_book", "_law_turn", "_law_address"] ["_law_pool_here", "_law_cells", "_law_book"] (defScope s_law_laid) := ⟨rfl, rfl, rfl, by decide +kernel, rfl, by decide +kernel, by decide +kernel⟩
abbrev s_law_same : Stmt := topS 47
theorem sc_law_same : FnScope ["_law_cells", "_law_book", "_law_address"] ["_law_cells", "_law_book"] (defScope s_law_same) := ⟨rfl, rfl, rfl, by decide +kernel, rfl, by decide +kernel, by decide +kernel⟩
abbrev s_Cells_eq : Stmt := clsS 33 11
theorem sc_Cells_eq : FnScope ["self", "other"] ["self", "other"] (defScope s_Cells_eq) := ⟨rfl, rfl, rfl, by decide +kernel, rfl, by decide +kernel, by decide +kernel⟩
abbrev s_Cells_init : Stmt := clsS 33 0
theorem sc_Cells_init : FnScope ["self"] ["self"] (defScope s_Cells_init) := ⟨rfl, rfl, rfl, by decide +kernel, rfl, by decide +kernel, by decide +kernel⟩
abbrev s_Cells_twin : Stmt := clsS 33 10
theorem sc_Cells_twin : FnScope ["self", "other"] ["self"] (defScope s_Cells_twin) := ⟨rfl, rfl, rfl, by decide +kernel, rfl, by decide +kernel, by decide +kernel⟩
abbrev s_law_emptied_so : Stmt := topS 48
theorem sc_law_emptied_so : FnScope ["_law_word_here", "_law_cells", "_law_by"] ["_law_word_here"] (defScope s_law_emptied_so) := ⟨rfl, rfl, rfl, by decide +kernel, rfl, by decide +kernel, by decide +kernel⟩
abbrev s_law : Stmt := topS 49
theorem sc_law : FnScope ["_law_script", "_law_k", "_law_pool_here", "_law_cells", "_law_book", "_law_other", "_law_low", "_law_high", "_law_kept", "_law_due", "_law_address", "_law_held", "_law_gone"] ["_law_script"] (defScope s_law) := ⟨rfl, rfl, rfl, by decide +kernel, rfl, by decide +kernel, by decide +kernel⟩
def kq_Cells : TK → Option Bool
  | .inr 0 => some false
  | .inr 1 => some false
  | .inr 2 => some false
  | .inr 3 => some false
  | .inr 4 => some false
  | .inr 5 => some false
  | .inl "NoneType" => some false
  | .inl "bool" => some false
  | .inl "int" => some false
  | .inl "str" => some false
  | .inl "tuple" => some false
  | .inl "list" => some false
  | .inl "dict" => some false
  | _ => none
def ko_Cells : Nat → Option Bool
  | 6 => some true
  | _ => none
def kq_Fault : TK → Option Bool
  | .inr 0 => some false
  | .inr 1 => some false
  | .inr 2 => some false
  | .inr 3 => some false
  | .inr 4 => some false
  | .inr 5 => some true
  | _ => none
def kq_NoAddress : TK → Option Bool
  | .inr 0 => some false
  | .inr 1 => some false
  | .inr 2 => some false
  | .inr 3 => some true
  | .inr 4 => some false
  | .inr 5 => some false
  | _ => none
def kq_NoBounds : TK → Option Bool
  | .inr 0 => some false
  | .inr 1 => some true
  | .inr 2 => some false
  | .inr 3 => some false
  | .inr 4 => some false
  | .inr 5 => some false
  | _ => none
def kq_NoOffset : TK → Option Bool
  | .inr 0 => some false
  | .inr 1 => some false
  | .inr 2 => some true
  | .inr 3 => some false
  | .inr 4 => some false
  | .inr 5 => some false
  | _ => none
def kq_NoWord : TK → Option Bool
  | .inr 0 => some false
  | .inr 1 => some false
  | .inr 2 => some false
  | .inr 3 => some false
  | .inr 4 => some true
  | .inr 5 => some false
  | _ => none
def sub_ReachError : Nat → Option Bool
  | 0 => some true
  | 1 => some true
  | 2 => some true
  | 3 => some true
  | 4 => some true
  | 5 => some true
  | _ => none
def m_is_whole : RS := (sRet (rAnd (rUn (isiD "int") (rVar 0)) (rNot (rUn (isiD "bool") (rVar 0)))))
def g_is_whole : List D → Store → Res D := runDef 1 m_is_whole
def m_look_at_bounds : RS := (sIf (rOrT (rNotT (rTruth (rCall g_is_whole (rCons (rVar 0) rNil)))) (rOrT (rNotT (rTruth (rCall g_is_whole (rCons (rVar 1) rNil)))) (rNotT (rTest (rChain (rCon (.int 0)) (rLink leD (rVar 0) (rLink ltD (rVar 1) (rLast leD (rCon (.int 4096))))))))))
    (sRaise0 cl_NoBounds)
    sNil)
def g_look_at_bounds : List D → Store → Res D := runDef 2 m_look_at_bounds
def m_from_bits : RS := (sRet (rTup (rCons (rBin shlD (rVar 1) (rVar 0)) (rCons (rBin shlD (rBin addD (rVar 1) (rVar 2)) (rVar 0)) rNil))))
def g_from_bits : List D → Store → Res D := runDef 3 m_from_bits
def m_is_word : RS := (sSeq (sIf (rOrT (rNotT (rTruth (rUn (isiD "tuple") (rVar 0)))) (rOrT (rTest (rBin neD (rCal lenD (rCons (rVar 0) rNil)) (rCon (.int 2)))) (rNotT (rTruth (rUn (isiD "bool") (rBin ixD (rVar 0) (rCon (.int 0))))))))
    (sRet (rCon (.bl false)))
    sNil)
    (sRet (rAnd (rCall g_is_whole (rCons (rBin ixD (rVar 0) (rCon (.int 1))) rNil)) (rChain (rCon (.int 0)) (rLink leD (rBin ixD (rVar 0) (rCon (.int 1))) (rLast ltD (rCon (.int 35184372088832))))))))
def g_is_word : List D → Store → Res D := runDef 1 m_is_word
def m_are_lawful : RS := (sSeq (sSet 1 (rLst (rCons (rCal anyD (rCons (rLc frzL (rIt (rVar 0)) (.nm 2) [2] rYes (rBin inD (rVar 2) (rCon (.str "rwlsn")))) rNil)) (rCons (rBin inD (rCon (.str "x")) (rVar 0)) (rCons (rOr (rBin inD (rCon (.str "c")) (rVar 0)) (rBin inD (rCon (.str "o")) (rVar 0))) rNil)))))
    (sRet (rBin leD (rMth "list" countL (rVar 1) (rCons (rCon (.bl true)) rNil)) (rCon (.int 1)))))
def g_are_lawful : List D → Store → Res D := runDef 3 m_are_lawful
def m_rights_in : RS := (sRet (rMth "str" joinD (rCon (.str "")) (rCons (rLc frzL (rRan enumD (rCons (rCon (.str "rwlsnfxco")) rNil)) (.tp [1, 2]) [1, 2] (rTest (rBin eqD (rBin andD (rBin shrD (rVar 0) (rBin addD (rCon (.int 32)) (rVar 1))) (rCon (.int 1))) (rCon (.int 1)))) (rVar 2)) rNil)))
def g_rights_in : List D → Store → Res D := runDef 3 m_rights_in
def m_fields_of : RS := (sSeq (sSet 1 (rBin ixD (rVar 0) (rCon (.int 1))))
    (sSeq (sPar [2, 3, 4] (rCons (rBin andD (rBin shrD (rVar 1) (rCon (.int 12))) (rCon (.int 4095))) (rCons (rBin addD (rBin andD (rBin shrD (rVar 1) (rCon (.int 24))) (rCon (.int 15))) (rCon (.int 1))) (rCons (rBin andD (rBin shrD (rVar 1) (rCon (.int 28))) (rCon (.int 15))) rNil))))
    (sSeq (sIf (rOrT (rTest (rBin gtD (rVar 4) (rCon (.int 8)))) (rOrT (rAndT (rTest (rBin gtD (rVar 4) (rCon (.int 0)))) (rTest (rBin leD (rVar 3) (rBin divD (rCon (.int 16)) (rCon (.int 2)))))) (rTest (rBin gtD (rBin shlD (rBin addD (rVar 2) (rVar 3)) (rVar 4)) (rCon (.int 4096))))))
    (sRet (rCon .non))
    sNil)
    (sSeq (sAsg (.tp [5, 6]) (rCall g_from_bits (rCons (rVar 4) (rCons (rVar 2) (rCons (rVar 3) rNil)))))
    (sRet (rTup (rCons (rVar 5) (rCons (rVar 6) (rCons (rBin modD (rVar 1) (rCon (.int 4096))) (rCons (rCall g_rights_in (rCons (rVar 1) rNil)) (rCons (rBin shrD (rVar 1) (rCon (.int 41))) rNil)))))))))))
def g_fields_of : List D → Store → Res D := runDef 7 m_fields_of
def m_is_lawful : RS := (sSeq (sIf (rNotT (rTruth (rCall g_is_word (rCons (rVar 0) rNil))))
    (sRet (rCon (.bl false)))
    sNil)
    (sSeq (sSet 1 (rCall g_fields_of (rCons (rVar 0) rNil)))
    (sRet (rOr (rNot (rBin ixD (rVar 0) (rCon (.int 0)))) (rAnd (rBin isNot (rVar 1) (rCon .non)) (rCall g_are_lawful (rCons (rBin ixD (rVar 1) (rCon (.int 3))) rNil)))))))
def g_is_lawful : List D → Store → Res D := runDef 2 m_is_lawful
def m_bare : RS := (sRet (rTup (rCons (rCon (.bl false)) (rCons (rBin ixD (rVar 0) (rCon (.int 1))) rNil))))
def g_bare : List D → Store → Res D := runDef 1 m_bare
def m_look_at_offset : RS := (sIf (rOrT (rNotT (rTruth (rCall g_is_whole (rCons (rVar 0) rNil)))) (rNotT (rTest (rChain (rCon (.int (-8))) (rLink leD (rVar 0) (rLast leD (rCon (.int 15))))))))
    (sRaise0 cl_NoOffset)
    sNil)
def g_look_at_offset : List D → Store → Res D := runDef 1 m_look_at_offset
def m_is_address : RS := (sRet (rAnd (rCall g_is_whole (rCons (rVar 0) rNil)) (rChain (rCon (.int 0)) (rLink leD (rVar 0) (rLast ltD (rCon (.int 4096)))))))
def g_is_address : List D → Store → Res D := runDef 1 m_is_address
def m_address_by : RS := (sSeq (sExp (rCall g_look_at_offset (rCons (rVar 1) rNil)))
    (sSeq (sIf (rNotT (rTruth (rBin ixD (rVar 0) (rCon (.int 0)))))
    (sRaiseF cl_Fault ["word"] (rCons (rCon (.str "mark")) rNil))
    sNil)
    (sSeq (sAsg (.tp [4, 5, 6, 7, 8]) (rCall g_fields_of (rCons (rVar 0) rNil)))
    (sSeq (sIf (rAndT (rTest (rBin neD (rVar 8) (rCon (.int 0)))) (rNotT (rTruth (rVar 3))))
    (sRaiseF cl_Fault ["word"] (rCons (rCon (.str "seal")) rNil))
    sNil)
    (sSeq (sIf (rTest (rBin ninD (rVar 2) (rVar 7)))
    (sRaiseF cl_Fault ["word"] (rCons (rCon (.str "right")) rNil))
    sNil)
    (sSeq (sIf (rNotT (rTest (rChain (rVar 4) (rLink leD (rBin addD (rVar 6) (rVar 1)) (rLast ltD (rVar 5))))))
    (sRaiseF cl_Fault ["word"] (rCons (rCon (.str "bounds")) rNil))
    sNil)
    (sRet (rBin addD (rVar 6) (rVar 1)))))))))
def g_address_by : List D → Store → Res D := runDef 9 m_address_by
def m_look_at_stored : RS := (sSeq (sSet 2 (rBin ixD (rCall g_fields_of (rCons (rVar 0) rNil)) (rCon (.int 3))))
    (sSeq (sIf (rAndT (rTruth (rBin ixD (rVar 1) (rCon (.int 0)))) (rTest (rBin ninD (rCon (.str "s")) (rVar 2))))
    (sRaiseF cl_Fault ["word"] (rCons (rCon (.str "store")) rNil))
    sNil)
    (sIf (rAndT (rTruth (rBin ixD (rVar 1) (rCon (.int 0)))) (rAndT (rTest (rBin ninD (rCon (.str "f")) (rBin ixD (rCall g_fields_of (rCons (rVar 1) rNil)) (rCon (.int 3))))) (rTest (rBin ninD (rCon (.str "n")) (rVar 2)))))
    (sRaiseF cl_Fault ["word"] (rCons (rCon (.str "near")) rNil))
    sNil)))
def g_look_at_stored : List D → Store → Res D := runDef 3 m_look_at_stored
def m_law_pool : RS := (sSeq (sSet 2 (rBin addD (rBin mulD (rCon (.int 7)) (rCal sumD (rCons (rSl (rVar 0) rNoP (rPart (rCon (.int 63)))) rNil))) (rVar 1)))
    (sSeq (sIf (rTest (rBin ltD (rVar 1) (rCal lenD (rCons (rVar 0) rNil))))
    (sSet 2 (rBin ixD (rVar 0) (rVar 1)))
    sNil)
    (sSeq (sSet 3 (rCal absD (rCons (rVar 2) rNil)))
    (sSeq (sSet 4 (rBin modD (rBin mulD (rBin addD (rBin addD (rBin addD (rBin modD (rVar 3) (rCon (.int 2147483629))) (rBin mulD (rBin mulD (rCon (.int 7919)) (rVar 1)) (rVar 1))) (rBin mulD (rCon (.int 31)) (rVar 1))) (rCon (.int 17))) (rCon (.int 48271))) (rCon (.int 2147483647))))
    (sRet (rLstM (rCons (rBin mulD (rVar 3) (rCal intD (rCons (rBin geD (rVar 3) (rBin powD (rCon (.int 10)) (rCon (.int 18)))) rNil))) (rCons (rBin modD (rBin mulD (rVar 4) (rVar 4)) (rCon (.int 2147483629))) rNil))))))))
def g_law_pool : List D → Store → Res D := runDef 5 m_law_pool
def m_law_take : RS := (sSeq (sIf (rTest (rBin gtD (rBin ixD (rVar 0) (rCon (.int 0))) (rCon (.int 0))))
    (sSeq (sSet 2 (rBin modD (rBin ixD (rVar 0) (rCon (.int 0))) (rVar 1)))
    (sSeq (sPutIx (rBin divD (rBin ixD (rVar 0) (rCon (.int 0))) (rVar 1)) (rVar 0) (rCon (.int 0)))
    (sRet (rVar 2))))
    sNil)
    (sSeq (sPutIx (rBin modD (rBin addD (rBin mulD (rBin ixD (rVar 0) (rCon (.int 1))) (rCon (.int 48271))) (rCon (.int 11))) (rCon (.int 2147483647))) (rVar 0) (rCon (.int 1)))
    (sRet (rBin modD (rBin divD (rBin modD (rBin mulD (rBin ixD (rVar 0) (rCon (.int 1))) (rBin ixD (rVar 0) (rCon (.int 1)))) (rCon (.int 2147483629))) (rCon (.int 16))) (rVar 1)))))
def g_law_take : List D → Store → Res D := runDef 3 m_law_take
def lb1_law_least : RS := (sSet 2 (rBin addD (rVar 2) (rCon (.int 1))))
def m_law_least : RS := (sSeq (sSet 2 (rCon (.int 0)))
    (sSeq (whileN (rTest (rBin gtD (rBin subD (rBin shrD (rBin subD (rVar 1) (rCon (.int 1))) (rVar 2)) (rBin shrD (rVar 0) (rVar 2))) (rCon (.int 15))))
    lb1_law_least 100)
    (sRet (rTup (rCons (rBin shlD (rBin shrD (rVar 0) (rVar 2)) (rVar 2)) (rCons (rBin shlD (rBin addD (rBin shrD (rBin subD (rVar 1) (rCon (.int 1))) (rVar 2)) (rCon (.int 1))) (rVar 2)) (rCons (rVar 2) rNil)))))))
def g_law_least : List D → Store → Res D := runDef 3 m_law_least
def lb1_law_made : RS := (sSet 6 (rBin addD (rVar 6) (rBin shlD (rCal intD (rCons (rBin inD (rVar 8) (rVar 3)) rNil)) (rBin addD (rCon (.int 32)) (rVar 7)))))
def m_law_made : RS := (sSeq (sSet 5 (rBin ixD (rCall g_law_least (rCons (rVar 0) (rCons (rVar 1) rNil))) (rCon (.int 2))))
    (sSeq (sSet 6 (rBin addD (rBin addD (rBin addD (rVar 2) (rBin shlD (rBin shrD (rVar 0) (rVar 5)) (rCon (.int 12)))) (rBin shlD (rBin subD (rBin shrD (rBin subD (rVar 1) (rVar 0)) (rVar 5)) (rCon (.int 1))) (rCon (.int 24)))) (rBin shlD (rVar 5) (rCon (.int 28)))))
    (sSeq (sFor (rRan enumD (rCons (rCon (.str "rwlsnfxco")) rNil)) (.tp [7, 8])
    lb1_law_made)
    (sRet (rTup (rCons (rCon (.bl true)) (rCons (rBin addD (rVar 6) (rBin shlD (rVar 4) (rCon (.int 41)))) rNil)))))))
def g_law_made : List D → Store → Res D := runDef 9 m_law_made
def m_law_bounds : RS := (sSeq (sSet 1 (rBin ixD (rLst (rCons (rCon (.int 0)) (rCons (rCon (.int 1)) (rCons (rCon (.int 16)) (rCons (rCon (.int 2048)) (rCons (rCon (.int 4095)) (rCons (rCall g_law_take (rCons (rVar 0) (rCons (rCon (.int 4096)) rNil))) (rCons (rCall g_law_take (rCons (rVar 0) (rCons (rCon (.int 96)) rNil))) rNil)))))))) (rCall g_law_take (rCons (rVar 0) (rCons (rCon (.int 7)) rNil)))))
    (sSeq (sSet 2 (rBin ixD (rLst (rCons (rCon (.int 1)) (rCons (rCon (.int 2)) (rCons (rCon (.int 16)) (rCons (rCon (.int 17)) (rCons (rCon (.int 32)) (rCons (rCon (.int 33)) (rCons (rBin addD (rCon (.int 1)) (rCall g_law_take (rCons (rVar 0) (rCons (rCon (.int 64)) rNil)))) (rCons (rBin addD (rCon (.int 1)) (rCall g_law_take (rCons (rVar 0) (rCons (rCon (.int 4096)) rNil)))) rNil))))))))) (rCall g_law_take (rCons (rVar 0) (rCons (rCon (.int 8)) rNil)))))
    (sSeq (sAsg (.tp [3, 4, 5]) (rCall g_law_least (rCons (rVar 1) (rCons (rCal minD2 (rCons (rCon (.int 4096)) (rCons (rBin addD (rVar 1) (rVar 2)) rNil))) rNil))))
    (sRet (rTup (rCons (rVar 3) (rCons (rVar 4) rNil)))))))
def g_law_bounds : List D → Store → Res D := runDef 6 m_law_bounds
def m_law_rights : RS := (sSeq (sSet 1 (rCall g_law_take (rCons (rVar 0) (rCons (rCon (.int 8)) rNil))))
    (sSeq (sIf (rTest (rBin eqD (rVar 1) (rCon (.int 0))))
    (sRet (rBin ixD (rLst (rCons (rCon (.str "x")) (rCons (rCon (.str "fx")) rNil))) (rCall g_law_take (rCons (rVar 0) (rCons (rCon (.int 2)) rNil)))))
    sNil)
    (sSeq (sIf (rTest (rBin eqD (rVar 1) (rCon (.int 1))))
    (sRet (rBin ixD (rLst (rCons (rCon (.str "c")) (rCons (rCon (.str "o")) (rCons (rCon (.str "fco")) (rCons (rCon (.str "co")) (rCons (rCon (.str "fo")) rNil)))))) (rCall g_law_take (rCons (rVar 0) (rCons (rCon (.int 5)) rNil)))))
    sNil)
    (sSeq (sIf (rTest (rBin eqD (rVar 1) (rCon (.int 2))))
    (sRet (rBin ixD (rLst (rCons (rCon (.str "")) (rCons (rCon (.str "f")) rNil))) (rCall g_law_take (rCons (rVar 0) (rCons (rCon (.int 2)) rNil)))))
    sNil)
    (sSeq (sIf (rTest (rBin ltD (rVar 1) (rCon (.int 5))))
    (sRet (rBin ixD (rLst (rCons (rCon (.str "rwlsf")) (rCons (rCon (.str "rwlsn")) (rCons (rCon (.str "rwlsnf")) rNil)))) (rCall g_law_take (rCons (rVar 0) (rCons (rCon (.int 3)) rNil)))))
    sNil)
    (sRet (rMth "str" joinD (rCon (.str "")) (rCons (rLc frzL (rIt (rCon (.str "rwlsnf"))) (.nm 2) [2] (rTest (rBin gtD (rCall g_law_take (rCons (rVar 0) (rCons (rCon (.int 3)) rNil))) (rCon (.int 0)))) (rVar 2)) rNil))))))))
def g_law_rights : List D → Store → Res D := runDef 3 m_law_rights
def m_law_word : RS := (sSeq (sIf (rTest (rBin eqD (rCall g_law_take (rCons (rVar 0) (rCons (rCon (.int 5)) rNil))) (rCon (.int 0))))
    (sRet (rTup (rCons (rCon (.bl false)) (rCons (rBin ixD (rLst (rCons (rCon (.int 0)) (rCons (rCon (.int 1)) (rCons (rCon (.int 4095)) (rCons (rBin subD (rBin powD (rCon (.int 2)) (rCon (.int 45))) (rCon (.int 1))) (rCons (rCall g_law_take (rCons (rVar 0) (rCons (rBin powD (rCon (.int 2)) (rCon (.int 45))) rNil))) rNil)))))) (rCall g_law_take (rCons (rVar 0) (rCons (rCon (.int 5)) rNil)))) rNil))))
    sNil)
    (sSeq (sAsg (.tp [1, 2]) (rCall g_law_bounds (rCons (rVar 0) rNil)))
    (sSeq (sSet 3 (rCall g_law_rights (rCons (rVar 0) rNil)))
    (sSeq (sIf (rAndT (rOrT (rTest (rBin inD (rCon (.str "c")) (rVar 3))) (rTest (rBin inD (rCon (.str "o")) (rVar 3)))) (rTest (rBin gtD (rCall g_law_take (rCons (rVar 0) (rCons (rCon (.int 3)) rNil))) (rCon (.int 0)))))
    (sAsg (.tp [1, 2]) (rBin ixD (rLst (rCons (rTup (rCons (rCon (.int 3)) (rCons (rCon (.int 16)) rNil))) (rCons (rTup (rCons (rCon (.int 3)) (rCons (rCon (.int 4)) rNil))) (rCons (rTup (rCons (rCon (.int 5)) (rCons (rCon (.int 9)) rNil))) (rCons (rTup (rCons (rCon (.int 0)) (rCons (rCon (.int 16)) rNil))) (rCons (rTup (rCons (rCon (.int 2)) (rCons (rCon (.int 5)) rNil))) rNil)))))) (rCall g_law_take (rCons (rVar 0) (rCons (rCon (.int 5)) rNil)))))
    sNil)
    (sSeq (sSet 4 (rBin ixD (rLst (rCons (rVar 1) (rCons (rBin subD (rVar 2) (rCon (.int 1))) (rCons (rBin modD (rVar 2) (rCon (.int 4096))) (rCons (rBin addD (rVar 1) (rCall g_law_take (rCons (rVar 0) (rCons (rBin subD (rVar 2) (rVar 1)) rNil)))) (rCons (rCall g_law_take (rCons (rVar 0) (rCons (rCon (.int 4096)) rNil))) rNil)))))) (rCall g_law_take (rCons (rVar 0) (rCons (rCon (.int 5)) rNil)))))
    (sSeq (sSet 5 (rBin ixD (rLst (rCons (rCon (.int 0)) (rCons (rCon (.int 0)) (rCons (rCon (.int 0)) (rCons (rCon (.int 1)) (rCons (rCon (.int 2)) (rCons (rCon (.int 3)) (rCons (rCon (.int 4)) (rCons (rCon (.int 15)) (rCons (rCall g_law_take (rCons (rVar 0) (rCons (rCon (.int 16)) rNil))) rNil)))))))))) (rCall g_law_take (rCons (rVar 0) (rCons (rCon (.int 9)) rNil)))))
    (sSeq (sSet 6 (rCall g_law_made (rCons (rVar 1) (rCons (rVar 2) (rCons (rVar 4) (rCons (rVar 3) (rCons (rVar 5) rNil)))))))
    (sRet (rBin ixD (rLst (rCons (rVar 6) (rCons (rVar 6) (rCons (rVar 6) (rCons (rVar 6) (rCons (rTup (rCons (rCon (.bl false)) (rCons (rBin ixD (rVar 6) (rCon (.int 1))) rNil))) rNil)))))) (rCall g_law_take (rCons (rVar 0) (rCons (rCon (.int 5)) rNil))))))))))))
def g_law_word : List D → Store → Res D := runDef 7 m_law_word
def m_Cells_put : RS := (sIf (rTest (rBin eqD (rVar 2) (rCon (.tup [.bl false, .int 0]))))
    (sExp (rMth "dict" popDM (rUn (atrD (isC cl_Cells) "own_cells") (rVar 0)) (rCons (rVar 1) (rCons (rCon .non) rNil))))
    (sPutD (rVar 2) (rUn (atrD (isC cl_Cells) "own_cells") (rVar 0)) (rVar 1)))
def g_Cells_put : List D → Store → Res D := runDef 3 m_Cells_put
def m_Cells_lay : RS := (sSeq (sIf (rNotT (rTruth (rCall g_is_address (rCons (rVar 1) rNil))))
    (sRaise0 cl_NoAddress)
    sNil)
    (sSeq (sIf (rNotT (rTruth (rCall g_is_lawful (rCons (rVar 2) rNil))))
    (sRaise0 cl_NoWord)
    sNil)
    (sExp (rMet cl_Cells "put" g_Cells_put (rVar 0) (rCons (rVar 1) (rCons (rVar 2) rNil))))))
def g_Cells_lay : List D → Store → Res D := runDef 3 m_Cells_lay
def m_Cells_marked : RS := (sSeq (sExp (rCall g_look_at_bounds (rCons (rVar 1) (rCons (rVar 2) rNil))))
    (sRet (rLc mutL (rIt (rCal sortX (rCons (rUn (atrD (isC cl_Cells) "own_cells") (rVar 0)) rNil))) (.nm 3) [3] (rAndT (rTest (rChain (rVar 1) (rLink leD (rVar 3) (rLast ltD (rVar 2))))) (rTruth (rBin ixD (rBin dixD (rUn (atrD (isC cl_Cells) "own_cells") (rVar 0)) (rVar 3)) (rCon (.int 0))))) (rVar 3))))
def g_Cells_marked : List D → Store → Res D := runDef 4 m_Cells_marked
def lb1_Cells_clear : RS := (sExp (rMth "dict" popDM (rUn (atrD (isC cl_Cells) "own_cells") (rVar 0)) (rCons (rVar 3) (rCons (rCon .non) rNil))))
def m_Cells_clear : RS := (sSeq (sExp (rCall g_look_at_bounds (rCons (rVar 1) (rCons (rVar 2) rNil))))
    (sFor (rRan ran2 (rCons (rVar 1) (rCons (rVar 2) rNil))) (.nm 3)
    lb1_Cells_clear))
def g_Cells_clear : List D → Store → Res D := runDef 4 m_Cells_clear
def m_Cells_cell : RS := (sSeq (sIf (rNotT (rTruth (rCall g_is_address (rCons (rVar 1) rNil))))
    (sRaise0 cl_NoAddress)
    sNil)
    (sRet (rMth "dict" getDM (rUn (atrD (isC cl_Cells) "own_cells") (rVar 0)) (rCons (rVar 1) (rCons (rCon (.tup [.bl false, .int 0])) rNil)))))
def g_Cells_cell : List D → Store → Res D := runDef 2 m_Cells_cell
def m_Cells_put_lowest : RS := (sSeq (sSet 3 (rBin ixD (rMet cl_Cells "cell" g_Cells_cell (rVar 0) (rCons (rVar 1) rNil)) (rCon (.int 1))))
    (sExp (rMet cl_Cells "put" g_Cells_put (rVar 0) (rCons (rVar 1) (rCons (rTup (rCons (rCon (.bl false)) (rCons (rBin addD (rBin subD (rVar 3) (rBin modD (rVar 3) (rCon (.int 268435456)))) (rBin modD (rVar 2) (rCon (.int 268435456)))) rNil))) rNil)))))
def g_Cells_put_lowest : List D → Store → Res D := runDef 4 m_Cells_put_lowest
def m_Cells_poke : RS := (sExp (rMet cl_Cells "put_lowest" g_Cells_put_lowest (rVar 0) (rCons (rCallK g_address_by [.p 0, .p 1, .p 2, .c (.bl false)] (rCons (rVar 1) (rCons (rVar 2) (rCons (rCon (.str "w")) rNil))) rNil) (rCons (rVar 3) rNil))))
def g_Cells_poke : List D → Store → Res D := runDef 4 m_Cells_poke
def m_Cells_store : RS := (sSeq (sSet 4 (rCallK g_address_by [.p 0, .p 1, .p 2, .c (.bl false)] (rCons (rVar 1) (rCons (rVar 2) (rCons (rCon (.str "w")) rNil))) rNil))
    (sSeq (sExp (rCall g_look_at_stored (rCons (rVar 1) (rCons (rVar 3) rNil))))
    (sExp (rMet cl_Cells "put" g_Cells_put (rVar 0) (rCons (rVar 4) (rCons (rVar 3) rNil))))))
def g_Cells_store : List D → Store → Res D := runDef 5 m_Cells_store
def m_Cells_load : RS := (sSeq (sSet 3 (rMet cl_Cells "cell" g_Cells_cell (rVar 0) (rCons (rCallK g_address_by [.p 0, .p 1, .p 2, .c (.bl false)] (rCons (rVar 1) (rCons (rVar 2) (rCons (rCon (.str "r")) rNil))) rNil) rNil)))
    (sRet (rIf (rTest (rBin inD (rCon (.str "l")) (rBin ixD (rCall g_fields_of (rCons (rVar 1) rNil)) (rCon (.int 3))))) (rVar 3) (rCall g_bare (rCons (rVar 3) rNil)))))
def g_Cells_load : List D → Store → Res D := runDef 4 m_Cells_load
def m_law_said : RS := (sSeq (sSet 4 (rCon .non))
    (sSeq (sTryAs sub_ReachError 5
    (sIf (rTest (rBin eqD (rVar 1) (rCon (.int 0))))
    (sExp (rMet cl_Cells "cell" g_Cells_cell (rVar 0) (rCons (rVar 2) rNil)))
    (sIf (rTest (rBin eqD (rVar 1) (rCon (.int 1))))
    (sExp (rMet cl_Cells "lay" g_Cells_lay (rVar 0) (rCons (rVar 2) (rCons (rVar 3) rNil))))
    (sIf (rTest (rBin eqD (rVar 1) (rCon (.int 2))))
    (sExp (rMet cl_Cells "lay" g_Cells_lay (rVar 0) (rCons (rCon (.int 5)) (rCons (rVar 2) rNil))))
    (sIf (rTest (rBin eqD (rVar 1) (rCon (.int 3))))
    (sExp (rMet cl_Cells "load" g_Cells_load (rVar 0) (rCons (rVar 3) (rCons (rVar 2) rNil))))
    (sIf (rTest (rBin eqD (rVar 1) (rCon (.int 4))))
    (sExp (rMet cl_Cells "store" g_Cells_store (rVar 0) (rCons (rVar 3) (rCons (rVar 2) (rCons (rTup (rCons (rCon (.bl false)) (rCons (rCon (.int 0)) rNil))) rNil)))))
    (sIf (rTest (rBin eqD (rVar 1) (rCon (.int 5))))
    (sExp (rMet cl_Cells "poke" g_Cells_poke (rVar 0) (rCons (rVar 3) (rCons (rVar 2) (rCons (rCon (.int 0)) rNil)))))
    (sIf (rTest (rBin eqD (rVar 1) (rCon (.int 6))))
    (sExp (rMet cl_Cells "clear" g_Cells_clear (rVar 0) (rCons (rVar 2) (rCons (rCon (.int 4)) rNil))))
    (sIf (rTest (rBin eqD (rVar 1) (rCon (.int 7))))
    (sExp (rMetD cl_Cells "marked" g_Cells_marked [] (rVar 0) (rCons (rVar 2) (rCons (rCon (.int 4)) rNil))))
    (sIf (rTest (rBin eqD (rVar 1) (rCon (.int 8))))
    (sExp (rMet cl_Cells "clear" g_Cells_clear (rVar 0) (rCons (rCon (.int 0)) (rCons (rVar 2) rNil))))
    (sIf (rTest (rBin eqD (rVar 1) (rCon (.int 9))))
    (sExp (rMetD cl_Cells "marked" g_Cells_marked [] (rVar 0) (rCons (rCon (.int 0)) (rCons (rVar 2) rNil))))
    (sIf (rTest (rBin eqD (rVar 1) (rCon (.int 10))))
    (sExp (rMet cl_Cells "clear" g_Cells_clear (rVar 0) (rCons (rBin ixD (rVar 2) (rCon (.int 0))) (rCons (rBin ixD (rVar 2) (rCon (.int 1))) rNil))))
    (sIf (rTest (rBin eqD (rVar 1) (rCon (.int 11))))
    (sExp (rMetD cl_Cells "marked" g_Cells_marked [] (rVar 0) (rCons (rBin ixD (rVar 2) (rCon (.int 0))) (rCons (rBin ixD (rVar 2) (rCon (.int 1))) rNil))))
    (sExp (rMet cl_Cells "lay" g_Cells_lay (rVar 0) (rCons (rVar 2) (rCons (rCon .non) rNil))))))))))))))))
    (sSet 4 (rVar 5)))
    (sSeq (sSet 6 (rLst (rCons (rUn (isiQ kq_NoAddress) (rVar 4)) (rCons (rUn (isiQ kq_NoWord) (rVar 4)) (rCons (rUn (isiQ kq_NoOffset) (rVar 4)) rNil)))))
    (sSeq (sSet 6 (rBin addD (rVar 6) (rLst (rCons (rUn (isiQ kq_NoBounds) (rVar 4)) (rCons (rUn (isiQ kq_Fault) (rVar 4)) rNil)))))
    (sRet (rLc frzL (rRan ran1 (rCons (rCon (.int 5)) rNil)) (.nm 7) [7] (rTruth (rBin ixD (rVar 6) (rVar 7))) (rVar 7)))))))
def g_law_said : List D → Store → Res D := runDef 8 m_law_said
def lb1_law_odd_so : RS := (sSeq (sIf (rOrT (rTest (rBin neD (rCall g_law_said (rCons (rVar 0) (rCons (rCon (.int 0)) (rCons (rVar 4) (rCons (rVar 1) rNil))))) (rLst (rCons (rCon (.int 0)) rNil)))) (rTest (rBin neD (rCall g_law_said (rCons (rVar 0) (rCons (rCon (.int 1)) (rCons (rVar 4) (rCons (rVar 1) rNil))))) (rLst (rCons (rCon (.int 0)) rNil)))))
    (sRet (rCon (.bl false)))
    sNil)
    (sIf (rOrT (rTest (rBin neD (rCall g_law_said (rCons (rVar 0) (rCons (rCon (.int 6)) (rCons (rVar 4) (rCons (rVar 1) rNil))))) (rLst (rCons (rCon (.int 3)) rNil)))) (rTest (rBin neD (rCall g_law_said (rCons (rVar 0) (rCons (rCon (.int 7)) (rCons (rVar 4) (rCons (rVar 1) rNil))))) (rLst (rCons (rCon (.int 3)) rNil)))))
    (sRet (rCon (.bl false)))
    sNil))
def lb2_law_odd_so : RS := (sIf (rOrT (rTest (rBin neD (rCall g_law_said (rCons (rVar 0) (rCons (rCon (.int 8)) (rCons (rVar 4) (rCons (rVar 1) rNil))))) (rLst (rCons (rCon (.int 3)) rNil)))) (rTest (rBin neD (rCall g_law_said (rCons (rVar 0) (rCons (rCon (.int 9)) (rCons (rVar 4) (rCons (rVar 1) rNil))))) (rLst (rCons (rCon (.int 3)) rNil)))))
    (sRet (rCon (.bl false)))
    sNil)
def lb3_law_odd_so : RS := (sIf (rOrT (rTest (rBin neD (rCall g_law_said (rCons (rVar 0) (rCons (rCon (.int 10)) (rCons (rVar 4) (rCons (rVar 1) rNil))))) (rLst (rCons (rCon (.int 3)) rNil)))) (rTest (rBin neD (rCall g_law_said (rCons (rVar 0) (rCons (rCon (.int 11)) (rCons (rVar 4) (rCons (rVar 1) rNil))))) (rLst (rCons (rCon (.int 3)) rNil)))))
    (sRet (rCon (.bl false)))
    sNil)
def lb4_law_odd_so : RS := (sIf (rTest (rBin neD (rCall g_law_said (rCons (rVar 0) (rCons (rCon (.int 2)) (rCons (rVar 4) (rCons (rVar 1) rNil))))) (rLst (rCons (rCon (.int 1)) rNil))))
    (sRet (rCon (.bl false)))
    sNil)
def lb5_law_odd_so : RS := (sIf (rTest (rBin neD (rLc frzL (rIt (rTup (rCons (rCon (.int 3)) (rCons (rCon (.int 4)) (rCons (rCon (.int 5)) rNil))))) (.nm 6) [6] rYes (rCall g_law_said (rCons (rVar 0) (rCons (rVar 6) (rCons (rVar 4) (rCons (rVar 1) rNil)))))) (rBin mulL (rLst (rCons (rLst (rCons (rCon (.int 2)) rNil)) rNil)) (rCon (.int 3)))))
    (sRet (rCon (.bl false)))
    sNil)
def m_law_odd_so : RS := (sSeq (sSet 2 (rCal reprD (rCons (rLc frzL (rRan ran1 (rCons (rCon (.int 64)) rNil)) (.nm 3) [3] rYes (rMet cl_Cells "cell" g_Cells_cell (rVar 0) (rCons (rVar 3) rNil))) rNil)))
    (sSeq (sFor (rIt (rLst (rCons (rCon .non) (rCons (rCon (.bl true)) (rCons (rUn negD (rCon (.int 1))) (rCons (rCon (.int 4096)) (rCons (rBin powD (rCon (.int 10)) (rCon (.int 20))) (rCons (rCon (.str "1")) (rCons (rTup (rCons (rCon (.int 1)) rNil)) (rCons (rLst (rCons (rCon (.int 1)) rNil)) rNil)))))))))) (.nm 4)
    lb1_law_odd_so)
    (sSeq (sFor (rIt (rLst (rCons (rCon .non) (rCons (rCon (.bl true)) (rCons (rUn negD (rCon (.int 1))) (rCons (rCon (.int 0)) (rCons (rCon (.int 4097)) (rCons (rBin powD (rCon (.int 10)) (rCon (.int 20))) (rCons (rCon (.str "4")) (rCons (rTup (rCons (rCon (.int 4)) rNil)) (rCons (rLst (rCons (rCon (.int 4)) rNil)) rNil))))))))))) (.nm 4)
    lb2_law_odd_so)
    (sSeq (sFor (rIt (rLst (rCons (rTup (rCons (rCon (.int 5)) (rCons (rCon (.int 4)) rNil))) (rCons (rTup (rCons (rCon (.int 4)) (rCons (rCon (.int 4)) rNil))) (rCons (rTup (rCons (rCon (.int 4096)) (rCons (rCon (.int 4096)) rNil))) (rCons (rTup (rCons (rCon (.int 4095)) (rCons (rCon (.int 4097)) rNil))) rNil)))))) (.nm 4)
    lb3_law_odd_so)
    (sSeq (sIf (rTest (rBin neD (rLc frzL (rIt (rLst (rCons (rUn negD (rCon (.int 1))) (rCons (rCon .non) (rCons (rCon (.int 5)) rNil))))) (.nm 4) [4] rYes (rCall g_law_said (rCons (rVar 0) (rCons (rCon (.int 12)) (rCons (rVar 4) (rCons (rVar 1) rNil)))))) (rLst (rCons (rLst (rCons (rCon (.int 0)) rNil)) (rCons (rLst (rCons (rCon (.int 0)) rNil)) (rCons (rLst (rCons (rCon (.int 1)) rNil)) rNil))))))
    (sRet (rCon (.bl false)))
    sNil)
    (sSeq (sSet 5 (rLst (rCons (rCon .non) (rCons (rCon (.int 5)) (rCons (rTup (rCons (rCon (.bl true)) (rCons (rBin powD (rCon (.int 2)) (rCon (.int 45))) rNil))) (rCons (rTup (rCons (rCon (.bl true)) (rCons (rBin shlD (rCon (.int 9)) (rCon (.int 28))) rNil))) (rCons (rTup (rCons (rCon (.int 1)) (rCons (rCon (.int 5)) rNil))) (rCons (rTup (rCons (rCon (.bl false)) (rCons (rUn negD (rCon (.int 1))) rNil))) (rCons (rLst (rCons (rCon (.bl false)) (rCons (rCon (.int 0)) rNil))) rNil)))))))))
    (sSeq (sFor (rIt (rBin addD (rVar 5) (rLst (rCons (rTup (rCons (rCon (.bl true)) (rCons (rBin orD (rBin shlD (rCon (.int 1)) (rCon (.int 32))) (rBin shlD (rCon (.int 1)) (rCon (.int 38)))) rNil))) rNil)))) (.nm 4)
    lb4_law_odd_so)
    (sSeq (sFor (rIt (rLst (rCons (rCon .non) (rCons (rCon (.bl true)) (rCons (rUn negD (rCon (.int 9))) (rCons (rCon (.int 16)) (rCons (rCon (.str "0")) (rCons (rTup (rCons (rCon (.int 0)) rNil)) rNil)))))))) (.nm 4)
    lb5_law_odd_so)
    (sRet (rBin eqD (rCal reprD (rCons (rLc frzL (rRan ran1 (rCons (rCon (.int 64)) rNil)) (.nm 3) [3] rYes (rMet cl_Cells "cell" g_Cells_cell (rVar 0) (rCons (rVar 3) rNil))) rNil)) (rVar 2)))))))))))
def g_law_odd_so : List D → Store → Res D := runDef 7 m_law_odd_so
def lb1_law_laid : RS := (sSeq (sSet 4 (rBin ixD (rLst (rCons (rCall g_law_take (rCons (rVar 0) (rCons (rCon (.int 64)) rNil))) (rCons (rCall g_law_take (rCons (rVar 0) (rCons (rCon (.int 4096)) rNil))) (rCons (rCon (.int 0)) (rCons (rCon (.int 4095)) rNil))))) (rCall g_law_take (rCons (rVar 0) (rCons (rCon (.int 4)) rNil)))))
    (sSeq (sPutD (rBin ixD (rLst (rCons (rCall g_law_word (rCons (rVar 0) rNil)) (rCons (rTup (rCons (rCon (.bl false)) (rCons (rCon (.int 0)) rNil))) rNil))) (rCal intD (rCons (rBin eqD (rCall g_law_take (rCons (rVar 0) (rCons (rCon (.int 4)) rNil))) (rCon (.int 0))) rNil))) (rVar 2) (rVar 4))
    (sIf (rTest (rBin isNot (rMet cl_Cells "lay" g_Cells_lay (rVar 1) (rCons (rVar 4) (rCons (rBin dixD (rVar 2) (rVar 4)) rNil))) (rCon .non)))
    (sRet (rCon (.bl false)))
    sNil)))
def m_law_laid : RS := (sSeq (sFor (rRan ran1 (rCons (rCon (.int 8)) rNil)) (.nm 3)
    lb1_law_laid)
    (sRet (rCon (.bl true))))
def g_law_laid : List D → Store → Res D := runDef 5 m_law_laid
def lb1_law_same : RS := (sIf (rTest (rBin neD (rCal reprD (rCons (rMet cl_Cells "cell" g_Cells_cell (rVar 0) (rCons (rVar 2) rNil)) rNil)) (rCal reprD (rCons (rMth "dict" getDM (rVar 1) (rCons (rVar 2) (rCons (rTup (rCons (rCon (.bl false)) (rCons (rCon (.int 0)) rNil))) rNil))) rNil))))
    (sRet (rCon (.bl false)))
    sNil)
def m_law_same : RS := (sSeq (sFor (rIt (rBin addD (rCal sortX (rCons (rVar 1) rNil)) (rLst (rCons (rCon (.int 0)) (rCons (rCon (.int 1)) (rCons (rCon (.int 4095)) rNil)))))) (.nm 2)
    lb1_law_same)
    (sRet (rBin eqD (rMetD cl_Cells "marked" g_Cells_marked [0, 4096] (rVar 0) rNil) (rLc frzL (rIt (rCal sortX (rCons (rVar 1) rNil))) (.nm 2) [2] (rTruth (rBin ixD (rBin dixD (rVar 1) (rVar 2)) (rCon (.int 0)))) (rVar 2)))))
def g_law_same : List D → Store → Res D := runDef 3 m_law_same
def m_Cells_eq : RS := (sRet (rAnd (rUn (isiO ko_Cells kq_Cells) (rVar 1)) (rBin eqKD (rUn (atrD (isC cl_Cells) "own_cells") (rVar 0)) (rUn (atrD (isC cl_Cells) "own_cells") (rVar 1)))))
def g_Cells_eq : List D → Store → Res D := runDef 2 m_Cells_eq
def m_Cells_init : RS := (sPutA (isC cl_Cells) "own_cells" rDct0M (rVar 0))
def g_Cells_init : List D → Store → Res D := runDef 1 m_Cells_init
def m_Cells_twin : RS := (sSeq (sSet 1 (rMake cl_Cells g_Cells_init rNil))
    (sSeq (sPutA (isC cl_Cells) "own_cells" (rDictM (rCons (rUn (atrD (isC cl_Cells) "own_cells") (rVar 0)) rNil)) (rVar 1))
    (sRet (rVar 1))))
def g_Cells_twin : List D → Store → Res D := runDef 2 m_Cells_twin
def m_law_emptied_so : RS := (sSeq (sSet 1 (rMake cl_Cells g_Cells_init rNil))
    (sSeq (sExp (rMet cl_Cells "lay" g_Cells_lay (rVar 1) (rCons (rCon (.int 5)) (rCons (rVar 0) rNil))))
    (sSeq (sExp (rMet cl_Cells "lay" g_Cells_lay (rVar 1) (rCons (rCon (.int 5)) (rCons (rTup (rCons (rCon (.bl false)) (rCons (rCon (.int 0)) rNil))) rNil))))
    (sSeq (sSet 2 (rCall g_law_made (rCons (rCon (.int 0)) (rCons (rCon (.int 16)) (rCons (rCon (.int 5)) (rCons (rCon (.str "rwsf")) (rCons (rCon (.int 0)) rNil)))))))
    (sSeq (sExp (rMet cl_Cells "store" g_Cells_store (rVar 1) (rCons (rVar 2) (rCons (rCon (.int 0)) (rCons (rTup (rCons (rCon (.bl false)) (rCons (rCon (.int 0)) rNil))) rNil)))))
    (sSeq (sExp (rMet cl_Cells "poke" g_Cells_poke (rVar 1) (rCons (rVar 2) (rCons (rCon (.int 1)) (rCons (rCon (.int 0)) rNil)))))
    (sSeq (sExp (rMet cl_Cells "poke" g_Cells_poke (rVar 1) (rCons (rVar 2) (rCons (rCon (.int 2)) (rCons (rBin powD (rCon (.int 2)) (rCon (.int 28))) rNil)))))
    (sRet (rAnd (rBinS (eqO cl_Cells g_Cells_eq false) (rVar 1) (rMake cl_Cells g_Cells_init rNil)) (rAnd (rBin eqD (rMetD cl_Cells "marked" g_Cells_marked [0, 4096] (rVar 1) rNil) (rLst rNil)) (rBinS (eqO cl_Cells g_Cells_eq false) (rMet cl_Cells "twin" g_Cells_twin (rVar 1) rNil) (rMake cl_Cells g_Cells_init rNil))))))))))))
def g_law_emptied_so : List D → Store → Res D := runDef 3 m_law_emptied_so
def lb1_law : RS := (sSeq (sSet 2 (rCall g_law_pool (rCons (rVar 0) (rCons (rVar 1) rNil))))
    (sSeq (sAsg (.tp [3, 4]) (rTup (rCons (rMake cl_Cells g_Cells_init rNil) (rCons rDct0M rNil))))
    (sSeq (sIf (rOrT (rTest (rBinS (eqO cl_Cells g_Cells_eq true) (rVar 3) (rMake cl_Cells g_Cells_init rNil))) (rOrT (rTest (rBinS (eqOT cl_Cells g_Cells_eq) (rVar 3) (rCon (.str "cells")))) (rOrT (rNotT (rTruth (rCall g_law_laid (rCons (rVar 2) (rCons (rVar 3) (rCons (rVar 4) rNil)))))) (rNotT (rTruth (rCall g_law_same (rCons (rVar 3) (rCons (rVar 4) rNil))))))))
    (sRet (rCon (.bl false)))
    sNil)
    (sSeq (sSet 5 (rMet cl_Cells "twin" g_Cells_twin (rVar 3) rNil))
    (sSeq (sIf (rOrT (rTest (rBinS (eqO cl_Cells g_Cells_eq true) (rVar 5) (rVar 3))) (rOrT (rNotT (rTruth (rCall g_law_odd_so (rCons (rVar 3) (rCons (rCall g_law_word (rCons (rVar 2) rNil)) rNil))))) (rTest (rBinS (eqO cl_Cells g_Cells_eq true) (rVar 5) (rVar 3)))))
    (sRet (rCon (.bl false)))
    sNil)
    (sSeq (sSet 6 (rCall g_law_take (rCons (rVar 2) (rCons (rCon (.int 64)) rNil))))
    (sSeq (sSet 7 (rBin addD (rBin addD (rVar 6) (rCon (.int 1))) (rCall g_law_take (rCons (rVar 2) (rCons (rBin ixD (rLst (rCons (rCon (.int 64)) (rCons (rBin subD (rCon (.int 4096)) (rVar 6)) rNil))) (rCall g_law_take (rCons (rVar 2) (rCons (rCon (.int 2)) rNil)))) rNil)))))
    (sSeq (sSet 8 (rDictM (rCons (rVar 4) rNil)))
    (sSeq (sSet 9 (rLc frzL (rIt (rCal sortX (rCons (rVar 4) rNil))) (.nm 10) [10] (rAndT (rTest (rChain (rVar 6) (rLink leD (rVar 10) (rLast ltD (rVar 7))))) (rTruth (rBin ixD (rBin dixD (rVar 4) (rVar 10)) (rCon (.int 0))))) (rVar 10)))
    (sSeq (sSet 11 (rMetD cl_Cells "marked" g_Cells_marked [0, 4096] (rVar 3) rNil))
    (sSeq (sIf (rOrT (rTest (rBin neD (rMetD cl_Cells "marked" g_Cells_marked [] (rVar 3) (rCons (rVar 6) (rCons (rVar 7) rNil))) (rVar 9))) (rTest (rBin isNot (rMet cl_Cells "clear" g_Cells_clear (rVar 3) (rCons (rVar 6) (rCons (rVar 7) rNil))) (rCon .non))))
    (sRet (rCon (.bl false)))
    sNil)
    (sSeq (sExp (rMth "list" appendL (rMetD cl_Cells "marked" g_Cells_marked [0, 4096] (rVar 3) rNil) (rCons (rCon .non) rNil)))
    (sSeq (sIf (rTest (rBin neD (rVar 11) (rLc frzL (rIt (rCal sortX (rCons (rVar 8) rNil))) (.nm 10) [10] (rTruth (rBin ixD (rBin dixD (rVar 8) (rVar 10)) (rCon (.int 0)))) (rVar 10))))
    (sRet (rCon (.bl false)))
    sNil)
    (sSeq (sSet 4 (rCal dictL (rCons (rLock (tgV 4) (rLcK frzL (rVar 4) (.nm 10) [10] (rNotT (rTest (rChain (rVar 6) (rLink leD (rVar 10) (rLast ltD (rVar 7)))))) (rTup (rCons (rVar 10) (rCons (rBin dixR (rVar 4) (rVar 10)) rNil))) 1000)) rNil)))
    (sSeq (sIf (rOrT (rNotT (rTruth (rCall g_law_same (rCons (rVar 3) (rCons (rVar 4) rNil))))) (rNotT (rTruth (rCall g_law_same (rCons (rVar 5) (rCons (rVar 8) rNil))))))
    (sRet (rCon (.bl false)))
    sNil)
    (sSeq (sIf (rTest (rBin neD (rLock (tgV 8) (rLcK frzL (rVar 8) (.nm 10) [10] (rTest (rBin neD (rMet cl_Cells "cell" g_Cells_cell (rVar 3) (rCons (rVar 10) rNil)) (rMth "dict" getDM (rVar 4) (rCons (rVar 10) (rCons (rTup (rCons (rCon (.bl false)) (rCons (rCon (.int 0)) rNil))) rNil))))) (rVar 10) 1000)) (rLst rNil)))
    (sRet (rCon (.bl false)))
    sNil)
    (sSeq (sLock (tgV 8) (sSet 12 (rLcK frzL (rVar 8) (.nm 10) [10] (rAndT (rTest (rBin dninR (rVar 10) (rVar 4))) (rTest (rBin neD (rBin dixR (rVar 8) (rVar 10)) (rTup (rCons (rCon (.bl false)) (rCons (rCon (.int 0)) rNil)))))) (rVar 10) 1000)))
    (sSeq (sIf (rTest (rBin neD (rBinS (eqO cl_Cells g_Cells_eq false) (rVar 3) (rVar 5)) (rBin eqD (rVar 12) (rLst rNil))))
    (sRet (rCon (.bl false)))
    sNil)
    (sSeq (sExp (rMet cl_Cells "lay" g_Cells_lay (rVar 5) (rCons (rCon (.int 5)) (rCons (rTup (rCons (rCon (.bl false)) (rCons (rCon (.int 77)) rNil))) rNil))))
    (sSeq (sExp (rMet cl_Cells "poke" g_Cells_poke (rVar 5) (rCons (rCall g_law_made (rCons (rCon (.int 0)) (rCons (rCon (.int 16)) (rCons (rCon (.int 3)) (rCons (rCon (.str "rw")) (rCons (rCon (.int 0)) rNil)))))) (rCons (rCon (.int 0)) (rCons (rCon (.int 4)) rNil)))))
    (sSeq (sExp (rMet cl_Cells "store" g_Cells_store (rVar 5) (rCons (rCall g_law_made (rCons (rCon (.int 0)) (rCons (rCon (.int 16)) (rCons (rCon (.int 3)) (rCons (rCon (.str "rw")) (rCons (rCon (.int 0)) rNil)))))) (rCons (rCon (.int 1)) (rCons (rTup (rCons (rCon (.bl false)) (rCons (rCon (.int 4)) rNil))) rNil)))))
    (sSeq (sExp (rMet cl_Cells "clear" g_Cells_clear (rVar 5) (rCons (rCon (.int 8)) (rCons (rCon (.int 12)) rNil))))
    (sIf (rOrT (rNotT (rTruth (rCall g_law_same (rCons (rVar 3) (rCons (rVar 4) rNil))))) (rNotT (rTruth (rCall g_law_emptied_so (rCons (rCall g_law_word (rCons (rVar 2) rNil)) rNil)))))
    (sRet (rCon (.bl false)))
    sNil)))))))))))))))))))))))
def m_law : RS := (sSeq (sFor (rRan ran1 (rCons (rCal maxD2 (rCons (rCon (.int 1)) (rCons (rCal minD2 (rCons (rCal lenD (rCons (rVar 0) rNil)) (rCons (rCon (.int 8)) rNil))) rNil))) rNil)) (.nm 1)
    lb1_law)
    (sRet (rCon (.bl true))))
def g_law : List D → Store → Res D := runDef 13 m_law
structure Txt (w : World) (K : PySem.W.Frag) (mg : Str → Option Value) (C A : Nat → Addr) (fd : Nat → FuncData) : Prop where
  f_is_whole : Fun K "is_whole" "is_whole" s_is_whole (A 0) (fd 0)
  b_is_whole : Binds K (fd 0) ["thing"] []
  g_is_whole : mg "is_whole" = some (.ref (A 0))
  f_look_at_bounds : Fun K "look_at_bounds" "look_at_bounds" s_look_at_bounds (A 1) (fd 1)
  b_look_at_bounds : Binds K (fd 1) ["low", "high"] []
  g_look_at_bounds : mg "look_at_bounds" = some (.ref (A 1))
  f_from_bits : Fun K "from_bits" "from_bits" s_from_bits (A 2) (fd 2)
  b_from_bits : Binds K (fd 2) ["step", "first", "count"] []
  g_from_bits : mg "from_bits" = some (.ref (A 2))
  f_is_word : Fun K "is_word" "is_word" s_is_word (A 3) (fd 3)
  b_is_word : Binds K (fd 3) ["thing"] []
  g_is_word : mg "is_word" = some (.ref (A 3))
  f_are_lawful : Fun K "are_lawful" "are_lawful" s_are_lawful (A 4) (fd 4)
  b_are_lawful : Binds K (fd 4) ["rights"] []
  g_are_lawful : mg "are_lawful" = some (.ref (A 4))
  f_rights_in : Fun K "rights_in" "rights_in" s_rights_in (A 5) (fd 5)
  b_rights_in : Binds K (fd 5) ["bits"] []
  g_rights_in : mg "rights_in" = some (.ref (A 5))
  f_fields_of : Fun K "fields_of" "fields_of" s_fields_of (A 6) (fd 6)
  b_fields_of : Binds K (fd 6) ["word"] []
  g_fields_of : mg "fields_of" = some (.ref (A 6))
  f_is_lawful : Fun K "is_lawful" "is_lawful" s_is_lawful (A 7) (fd 7)
  b_is_lawful : Binds K (fd 7) ["thing"] []
  g_is_lawful : mg "is_lawful" = some (.ref (A 7))
  f_bare : Fun K "bare" "bare" s_bare (A 8) (fd 8)
  b_bare : Binds K (fd 8) ["word"] []
  g_bare : mg "bare" = some (.ref (A 8))
  f_look_at_offset : Fun K "look_at_offset" "look_at_offset" s_look_at_offset (A 9) (fd 9)
  b_look_at_offset : Binds K (fd 9) ["offset"] []
  g_look_at_offset : mg "look_at_offset" = some (.ref (A 9))
  f_is_address : Fun K "is_address" "is_address" s_is_address (A 10) (fd 10)
  b_is_address : Binds K (fd 10) ["thing"] []
  g_is_address : mg "is_address" = some (.ref (A 10))
  f_address_by : FunD K "address_by" "address_by" (defArgs s_address_by) (defBody s_address_by) (defScope s_address_by) [] [("sealed", .bl false)] (A 11) (fd 11)
  g_address_by : mg "address_by" = some (.ref (A 11))
  f_look_at_stored : Fun K "look_at_stored" "look_at_stored" s_look_at_stored (A 12) (fd 12)
  b_look_at_stored : Binds K (fd 12) ["word", "what"] []
  g_look_at_stored : mg "look_at_stored" = some (.ref (A 12))
  f_law_pool : Fun K "_law_pool" "_law_pool" s_law_pool (A 13) (fd 13)
  b_law_pool : Binds K (fd 13) ["_law_script", "_law_k"] []
  g_law_pool : mg "_law_pool" = some (.ref (A 13))
  f_law_take : Fun K "_law_take" "_law_take" s_law_take (A 14) (fd 14)
  b_law_take : Binds K (fd 14) ["_law_pool_here", "_law_many"] []
  g_law_take : mg "_law_take" = some (.ref (A 14))
  f_law_least : Fun K "_law_least" "_law_least" s_law_least (A 15) (fd 15)
  b_law_least : Binds K (fd 15) ["_law_low", "_law_high"] []
  g_law_least : mg "_law_least" = some (.ref (A 15))
  f_law_made : Fun K "_law_made" "_law_made" s_law_made (A 17) (fd 17)
  b_law_made : Binds K (fd 17) ["_law_low", "_law_high", "_law_at", "_law_rights_here", "_law_kind"] []
  g_law_made : mg "_law_made" = some (.ref (A 17))
  f_law_bounds : Fun K "_law_bounds" "_law_bounds" s_law_bounds (A 18) (fd 18)
  b_law_bounds : Binds K (fd 18) ["_law_pool_here"] []
  g_law_bounds : mg "_law_bounds" = some (.ref (A 18))
  f_law_rights : Fun K "_law_rights" "_law_rights" s_law_rights (A 19) (fd 19)
  b_law_rights : Binds K (fd 19) ["_law_pool_here"] []
  g_law_rights : mg "_law_rights" = some (.ref (A 19))
  f_law_word : Fun K "_law_word" "_law_word" s_law_word (A 20) (fd 20)
  b_law_word : Binds K (fd 20) ["_law_pool_here"] []
  g_law_word : mg "_law_word" = some (.ref (A 20))
  f_Cells_put : Fun K "put" "Cells.put" s_Cells_put (A 302) (fd 302)
  b_Cells_put : Binds K (fd 302) ["self", "address", "word"] []
  m_Cells_put : Meth K (C 6) "put" (A 302)
  f_Cells_lay : Fun K "lay" "Cells.lay" s_Cells_lay (A 303) (fd 303)
  b_Cells_lay : Binds K (fd 303) ["self", "address", "word"] []
  m_Cells_lay : Meth K (C 6) "lay" (A 303)
  f_Cells_marked : FunD K "marked" "Cells.marked" (defArgs s_Cells_marked) (defBody s_Cells_marked) (defScope s_Cells_marked) [.int 0, .int 4096] [] (A 309) (fd 309)
  m_Cells_marked : Meth K (C 6) "marked" (A 309)
  bd_Cells_marked_0 : ∃ ds, Vals ([].map V.int) ds ∧ Binds K (fd 309) ["self", "low", "high"] ds
  bd_Cells_marked_2 : ∃ ds, Vals ([0, 4096].map V.int) ds ∧ Binds K (fd 309) ["self", "low", "high"] ds
  f_Cells_clear : Fun K "clear" "Cells.clear" s_Cells_clear (A 308) (fd 308)
  b_Cells_clear : Binds K (fd 308) ["self", "low", "high"] []
  m_Cells_clear : Meth K (C 6) "clear" (A 308)
  f_Cells_cell : Fun K "cell" "Cells.cell" s_Cells_cell (A 301) (fd 301)
  b_Cells_cell : Binds K (fd 301) ["self", "address"] []
  m_Cells_cell : Meth K (C 6) "cell" (A 301)
  f_Cells_put_lowest : Fun K "put_lowest" "Cells.put_lowest" s_Cells_put_lowest (A 307) (fd 307)
  b_Cells_put_lowest : Binds K (fd 307) ["self", "address", "number"] []
  m_Cells_put_lowest : Meth K (C 6) "put_lowest" (A 307)
  f_Cells_poke : Fun K "poke" "Cells.poke" s_Cells_poke (A 306) (fd 306)
  b_Cells_poke : Binds K (fd 306) ["self", "word", "offset", "number"] []
  m_Cells_poke : Meth K (C 6) "poke" (A 306)
  f_Cells_store : Fun K "store" "Cells.store" s_Cells_store (A 305) (fd 305)
  b_Cells_store : Binds K (fd 305) ["self", "word", "offset", "what"] []
  m_Cells_store : Meth K (C 6) "store" (A 305)
  f_Cells_load : Fun K "load" "Cells.load" s_Cells_load (A 304) (fd 304)
  b_Cells_load : Binds K (fd 304) ["self", "word", "offset"] []
  m_Cells_load : Meth K (C 6) "load" (A 304)
  f_law_said : Fun K "_law_said" "_law_said" s_law_said (A 21) (fd 21)
  b_law_said : Binds K (fd 21) ["_law_cells", "_law_door", "_law_thing", "_law_word_here"] []
  g_law_said : mg "_law_said" = some (.ref (A 21))
  f_law_odd_so : Fun K "_law_odd_so" "_law_odd_so" s_law_odd_so (A 22) (fd 22)
  b_law_odd_so : Binds K (fd 22) ["_law_cells", "_law_word_here"] []
  g_law_odd_so : mg "_law_odd_so" = some (.ref (A 22))
  f_law_laid : Fun K "_law_laid" "_law_laid" s_law_laid (A 23) (fd 23)
  b_law_laid : Binds K (fd 23) ["_law_pool_here", "_law_cells", "_law_book"] []
  g_law_laid : mg "_law_laid" = some (.ref (A 23))
  f_law_same : Fun K "_law_same" "_law_same" s_law_same (A 24) (fd 24)
  b_law_same : Binds K (fd 24) ["_law_cells", "_law_book"] []
  g_law_same : mg "_law_same" = some (.ref (A 24))
  f_Cells_eq : Fun K "__eq__" "Cells.__eq__" s_Cells_eq (A 311) (fd 311)
  b_Cells_eq : Binds K (fd 311) ["self", "other"] []
  m_Cells_eq : Meth K (C 6) "__eq__" (A 311)
  f_Cells_init : Fun K "__init__" "Cells.__init__" s_Cells_init (A 300) (fd 300)
  b_Cells_init : Binds K (fd 300) ["self"] []
  m_Cells_init : Meth K (C 6) "__init__" (A 300)
  f_Cells_twin : Fun K "twin" "Cells.twin" s_Cells_twin (A 310) (fd 310)
  b_Cells_twin : Binds K (fd 310) ["self"] []
  m_Cells_twin : Meth K (C 6) "twin" (A 310)
  f_law_emptied_so : Fun K "_law_emptied_so" "_law_emptied_so" s_law_emptied_so (A 25) (fd 25)
  b_law_emptied_so : Binds K (fd 25) ["_law_word_here"] []
  g_law_emptied_so : mg "_law_emptied_so" = some (.ref (A 25))
  f_law : Fun K "law" "law" s_law (A 26) (fd 26)
  b_law : Binds K (fd 26) ["_law_script"] []
  g_law : mg "law" = some (.ref (A 26))
  cl_Cells : Cls K (C 6)
  k_Cells : mg "Cells" = some (.ref (C 6))
  mk_Cells : Mk K (C 6) (A 300)
  nq_Cells : PySem.W.findIn K (.ref (C 6)) "__ne__" = some (some (.builtin "object.__ne__"))
  nb_Cells : PySem.W.subIn K (.ref (C 6)) (.type "object") = some true
  na_Cells_own_cells : NoAttr K (C 6) "own_cells"
  c_CELLS : ∃ t, mg "CELLS" = some (.int 4096 t)
  c_MOST_COUNT : ∃ t, mg "MOST_COUNT" = some (.int 16 t)
  c_MOST_STEP : ∃ t, mg "MOST_STEP" = some (.int 8 t)
  c_RIGHTS : ∃ t, mg "RIGHTS" = some (.str "rwlsnfxco" t)
  c_WORDS : ∃ t, mg "WORDS" = some (.int 35184372088832 t)
  c_CELL_GROUP : ∃ t, mg "CELL_GROUP" = some (.str "rwlsn" t)
  c_NOTHING : ∃ a, mg "NOTHING" = some (.ref a) ∧ KTupA K a [.b false, .i 0]
  c_LEAST_OFFSET : ∃ t, mg "LEAST_OFFSET" = some (.int (-8) t)
  c_MOST_OFFSET : ∃ t, mg "MOST_OFFSET" = some (.int 15 t)
  c_POKED : ∃ t, mg "POKED" = some (.int 268435456 t)
  z_abs : mg "abs" = none
  z_any : mg "any" = none
  z_bool : mg "bool" = none
  z_dict : mg "dict" = none
  z_enumerate : mg "enumerate" = none
  z_int : mg "int" = none
  z_isinstance : mg "isinstance" = none
  z_len : mg "len" = none
  z_max : mg "max" = none
  z_min : mg "min" = none
  z_range : mg "range" = none
  z_repr : mg "repr" = none
  z_sorted : mg "sorted" = none
  z_sum : mg "sum" = none
  z_tuple : mg "tuple" = none
  k_ReachError : mg "ReachError" = some (.ref (C 0))
  E_ReachError : ExcC K (C 0)
  k_NoBounds : mg "NoBounds" = some (.ref (C 1))
  E_NoBounds : ExcC K (C 1)
  k_NoOffset : mg "NoOffset" = some (.ref (C 2))
  E_NoOffset : ExcC K (C 2)
  k_NoAddress : mg "NoAddress" = some (.ref (C 3))
  E_NoAddress : ExcC K (C 3)
  k_NoWord : mg "NoWord" = some (.ref (C 4))
  E_NoWord : ExcC K (C 4)
  k_Fault : mg "Fault" = some (.ref (C 5))
  E_Fault : ExcC K (C 5)
  I_Cells : InsC K (C 6)
  qo_Cells_Cells : PySem.W.kitOne K (.ref (C 6)) (.ref (C 6)) = some true
  qf_NoneType_Cells : PySem.W.kitOne K (.type "NoneType") (.ref (C 6)) = some false
  qf_bool_Cells : PySem.W.kitOne K (.type "bool") (.ref (C 6)) = some false
  qf_int_Cells : PySem.W.kitOne K (.type "int") (.ref (C 6)) = some false
  qf_str_Cells : PySem.W.kitOne K (.type "str") (.ref (C 6)) = some false
  qf_tuple_Cells : PySem.W.kitOne K (.type "tuple") (.ref (C 6)) = some false
  qf_list_Cells : PySem.W.kitOne K (.type "list") (.ref (C 6)) = some false
  qf_dict_Cells : PySem.W.kitOne K (.type "dict") (.ref (C 6)) = some false
  bc_ReachError : BaseC K (C 0)
  fi_Fault : Fun K "__init__" "Fault.__init__" si_Fault (A 905) (fd 905)
  bi_Fault : Binds K (fd 905) ["self", "word"] []
  t_Fault : FldC K (C 5) (A 905) ["word"]
  x_NoAddress : PySem.W.excIn K (C 3) [.type "ValueError", .type "Exception", .type "BaseException", .type "object"] "ValueError.__new__" = true
  p_NoAddress : PySem.W.keepIn K (.ref (C 3)) = true
  u_NoAddress : PySem.W.subIn K (.ref (C 3)) (.type "BaseException") = some true
  y_NoAddress : PySem.W.typeIn K (.ref (C 3)) = some (.type "type")
  x_NoBounds : PySem.W.excIn K (C 1) [.type "ValueError", .type "Exception", .type "BaseException", .type "object"] "ValueError.__new__" = true
  p_NoBounds : PySem.W.keepIn K (.ref (C 1)) = true
  u_NoBounds : PySem.W.subIn K (.ref (C 1)) (.type "BaseException") = some true
  y_NoBounds : PySem.W.typeIn K (.ref (C 1)) = some (.type "type")
  x_NoOffset : PySem.W.excIn K (C 2) [.type "ValueError", .type "Exception", .type "BaseException", .type "object"] "ValueError.__new__" = true
  p_NoOffset : PySem.W.keepIn K (.ref (C 2)) = true
  u_NoOffset : PySem.W.subIn K (.ref (C 2)) (.type "BaseException") = some true
  y_NoOffset : PySem.W.typeIn K (.ref (C 2)) = some (.type "type")
  x_NoWord : PySem.W.excIn K (C 4) [.type "ValueError", .type "Exception", .type "BaseException", .type "object"] "ValueError.__new__" = true
  p_NoWord : PySem.W.keepIn K (.ref (C 4)) = true
  u_NoWord : PySem.W.subIn K (.ref (C 4)) (.type "BaseException") = some true
  y_NoWord : PySem.W.typeIn K (.ref (C 4)) = some (.type "type")
  e_Fault_ReachError : PySem.W.exmOne K (.ref (C 5)) (.ref (C 0)) = some true
  e_NoAddress_ReachError : PySem.W.exmOne K (.ref (C 3)) (.ref (C 0)) = some true
  e_NoBounds_ReachError : PySem.W.exmOne K (.ref (C 1)) (.ref (C 0)) = some true
  e_NoOffset_ReachError : PySem.W.exmOne K (.ref (C 2)) (.ref (C 0)) = some true
  e_NoWord_ReachError : PySem.W.exmOne K (.ref (C 4)) (.ref (C 0)) = some true
  e_ReachError_ReachError : PySem.W.exmOne K (.ref (C 0)) (.ref (C 0)) = some true
  q_Fault_Cells : PySem.W.kitOne K (.ref (C 5)) (.ref (C 6)) = some false
  q_Fault_Fault : PySem.W.kitOne K (.ref (C 5)) (.ref (C 5)) = some true
  q_Fault_NoAddress : PySem.W.kitOne K (.ref (C 5)) (.ref (C 3)) = some false
  q_Fault_NoBounds : PySem.W.kitOne K (.ref (C 5)) (.ref (C 1)) = some false
  q_Fault_NoOffset : PySem.W.kitOne K (.ref (C 5)) (.ref (C 2)) = some false
  q_Fault_NoWord : PySem.W.kitOne K (.ref (C 5)) (.ref (C 4)) = some false
  q_NoAddress_Cells : PySem.W.kitOne K (.ref (C 3)) (.ref (C 6)) = some false
  q_NoAddress_Fault : PySem.W.kitOne K (.ref (C 3)) (.ref (C 5)) = some false
  q_NoAddress_NoAddress : PySem.W.kitOne K (.ref (C 3)) (.ref (C 3)) = some true
  q_NoAddress_NoBounds : PySem.W.kitOne K (.ref (C 3)) (.ref (C 1)) = some false
  q_NoAddress_NoOffset : PySem.W.kitOne K (.ref (C 3)) (.ref (C 2)) = some false
  q_NoAddress_NoWord : PySem.W.kitOne K (.ref (C 3)) (.ref (C 4)) = some false
  q_NoBounds_Cells : PySem.W.kitOne K (.ref (C 1)) (.ref (C 6)) = some false
  q_NoBounds_Fault : PySem.W.kitOne K (.ref (C 1)) (.ref (C 5)) = some false
  q_NoBounds_NoAddress : PySem.W.kitOne K (.ref (C 1)) (.ref (C 3)) = some false
  q_NoBounds_NoBounds : PySem.W.kitOne K (.ref (C 1)) (.ref (C 1)) = some true
  q_NoBounds_NoOffset : PySem.W.kitOne K (.ref (C 1)) (.ref (C 2)) = some false
  q_NoBounds_NoWord : PySem.W.kitOne K (.ref (C 1)) (.ref (C 4)) = some false
  q_NoOffset_Cells : PySem.W.kitOne K (.ref (C 2)) (.ref (C 6)) = some false
  q_NoOffset_Fault : PySem.W.kitOne K (.ref (C 2)) (.ref (C 5)) = some false
  q_NoOffset_NoAddress : PySem.W.kitOne K (.ref (C 2)) (.ref (C 3)) = some false
  q_NoOffset_NoBounds : PySem.W.kitOne K (.ref (C 2)) (.ref (C 1)) = some false
  q_NoOffset_NoOffset : PySem.W.kitOne K (.ref (C 2)) (.ref (C 2)) = some true
  q_NoOffset_NoWord : PySem.W.kitOne K (.ref (C 2)) (.ref (C 4)) = some false
  q_NoWord_Cells : PySem.W.kitOne K (.ref (C 4)) (.ref (C 6)) = some false
  q_NoWord_Fault : PySem.W.kitOne K (.ref (C 4)) (.ref (C 5)) = some false
  q_NoWord_NoAddress : PySem.W.kitOne K (.ref (C 4)) (.ref (C 3)) = some false
  q_NoWord_NoBounds : PySem.W.kitOne K (.ref (C 4)) (.ref (C 1)) = some false
  q_NoWord_NoOffset : PySem.W.kitOne K (.ref (C 4)) (.ref (C 2)) = some false
  q_NoWord_NoWord : PySem.W.kitOne K (.ref (C 4)) (.ref (C 4)) = some true
  q_ReachError_Cells : PySem.W.kitOne K (.ref (C 0)) (.ref (C 6)) = some false
  q_ReachError_Fault : PySem.W.kitOne K (.ref (C 0)) (.ref (C 5)) = some false
  q_ReachError_NoAddress : PySem.W.kitOne K (.ref (C 0)) (.ref (C 3)) = some false
  q_ReachError_NoBounds : PySem.W.kitOne K (.ref (C 0)) (.ref (C 1)) = some false
  q_ReachError_NoOffset : PySem.W.kitOne K (.ref (C 0)) (.ref (C 2)) = some false
  q_ReachError_NoWord : PySem.W.kitOne K (.ref (C 0)) (.ref (C 4)) = some false
section
variable {P : Program} {w : World} {K : PySem.W.Frag} {mg : Str → Option Value} {base : Heap} {C A : Nat → Addr} {fd : Nat → FuncData}
theorem kq_Cells_h (T : Txt w K mg C A fd) : ∀ k b, kq_Cells k = some b → PySem.W.kitOne K (tkV C k) (.ref (C 6)) = some b := by
  intro k b h
  unfold kq_Cells at h
  split at h <;> cases h
  · exact T.q_ReachError_Cells
  · exact T.q_NoBounds_Cells
  · exact T.q_NoOffset_Cells
  · exact T.q_NoAddress_Cells
  · exact T.q_NoWord_Cells
  · exact T.q_Fault_Cells
  · exact T.qf_NoneType_Cells
  · exact T.qf_bool_Cells
  · exact T.qf_int_Cells
  · exact T.qf_str_Cells
  · exact T.qf_tuple_Cells
  · exact T.qf_list_Cells
  · exact T.qf_dict_Cells
theorem kq_Cells_x (T : Txt w K mg C A fd) : ∀ n b, kq_Cells (.inr n) = some b → ExcC K (C n) := by
  intro n b h
  unfold kq_Cells at h
  split at h
  · rename_i e; cases e; exact T.E_ReachError
  · rename_i e; cases e; exact T.E_NoBounds
  · rename_i e; cases e; exact T.E_NoOffset
  · rename_i e; cases e; exact T.E_NoAddress
  · rename_i e; cases e; exact T.E_NoWord
  · rename_i e; cases e; exact T.E_Fault
  · rename_i e; cases e
  · rename_i e; cases e
  · rename_i e; cases e
  · rename_i e; cases e
  · rename_i e; cases e
  · rename_i e; cases e
  · rename_i e; cases e
  · cases h
theorem ko_Cells_h (T : Txt w K mg C A fd) : ∀ n b, ko_Cells n = some b → InsC K (C n) ∧ PySem.W.kitOne K (.ref (C n)) (.ref (C 6)) = some b := by
  intro n b h
  unfold ko_Cells at h
  split at h <;> cases h
  · exact ⟨T.I_Cells, T.qo_Cells_Cells⟩
theorem kq_Fault_h (T : Txt w K mg C A fd) : ∀ k b, kq_Fault k = some b → PySem.W.kitOne K (tkV C k) (.ref (C 5)) = some b := by
  intro k b h
  unfold kq_Fault at h
  split at h <;> cases h
  · exact T.q_ReachError_Fault
  · exact T.q_NoBounds_Fault
  · exact T.q_NoOffset_Fault
  · exact T.q_NoAddress_Fault
  · exact T.q_NoWord_Fault
  · exact T.q_Fault_Fault
theorem kq_Fault_x (T : Txt w K mg C A fd) : ∀ n b, kq_Fault (.inr n) = some b → ExcC K (C n) := by
  intro n b h
  unfold kq_Fault at h
  split at h
  · rename_i e; cases e; exact T.E_ReachError
  · rename_i e; cases e; exact T.E_NoBounds
  · rename_i e; cases e; exact T.E_NoOffset
  · rename_i e; cases e; exact T.E_NoAddress
  · rename_i e; cases e; exact T.E_NoWord
  · rename_i e; cases e; exact T.E_Fault
  · cases h
theorem kq_NoAddress_h (T : Txt w K mg C A fd) : ∀ k b, kq_NoAddress k = some b → PySem.W.kitOne K (tkV C k) (.ref (C 3)) = some b := by
  intro k b h
  unfold kq_NoAddress at h
  split at h <;> cases h
  · exact T.q_ReachError_NoAddress
  · exact T.q_NoBounds_NoAddress
  · exact T.q_NoOffset_NoAddress
  · exact T.q_NoAddress_NoAddress
  · exact T.q_NoWord_NoAddress
  · exact T.q_Fault_NoAddress
theorem kq_NoAddress_x (T : Txt w K mg C A fd) : ∀ n b, kq_NoAddress (.inr n) = some b → ExcC K (C n) := by
  intro n b h
  unfold kq_NoAddress at h
  split at h
  · rename_i e; cases e; exact T.E_ReachError
  · rename_i e; cases e; exact T.E_NoBounds
  · rename_i e; cases e; exact T.E_NoOffset
  · rename_i e; cases e; exact T.E_NoAddress
  · rename_i e; cases e; exact T.E_NoWord
  · rename_i e; cases e; exact T.E_Fault
  · cases h
theorem kq_NoBounds_h (T : Txt w K mg C A fd) : ∀ k b, kq_NoBounds k = some b → PySem.W.kitOne K (tkV C k) (.ref (C 1)) = some b := by
  intro k b h
  unfold kq_NoBounds at h
  split at h <;> cases h
  · exact T.q_ReachError_NoBounds
  · exact T.q_NoBounds_NoBounds
  · exact T.q_NoOffset_NoBounds
  · exact T.q_NoAddress_NoBounds
  · exact T.q_NoWord_NoBounds
  · exact T.q_Fault_NoBounds
theorem kq_NoBounds_x (T : Txt w K mg C A fd) : ∀ n b, kq_NoBounds (.inr n) = some b → ExcC K (C n) := by
  intro n b h
  unfold kq_NoBounds at h
  split at h
  · rename_i e; cases e; exact T.E_ReachError
  · rename_i e; cases e; exact T.E_NoBounds
  · rename_i e; cases e; exact T.E_NoOffset
  · rename_i e; cases e; exact T.E_NoAddress
  · rename_i e; cases e; exact T.E_NoWord
  · rename_i e; cases e; exact T.E_Fault
  · cases h
theorem kq_NoOffset_h (T : Txt w K mg C A fd) : ∀ k b, kq_NoOffset k = some b → PySem.W.kitOne K (tkV C k) (.ref (C 2)) = some b := by
  intro k b h
  unfold kq_NoOffset at h
  split at h <;> cases h
  · exact T.q_ReachError_NoOffset
  · exact T.q_NoBounds_NoOffset
  · exact T.q_NoOffset_NoOffset
  · exact T.q_NoAddress_NoOffset
  · exact T.q_NoWord_NoOffset
  · exact T.q_Fault_NoOffset
theorem kq_NoOffset_x (T : Txt w K mg C A fd) : ∀ n b, kq_NoOffset (.inr n) = some b → ExcC K (C n) := by
  intro n b h
  unfold kq_NoOffset at h
  split at h
  · rename_i e; cases e; exact T.E_ReachError
  · rename_i e; cases e; exact T.E_NoBounds
  · rename_i e; cases e; exact T.E_NoOffset
  · rename_i e; cases e; exact T.E_NoAddress
  · rename_i e; cases e; exact T.E_NoWord
  · rename_i e; cases e; exact T.E_Fault
  · cases h
theorem kq_NoWord_h (T : Txt w K mg C A fd) : ∀ k b, kq_NoWord k = some b → PySem.W.kitOne K (tkV C k) (.ref (C 4)) = some b := by
  intro k b h
  unfold kq_NoWord at h
  split at h <;> cases h
  · exact T.q_ReachError_NoWord
  · exact T.q_NoBounds_NoWord
  · exact T.q_NoOffset_NoWord
  · exact T.q_NoAddress_NoWord
  · exact T.q_NoWord_NoWord
  · exact T.q_Fault_NoWord
theorem kq_NoWord_x (T : Txt w K mg C A fd) : ∀ n b, kq_NoWord (.inr n) = some b → ExcC K (C n) := by
  intro n b h
  unfold kq_NoWord at h
  split at h
  · rename_i e; cases e; exact T.E_ReachError
  · rename_i e; cases e; exact T.E_NoBounds
  · rename_i e; cases e; exact T.E_NoOffset
  · rename_i e; cases e; exact T.E_NoAddress
  · rename_i e; cases e; exact T.E_NoWord
  · rename_i e; cases e; exact T.E_Fault
  · cases h
theorem sub_ReachError_h (T : Txt w K mg C A fd) : ∀ y b, sub_ReachError y = some b → PySem.W.exmOne K (.ref (C y)) (.ref (C 0)) = some b := by
  intro y b h
  unfold sub_ReachError at h
  split at h <;> cases h
  · exact T.e_ReachError_ReachError
  · exact T.e_NoBounds_ReachError
  · exact T.e_NoOffset_ReachError
  · exact T.e_NoAddress_ReachError
  · exact T.e_NoWord_ReachError
  · exact T.e_Fault_ReachError
theorem init_Fault (T : Txt w K mg C A fd) : FnOk P w K mg base (L2N.CX P w) 1 (A 905) (fd 905) ["self", "word"] (spI K (C 5) ["word"]) :=
  init1_ok T.fi_Fault sci_Fault T.t_Fault fun cdv Ar outer s H E => pss_cons (ps_expr (pe_ownInit rfl T.k_ReachError T.bc_ReachError (pa_cons (pvx 0) (pa_cons pe_str pa_nil)))) (pss_one (ps_ost (pvx 0) (pvx 1)))
theorem ok_is_whole (T : Txt w K mg C A fd) : FnOk P w K mg base (L2N.CX P w) 1 (A 0) (fd 0) ["thing"] (spOf K C 1 g_is_whole) :=
  fn_ev T.f_is_whole sc_is_whole fun cdv Ar outer s H E hr tk po =>
    (es_one (s_ret (ee_and (ee_isi (ee_var 0) rfl T.z_isinstance rfl T.z_int (by decide +kernel)) (ee_one (ee_not (ee_isi (ee_var 0) rfl T.z_isinstance rfl T.z_bool (by decide +kernel)))))))
theorem ok_look_at_bounds (T : Txt w K mg C A fd) : FnOk P w K mg base (L2N.CX P w) 2 (A 1) (fd 1) ["low", "high"] (spOf K C 2 g_look_at_bounds) :=
  fn_ev T.f_look_at_bounds sc_look_at_bounds fun cdv Ar outer s H E hr tk po =>
    (es_one (s_if (PW.pt (et_or (et_not (et_val (ee_callC (Cal.ok (ok_is_whole T) (hr.mono (by decide))) rfl T.g_is_whole T.f_is_whole.kp T.b_is_whole tk (ea_cons (ee_var 0) ea_nil) (al_cons al_nil)))) (et_or (et_not (et_val (ee_callC (Cal.ok (ok_is_whole T) (hr.mono (by decide))) rfl T.g_is_whole T.f_is_whole.kp T.b_is_whole tk (ea_cons (ee_var 1) ea_nil) (al_cons al_nil)))) (et_or1 (et_not (et_chain ee_int (ch_link leD_ok (ee_var 0) (ch_link ltD_ok (ee_var 1) (ch_last leD_ok (ee_gI T.c_CELLS))))))))))
    (es_one (s_raise0 cl_NoBounds rfl tk PySem.F.excBase_ValueError T.x_NoBounds T.k_NoBounds T.p_NoBounds (raises_own T.u_NoBounds T.y_NoBounds) rfl))
    es_nil))
theorem ok_from_bits (T : Txt w K mg C A fd) : FnOk P w K mg base (L2N.CX P w) 1 (A 2) (fd 2) ["step", "first", "count"] (spOf K C 3 g_from_bits) :=
  fn_ev T.f_from_bits sc_from_bits fun cdv Ar outer s H E hr tk po =>
    (es_one (s_ret (ee_tup (ea_cons (ee_op shlD_ok (ee_var 1) (ee_var 0)) (ea_cons (ee_op shlD_ok (ee_op addD_ok (ee_var 1) (ee_var 2)) (ee_var 0)) ea_nil)) (al_cons (al_cons al_nil)))))
theorem ok_is_word (T : Txt w K mg C A fd) : FnOk P w K mg base (L2N.CX P w) 2 (A 3) (fd 3) ["thing"] (spOf K C 1 g_is_word) :=
  fn_ev T.f_is_word sc_is_word fun cdv Ar outer s H E hr tk po =>
    (es_cons (s_if (PW.pt (et_or (et_not (et_val (ee_isi (ee_var 0) rfl T.z_isinstance rfl T.z_tuple (by decide +kernel)))) (et_or (et_cmp (neD_ok hr.units) (ee_callB lenD_ok rfl T.z_len (by decide +kernel) (ea_cons (ee_var 0) ea_nil)) ee_int (nomark _)) (et_or1 (et_not (et_val (ee_isi (ee_ix (ee_var 0) ee_int) rfl T.z_isinstance rfl T.z_bool (by decide +kernel))))))))
    (es_one (s_ret ee_bl))
    es_nil)
    (es_one (s_ret (ee_and (ee_callC (Cal.ok (ok_is_whole T) (hr.mono (by decide))) rfl T.g_is_whole T.f_is_whole.kp T.b_is_whole tk (ea_cons (ee_ix (ee_var 0) ee_int) ea_nil) (al_cons al_nil)) (ee_one (ee_chain ee_int (ch_link leD_ok (ee_ix (ee_var 0) ee_int) (ch_last ltD_ok (ee_gI T.c_WORDS)))))))))
theorem ok_are_lawful (T : Txt w K mg C A fd) : FnOk P w K mg base (L2N.CX P w) 1 (A 4) (fd 4) ["rights"] (spOf K C 1 g_are_lawful) :=
  fn_ev T.f_are_lawful sc_are_lawful fun cdv Ar outer s H E hr tk po =>
    (es_cons (s_set 1 sc_are_lawful.nd (ee_lst (ea_cons (ee_callB (anyD_ok rfl) rfl T.z_any (by decide +kernel) (ea_cons (ee_lc frzL_ok rfl sc_are_lawful.nd (ei_seq (ee_var 0)) (blkOk_by (N := ["rights", "groups", "right"]) (sc := defScope s_are_lawful) (own := [("right", 2)]) (by first | decide +kernel | rfl)) rfl (by decide) (fun _ _ _ _ _ => (g_nm 2 sc_are_lawful.nd)) (fun _ _ _ _ _ => et_yes) (fun _ _ _ _ _ => (ee_cmp (inD_ok hr.units) (ee_var 2) (ee_gS T.c_CELL_GROUP) (by rfl)))) ea_nil)) (ea_cons (ee_cmp (inD_ok hr.units) ee_str (ee_var 0) (by rfl)) (ea_cons (ee_or (ee_cmp (inD_ok hr.units) ee_str (ee_var 0) (by rfl)) (ee_one (ee_cmp (inD_ok hr.units) ee_str (ee_var 0) (by rfl)))) ea_nil))) (al_cons (al_cons (al_cons al_nil)))))
    (es_one (s_ret (ee_cmp leD_ok (ee_mth F.plainAttrs_list F.slot_list_count F.type_list_count (countL_ok hr.units) (ee_var 1) (ea_cons ee_bl ea_nil)) ee_int (nomark _)))))
theorem ok_rights_in (T : Txt w K mg C A fd) : FnOk P w K mg base (L2N.CX P w) 1 (A 5) (fd 5) ["bits"] (spOf K C 1 g_rights_in) :=
  fn_ev T.f_rights_in sc_rights_in fun cdv Ar outer s H E hr tk po =>
    (es_one (s_ret (ee_mth F.plainAttrs_str F.slot_str_join F.type_str_join joinD_ok ee_str (ea_cons (ee_lc frzL_ok rfl sc_rights_in.nd (ei_enum rfl T.z_enumerate (ea_cons (ee_gS T.c_RIGHTS) ea_nil)) (blkOk_by (N := ["bits", "place", "right"]) (sc := defScope s_rights_in) (own := [("place", 1), ("right", 2)]) (by first | decide +kernel | rfl)) rfl (by decide) (fun _ _ _ _ _ => (g_tp rfl (gs_cons 1 sc_rights_in.nd (gs_cons 2 sc_rights_in.nd gs_nil)))) (fun _ _ _ _ _ => (et_if1 (et_cmp (eqD_ok hr.units) (ee_op andD_ok (ee_op shrD_ok (ee_var 0) (ee_op addD_ok ee_int (ee_var 1))) ee_int) ee_int (nomark _)))) (fun _ _ _ _ _ => (ee_var 2))) ea_nil))))
theorem ok_fields_of (T : Txt w K mg C A fd) : FnOk P w K mg base (L2N.CX P w) 2 (A 6) (fd 6) ["word"] (spOf K C 1 g_fields_of) :=
  fn_ev T.f_fields_of sc_fields_of fun cdv Ar outer s H E hr tk po =>
    (es_cons (s_set 1 sc_fields_of.nd (ee_ix (ee_var 0) ee_int))
    (es_cons (s_par3 2 3 4 rfl sc_fields_of.nd (ea_cons (ee_op andD_ok (ee_op shrD_ok (ee_var 1) ee_int) ee_int) (ea_cons (ee_op addD_ok (ee_op andD_ok (ee_op shrD_ok (ee_var 1) ee_int) ee_int) ee_int) (ea_cons (ee_op andD_ok (ee_op shrD_ok (ee_var 1) ee_int) ee_int) ea_nil))))
    (es_cons (s_if (PW.pt (et_or (et_cmp gtD_ok (ee_var 4) (ee_gI T.c_MOST_STEP) (nomark _)) (et_or (PW.pt (et_and (et_cmp gtD_ok (ee_var 4) ee_int (nomark _)) (et_and1 (et_cmp leD_ok (ee_var 3) (ee_op divD_ok (ee_gI T.c_MOST_COUNT) ee_int) (nomark _))))) (et_or1 (et_cmp gtD_ok (ee_op shlD_ok (ee_op addD_ok (ee_var 2) (ee_var 3)) (ee_var 4)) (ee_gI T.c_CELLS) (nomark _))))))
    (es_one (s_ret ee_non))
    es_nil)
    (es_cons (s_asg (ee_callC (Cal.ok (ok_from_bits T) (hr.mono (by decide))) rfl T.g_from_bits T.f_from_bits.kp T.b_from_bits tk (ea_cons (ee_var 4) (ea_cons (ee_var 2) (ea_cons (ee_var 3) ea_nil))) (al_cons (al_cons (al_cons al_nil)))) (g_tp rfl (gs_cons 5 sc_fields_of.nd (gs_cons 6 sc_fields_of.nd gs_nil))))
    (es_one (s_ret (ee_tup (ea_cons (ee_var 5) (ea_cons (ee_var 6) (ea_cons (ee_op modD_ok (ee_var 1) (ee_gI T.c_CELLS)) (ea_cons (ee_callC (Cal.ok (ok_rights_in T) (hr.mono (by decide))) rfl T.g_rights_in T.f_rights_in.kp T.b_rights_in tk (ea_cons (ee_var 1) ea_nil) (al_cons al_nil)) (ea_cons (ee_op shrD_ok (ee_var 1) ee_int) ea_nil))))) (al_cons (al_cons (al_cons (al_cons (al_cons al_nil))))))))))))
theorem ok_is_lawful (T : Txt w K mg C A fd) : FnOk P w K mg base (L2N.CX P w) 3 (A 7) (fd 7) ["thing"] (spOf K C 1 g_is_lawful) :=
  fn_ev T.f_is_lawful sc_is_lawful fun cdv Ar outer s H E hr tk po =>
    (es_cons (s_if (et_not (et_val (ee_callC (Cal.ok (ok_is_word T) (hr.mono (by decide))) rfl T.g_is_word T.f_is_word.kp T.b_is_word tk (ea_cons (ee_var 0) ea_nil) (al_cons al_nil))))
    (es_one (s_ret ee_bl))
    es_nil)
    (es_cons (s_set 1 sc_is_lawful.nd (ee_callC (Cal.ok (ok_fields_of T) (hr.mono (by decide))) rfl T.g_fields_of T.f_fields_of.kp T.b_fields_of tk (ea_cons (ee_var 0) ea_nil) (al_cons al_nil)))
    (es_one (s_ret (ee_or (ee_not (ee_ix (ee_var 0) ee_int)) (ee_one (ee_and (ee_cmp isNot_ok (ee_var 1) ee_non (nomark _)) (ee_one (ee_callC (Cal.ok (ok_are_lawful T) (hr.mono (by decide))) rfl T.g_are_lawful T.f_are_lawful.kp T.b_are_lawful tk (ea_cons (ee_ix (ee_var 1) ee_int) ea_nil) (al_cons al_nil))))))))))
theorem ok_bare (T : Txt w K mg C A fd) : FnOk P w K mg base (L2N.CX P w) 1 (A 8) (fd 8) ["word"] (spOf K C 1 g_bare) :=
  fn_ev T.f_bare sc_bare fun cdv Ar outer s H E hr tk po =>
    (es_one (s_ret (ee_tup (ea_cons ee_bl (ea_cons (ee_ix (ee_var 0) ee_int) ea_nil)) (al_cons (al_cons al_nil)))))
theorem ok_look_at_offset (T : Txt w K mg C A fd) : FnOk P w K mg base (L2N.CX P w) 2 (A 9) (fd 9) ["offset"] (spOf K C 1 g_look_at_offset) :=
  fn_ev T.f_look_at_offset sc_look_at_offset fun cdv Ar outer s H E hr tk po =>
    (es_one (s_if (PW.pt (et_or (et_not (et_val (ee_callC (Cal.ok (ok_is_whole T) (hr.mono (by decide))) rfl T.g_is_whole T.f_is_whole.kp T.b_is_whole tk (ea_cons (ee_var 0) ea_nil) (al_cons al_nil)))) (et_or1 (et_not (et_chain (ee_gI T.c_LEAST_OFFSET) (ch_link leD_ok (ee_var 0) (ch_last leD_ok (ee_gI T.c_MOST_OFFSET))))))))
    (es_one (s_raise0 cl_NoOffset rfl tk PySem.F.excBase_ValueError T.x_NoOffset T.k_NoOffset T.p_NoOffset (raises_own T.u_NoOffset T.y_NoOffset) rfl))
    es_nil))
theorem ok_is_address (T : Txt w K mg C A fd) : FnOk P w K mg base (L2N.CX P w) 2 (A 10) (fd 10) ["thing"] (spOf K C 1 g_is_address) :=
  fn_ev T.f_is_address sc_is_address fun cdv Ar outer s H E hr tk po =>
    (es_one (s_ret (ee_and (ee_callC (Cal.ok (ok_is_whole T) (hr.mono (by decide))) rfl T.g_is_whole T.f_is_whole.kp T.b_is_whole tk (ea_cons (ee_var 0) ea_nil) (al_cons al_nil)) (ee_one (ee_chain ee_int (ch_link leD_ok (ee_var 0) (ch_last ltD_ok (ee_gI T.c_CELLS))))))))
theorem bk_address_by_3_x (T : Txt w K mg C A fd) : BindK K (fd 11) ["word", "offset", "right", "sealed"] 3 [] [.p 0, .p 1, .p 2, .c (.bl false)] :=
  BindK.lack T.f_address_by (by simp) [("sealed", .bl false)] (by simp) fun D doc pm an cdv ct us ws mv h1 h2 h3 rv => match us, ws, mv, h1, h2, h3, rv with | [u0, u1, u2], [], [m0], _, _, _, .cons r0 (.nil) => ⟨[u0, u1, u2, m0], ⟨_, _, _, _, _, _, rfl, rfl, rfl⟩, (.cons rfl (.cons rfl (.cons rfl (.cons r0 .nil))))⟩
theorem ok_address_by (T : Txt w K mg C A fd) : FnOk P w K mg base (L2N.CX P w) 3 (A 11) (fd 11) ["word", "offset", "right", "sealed"] (spOf K C 4 g_address_by) :=
  fnD_ev T.f_address_by sc_address_by fun cdv Ar outer s H E hr tk po =>
    (es_cons (s_exp (ee_callC (Cal.ok (ok_look_at_offset T) (hr.mono (by decide))) rfl T.g_look_at_offset T.f_look_at_offset.kp T.b_look_at_offset tk (ea_cons (ee_var 1) ea_nil) (al_cons al_nil)))
    (es_cons (s_if (et_not (et_val (ee_ix (ee_var 0) ee_int)))
    (es_one (s_raiseF cl_Fault rfl tk T.t_Fault (init_Fault T) (hr.mono (by decide)) T.bi_Fault (by decide) T.k_Fault rfl (ea_cons ee_str ea_nil)))
    es_nil)
    (es_cons (s_asg (ee_callC (Cal.ok (ok_fields_of T) (hr.mono (by decide))) rfl T.g_fields_of T.f_fields_of.kp T.b_fields_of tk (ea_cons (ee_var 0) ea_nil) (al_cons al_nil)) (g_tp rfl (gs_cons 4 sc_address_by.nd (gs_cons 5 sc_address_by.nd (gs_cons 6 sc_address_by.nd (gs_cons 7 sc_address_by.nd (gs_cons 8 sc_address_by.nd gs_nil)))))))
    (es_cons (s_if (PW.pt (et_and (et_cmp (neD_ok hr.units) (ee_var 8) ee_int (nomark _)) (et_and1 (et_not (et_val (ee_var 3))))))
    (es_one (s_raiseF cl_Fault rfl tk T.t_Fault (init_Fault T) (hr.mono (by decide)) T.bi_Fault (by decide) T.k_Fault rfl (ea_cons ee_str ea_nil)))
    es_nil)
    (es_cons (s_if (et_cmp (ninD_ok hr.units) (ee_var 2) (ee_var 7) (by rfl))
    (es_one (s_raiseF cl_Fault rfl tk T.t_Fault (init_Fault T) (hr.mono (by decide)) T.bi_Fault (by decide) T.k_Fault rfl (ea_cons ee_str ea_nil)))
    es_nil)
    (es_cons (s_if (et_not (et_chain (ee_var 4) (ch_link leD_ok (ee_op addD_ok (ee_var 6) (ee_var 1)) (ch_last ltD_ok (ee_var 5)))))
    (es_one (s_raiseF cl_Fault rfl tk T.t_Fault (init_Fault T) (hr.mono (by decide)) T.bi_Fault (by decide) T.k_Fault rfl (ea_cons ee_str ea_nil)))
    es_nil)
    (es_one (s_ret (ee_op addD_ok (ee_var 6) (ee_var 1))))))))))
theorem ok_look_at_stored (T : Txt w K mg C A fd) : FnOk P w K mg base (L2N.CX P w) 3 (A 12) (fd 12) ["word", "what"] (spOf K C 2 g_look_at_stored) :=
  fn_ev T.f_look_at_stored sc_look_at_stored fun cdv Ar outer s H E hr tk po =>
    (es_cons (s_set 2 sc_look_at_stored.nd (ee_ix (ee_callC (Cal.ok (ok_fields_of T) (hr.mono (by decide))) rfl T.g_fields_of T.f_fields_of.kp T.b_fields_of tk (ea_cons (ee_var 0) ea_nil) (al_cons al_nil)) ee_int))
    (es_cons (s_if (PW.pt (et_and (et_val (ee_ix (ee_var 1) ee_int)) (et_and1 (et_cmp (ninD_ok hr.units) ee_str (ee_var 2) (by rfl)))))
    (es_one (s_raiseF cl_Fault rfl tk T.t_Fault (init_Fault T) (hr.mono (by decide)) T.bi_Fault (by decide) T.k_Fault rfl (ea_cons ee_str ea_nil)))
    es_nil)
    (es_one (s_if (PW.pt (et_and (et_val (ee_ix (ee_var 1) ee_int)) (et_and (et_cmp (ninD_ok hr.units) ee_str (ee_ix (ee_callC (Cal.ok (ok_fields_of T) (hr.mono (by decide))) rfl T.g_fields_of T.f_fields_of.kp T.b_fields_of tk (ea_cons (ee_var 1) ea_nil) (al_cons al_nil)) ee_int) (by rfl)) (et_and1 (et_cmp (ninD_ok hr.units) ee_str (ee_var 2) (by rfl))))))
    (es_one (s_raiseF cl_Fault rfl tk T.t_Fault (init_Fault T) (hr.mono (by decide)) T.bi_Fault (by decide) T.k_Fault rfl (ea_cons ee_str ea_nil)))
    es_nil))))
theorem ok_law_pool (T : Txt w K mg C A fd) : FnOk P w K mg base (L2N.CX P w) 1 (A 13) (fd 13) ["_law_script", "_law_k"] (spOf K C 2 g_law_pool) :=
  fn_ev T.f_law_pool sc_law_pool fun cdv Ar outer s H E hr tk po =>
    (es_cons (s_set 2 sc_law_pool.nd (ee_op addD_ok (ee_op mulD_ok ee_int (ee_callB (sumD_ok rfl) rfl T.z_sum (by decide +kernel) (ea_cons (ee_sl (ee_var 0) eo_none (eo_some ee_int)) ea_nil))) (ee_var 1)))
    (es_cons (s_if (et_cmp ltD_ok (ee_var 1) (ee_callB lenD_ok rfl T.z_len (by decide +kernel) (ea_cons (ee_var 0) ea_nil)) (nomark _))
    (es_one (s_set 2 sc_law_pool.nd (ee_ix (ee_var 0) (ee_var 1))))
    es_nil)
    (es_cons (s_set 3 sc_law_pool.nd (ee_callB absD_ok rfl T.z_abs (by decide +kernel) (ea_cons (ee_var 2) ea_nil)))
    (es_cons (s_set 4 sc_law_pool.nd (ee_op modD_ok (ee_op mulD_ok (ee_op addD_ok (ee_op addD_ok (ee_op addD_ok (ee_op modD_ok (ee_var 3) ee_int) (ee_op mulD_ok (ee_op mulD_ok ee_int (ee_var 1)) (ee_var 1))) (ee_op mulD_ok ee_int (ee_var 1))) ee_int) ee_int) ee_int))
    (es_one (s_ret (ee_lstM (ea_cons (ee_op mulD_ok (ee_var 3) (ee_callTy intD_ok rfl T.z_int (by decide +kernel) (ea_cons (ee_cmp geD_ok (ee_var 3) (ee_op powD_ok ee_int ee_int) (nomark _)) ea_nil))) (ea_cons (ee_op modD_ok (ee_op mulD_ok (ee_var 4) (ee_var 4)) ee_int) ea_nil)) (al_cons (al_cons al_nil)))))))))
theorem ok_law_take (T : Txt w K mg C A fd) : FnOk P w K mg base (L2N.CX P w) 1 (A 14) (fd 14) ["_law_pool_here", "_law_many"] (spOf K C 2 g_law_take) :=
  fn_ev T.f_law_take sc_law_take fun cdv Ar outer s H E hr tk po =>
    (es_cons (s_if (et_cmp gtD_ok (ee_ix (ee_var 0) ee_int) ee_int (nomark _))
    (es_cons (s_set 2 sc_law_take.nd (ee_op modD_ok (ee_ix (ee_var 0) ee_int) (ee_var 1)))
    (es_cons (s_putIx (ee_op divD_ok (ee_ix (ee_var 0) ee_int) (ee_var 1)) (ee_var 0) ee_int)
    (es_one (s_ret (ee_var 2)))))
    es_nil)
    (es_cons (s_putIx (ee_op modD_ok (ee_op addD_ok (ee_op mulD_ok (ee_ix (ee_var 0) ee_int) ee_int) ee_int) ee_int) (ee_var 0) ee_int)
    (es_one (s_ret (ee_op modD_ok (ee_op divD_ok (ee_op modD_ok (ee_op mulD_ok (ee_ix (ee_var 0) ee_int) (ee_ix (ee_var 0) ee_int)) ee_int) ee_int) (ee_var 1))))))
theorem ok_law_least (T : Txt w K mg C A fd) : FnOk P w K mg base (L2N.CX P w) 1 (A 15) (fd 15) ["_law_low", "_law_high"] (spOf K C 2 g_law_least) :=
  fn_ev T.f_law_least sc_law_least fun cdv Ar outer s H E hr tk po =>
    (es_cons (s_set 2 sc_law_least.nd ee_int)
    (es_cons (s_while 100 po (et_cmp gtD_ok (ee_op subD_ok (ee_op shrD_ok (ee_op subD_ok (ee_var 1) ee_int) (ee_var 2)) (ee_op shrD_ok (ee_var 0) (ee_var 2))) ee_int (nomark _))
    (es_one (s_set 2 sc_law_least.nd (ee_op addD_ok (ee_var 2) ee_int))))
    (es_one (s_ret (ee_tup (ea_cons (ee_op shlD_ok (ee_op shrD_ok (ee_var 0) (ee_var 2)) (ee_var 2)) (ea_cons (ee_op shlD_ok (ee_op addD_ok (ee_op shrD_ok (ee_op subD_ok (ee_var 1) ee_int) (ee_var 2)) ee_int) (ee_var 2)) (ea_cons (ee_var 2) ea_nil))) (al_cons (al_cons (al_cons al_nil))))))))
theorem ok_law_made (T : Txt w K mg C A fd) : FnOk P w K mg base (L2N.CX P w) 2 (A 17) (fd 17) ["_law_low", "_law_high", "_law_at", "_law_rights_here", "_law_kind"] (spOf K C 5 g_law_made) :=
  fn_ev T.f_law_made sc_law_made fun cdv Ar outer s H E hr tk po =>
    (es_cons (s_set 5 sc_law_made.nd (ee_ix (ee_callC (Cal.ok (ok_law_least T) (hr.mono (by decide))) rfl T.g_law_least T.f_law_least.kp T.b_law_least tk (ea_cons (ee_var 0) (ea_cons (ee_var 1) ea_nil)) (al_cons (al_cons al_nil))) ee_int))
    (es_cons (s_set 6 sc_law_made.nd (ee_op addD_ok (ee_op addD_ok (ee_op addD_ok (ee_var 2) (ee_op shlD_ok (ee_op shrD_ok (ee_var 0) (ee_var 5)) ee_int)) (ee_op shlD_ok (ee_op subD_ok (ee_op shrD_ok (ee_op subD_ok (ee_var 1) (ee_var 0)) (ee_var 5)) ee_int) ee_int)) (ee_op shlD_ok (ee_var 5) ee_int)))
    (es_cons (s_for po rfl (ei_enum rfl T.z_enumerate (ea_cons ee_str ea_nil)) (g_tp rfl (gs_cons 7 sc_law_made.nd (gs_cons 8 sc_law_made.nd gs_nil)))
    (es_one (s_set 6 sc_law_made.nd (ee_op addD_ok (ee_var 6) (ee_op shlD_ok (ee_callTy intD_ok rfl T.z_int (by decide +kernel) (ea_cons (ee_cmp (inD_ok hr.units) (ee_var 8) (ee_var 3) (by rfl)) ea_nil)) (ee_op addD_ok ee_int (ee_var 7)))))))
    (es_one (s_ret (ee_tup (ea_cons ee_bl (ea_cons (ee_op addD_ok (ee_var 6) (ee_op shlD_ok (ee_var 4) ee_int)) ea_nil)) (al_cons (al_cons al_nil))))))))
theorem ok_law_bounds (T : Txt w K mg C A fd) : FnOk P w K mg base (L2N.CX P w) 2 (A 18) (fd 18) ["_law_pool_here"] (spOf K C 1 g_law_bounds) :=
  fn_ev T.f_law_bounds sc_law_bounds fun cdv Ar outer s H E hr tk po =>
    (es_cons (s_set 1 sc_law_bounds.nd (ee_ix (ee_lst (ea_cons ee_int (ea_cons ee_int (ea_cons ee_int (ea_cons ee_int (ea_cons ee_int (ea_cons (ee_callC (Cal.ok (ok_law_take T) (hr.mono (by decide))) rfl T.g_law_take T.f_law_take.kp T.b_law_take tk (ea_cons (ee_var 0) (ea_cons ee_int ea_nil)) (al_cons (al_cons al_nil))) (ea_cons (ee_callC (Cal.ok (ok_law_take T) (hr.mono (by decide))) rfl T.g_law_take T.f_law_take.kp T.b_law_take tk (ea_cons (ee_var 0) (ea_cons ee_int ea_nil)) (al_cons (al_cons al_nil))) ea_nil))))))) (al_cons (al_cons (al_cons (al_cons (al_cons (al_cons (al_cons al_nil)))))))) (ee_callC (Cal.ok (ok_law_take T) (hr.mono (by decide))) rfl T.g_law_take T.f_law_take.kp T.b_law_take tk (ea_cons (ee_var 0) (ea_cons ee_int ea_nil)) (al_cons (al_cons al_nil)))))
    (es_cons (s_set 2 sc_law_bounds.nd (ee_ix (ee_lst (ea_cons ee_int (ea_cons ee_int (ea_cons ee_int (ea_cons ee_int (ea_cons ee_int (ea_cons ee_int (ea_cons (ee_op addD_ok ee_int (ee_callC (Cal.ok (ok_law_take T) (hr.mono (by decide))) rfl T.g_law_take T.f_law_take.kp T.b_law_take tk (ea_cons (ee_var 0) (ea_cons ee_int ea_nil)) (al_cons (al_cons al_nil)))) (ea_cons (ee_op addD_ok ee_int (ee_callC (Cal.ok (ok_law_take T) (hr.mono (by decide))) rfl T.g_law_take T.f_law_take.kp T.b_law_take tk (ea_cons (ee_var 0) (ea_cons ee_int ea_nil)) (al_cons (al_cons al_nil)))) ea_nil)))))))) (al_cons (al_cons (al_cons (al_cons (al_cons (al_cons (al_cons (al_cons al_nil))))))))) (ee_callC (Cal.ok (ok_law_take T) (hr.mono (by decide))) rfl T.g_law_take T.f_law_take.kp T.b_law_take tk (ea_cons (ee_var 0) (ea_cons ee_int ea_nil)) (al_cons (al_cons al_nil)))))
    (es_cons (s_asg (ee_callC (Cal.ok (ok_law_least T) (hr.mono (by decide))) rfl T.g_law_least T.f_law_least.kp T.b_law_least tk (ea_cons (ee_var 1) (ea_cons (ee_callB (minD2_ok rfl) rfl T.z_min (by decide +kernel) (ea_cons ee_int (ea_cons (ee_op addD_ok (ee_var 1) (ee_var 2)) ea_nil))) ea_nil)) (al_cons (al_cons al_nil))) (g_tp rfl (gs_cons 3 sc_law_bounds.nd (gs_cons 4 sc_law_bounds.nd (gs_cons 5 sc_law_bounds.nd gs_nil)))))
    (es_one (s_ret (ee_tup (ea_cons (ee_var 3) (ea_cons (ee_var 4) ea_nil)) (al_cons (al_cons al_nil))))))))
theorem ok_law_rights (T : Txt w K mg C A fd) : FnOk P w K mg base (L2N.CX P w) 2 (A 19) (fd 19) ["_law_pool_here"] (spOf K C 1 g_law_rights) :=
  fn_ev T.f_law_rights sc_law_rights fun cdv Ar outer s H E hr tk po =>
    (es_cons (s_set 1 sc_law_rights.nd (ee_callC (Cal.ok (ok_law_take T) (hr.mono (by decide))) rfl T.g_law_take T.f_law_take.kp T.b_law_take tk (ea_cons (ee_var 0) (ea_cons ee_int ea_nil)) (al_cons (al_cons al_nil))))
    (es_cons (s_if (et_cmp (eqD_ok hr.units) (ee_var 1) ee_int (nomark _))
    (es_one (s_ret (ee_ix (ee_lst (ea_cons ee_str (ea_cons ee_str ea_nil)) (al_cons (al_cons al_nil))) (ee_callC (Cal.ok (ok_law_take T) (hr.mono (by decide))) rfl T.g_law_take T.f_law_take.kp T.b_law_take tk (ea_cons (ee_var 0) (ea_cons ee_int ea_nil)) (al_cons (al_cons al_nil))))))
    es_nil)
    (es_cons (s_if (et_cmp (eqD_ok hr.units) (ee_var 1) ee_int (nomark _))
    (es_one (s_ret (ee_ix (ee_lst (ea_cons ee_str (ea_cons ee_str (ea_cons ee_str (ea_cons ee_str (ea_cons ee_str ea_nil))))) (al_cons (al_cons (al_cons (al_cons (al_cons al_nil)))))) (ee_callC (Cal.ok (ok_law_take T) (hr.mono (by decide))) rfl T.g_law_take T.f_law_take.kp T.b_law_take tk (ea_cons (ee_var 0) (ea_cons ee_int ea_nil)) (al_cons (al_cons al_nil))))))
    es_nil)
    (es_cons (s_if (et_cmp (eqD_ok hr.units) (ee_var 1) ee_int (nomark _))
    (es_one (s_ret (ee_ix (ee_lst (ea_cons ee_str (ea_cons ee_str ea_nil)) (al_cons (al_cons al_nil))) (ee_callC (Cal.ok (ok_law_take T) (hr.mono (by decide))) rfl T.g_law_take T.f_law_take.kp T.b_law_take tk (ea_cons (ee_var 0) (ea_cons ee_int ea_nil)) (al_cons (al_cons al_nil))))))
    es_nil)
    (es_cons (s_if (et_cmp ltD_ok (ee_var 1) ee_int (nomark _))
    (es_one (s_ret (ee_ix (ee_lst (ea_cons ee_str (ea_cons ee_str (ea_cons ee_str ea_nil))) (al_cons (al_cons (al_cons al_nil)))) (ee_callC (Cal.ok (ok_law_take T) (hr.mono (by decide))) rfl T.g_law_take T.f_law_take.kp T.b_law_take tk (ea_cons (ee_var 0) (ea_cons ee_int ea_nil)) (al_cons (al_cons al_nil))))))
    es_nil)
    (es_one (s_ret (ee_mth F.plainAttrs_str F.slot_str_join F.type_str_join joinD_ok ee_str (ea_cons (ee_lc frzL_ok rfl sc_law_rights.nd (ei_seq ee_str) (blkOk_by (N := ["_law_pool_here", "_law_way", "_law_sign"]) (sc := defScope s_law_rights) (own := [("_law_sign", 2)]) (by first | decide +kernel | rfl)) rfl (by decide) (fun _ _ _ _ _ => (g_nm 2 sc_law_rights.nd)) (fun _ _ _ _ _ => (et_if1 (et_cmp gtD_ok (ee_callC (Cal.ok (ok_law_take T) (hr.mono (by decide))) rfl T.g_law_take T.f_law_take.kp T.b_law_take Ev.takes0 (ea_cons (ee_var 0) (ea_cons ee_int ea_nil)) (al_cons (al_cons al_nil))) ee_int (nomark _)))) (fun _ _ _ _ _ => (ee_var 2))) ea_nil)))))))))
theorem ok_law_word (T : Txt w K mg C A fd) : FnOk P w K mg base (L2N.CX P w) 3 (A 20) (fd 20) ["_law_pool_here"] (spOf K C 1 g_law_word) :=
  fn_ev T.f_law_word sc_law_word fun cdv Ar outer s H E hr tk po =>
    (es_cons (s_if (et_cmp (eqD_ok hr.units) (ee_callC (Cal.ok (ok_law_take T) (hr.mono (by decide))) rfl T.g_law_take T.f_law_take.kp T.b_law_take tk (ea_cons (ee_var 0) (ea_cons ee_int ea_nil)) (al_cons (al_cons al_nil))) ee_int (nomark _))
    (es_one (s_ret (ee_tup (ea_cons ee_bl (ea_cons (ee_ix (ee_lst (ea_cons ee_int (ea_cons ee_int (ea_cons ee_int (ea_cons (ee_op subD_ok (ee_op powD_ok ee_int ee_int) ee_int) (ea_cons (ee_callC (Cal.ok (ok_law_take T) (hr.mono (by decide))) rfl T.g_law_take T.f_law_take.kp T.b_law_take tk (ea_cons (ee_var 0) (ea_cons (ee_op powD_ok ee_int ee_int) ea_nil)) (al_cons (al_cons al_nil))) ea_nil))))) (al_cons (al_cons (al_cons (al_cons (al_cons al_nil)))))) (ee_callC (Cal.ok (ok_law_take T) (hr.mono (by decide))) rfl T.g_law_take T.f_law_take.kp T.b_law_take tk (ea_cons (ee_var 0) (ea_cons ee_int ea_nil)) (al_cons (al_cons al_nil)))) ea_nil)) (al_cons (al_cons al_nil)))))
    es_nil)
    (es_cons (s_asg (ee_callC (Cal.ok (ok_law_bounds T) (hr.mono (by decide))) rfl T.g_law_bounds T.f_law_bounds.kp T.b_law_bounds tk (ea_cons (ee_var 0) ea_nil) (al_cons al_nil)) (g_tp rfl (gs_cons 1 sc_law_word.nd (gs_cons 2 sc_law_word.nd gs_nil))))
    (es_cons (s_set 3 sc_law_word.nd (ee_callC (Cal.ok (ok_law_rights T) (hr.mono (by decide))) rfl T.g_law_rights T.f_law_rights.kp T.b_law_rights tk (ea_cons (ee_var 0) ea_nil) (al_cons al_nil)))
    (es_cons (s_if (PW.pt (et_and (PW.pt (et_or (et_cmp (inD_ok hr.units) ee_str (ee_var 3) (by rfl)) (et_or1 (et_cmp (inD_ok hr.units) ee_str (ee_var 3) (by rfl))))) (et_and1 (et_cmp gtD_ok (ee_callC (Cal.ok (ok_law_take T) (hr.mono (by decide))) rfl T.g_law_take T.f_law_take.kp T.b_law_take tk (ea_cons (ee_var 0) (ea_cons ee_int ea_nil)) (al_cons (al_cons al_nil))) ee_int (nomark _)))))
    (es_one (s_asg (ee_ix (ee_lst (ea_cons (ee_tup (ea_cons ee_int (ea_cons ee_int ea_nil)) (al_cons (al_cons al_nil))) (ea_cons (ee_tup (ea_cons ee_int (ea_cons ee_int ea_nil)) (al_cons (al_cons al_nil))) (ea_cons (ee_tup (ea_cons ee_int (ea_cons ee_int ea_nil)) (al_cons (al_cons al_nil))) (ea_cons (ee_tup (ea_cons ee_int (ea_cons ee_int ea_nil)) (al_cons (al_cons al_nil))) (ea_cons (ee_tup (ea_cons ee_int (ea_cons ee_int ea_nil)) (al_cons (al_cons al_nil))) ea_nil))))) (al_cons (al_cons (al_cons (al_cons (al_cons al_nil)))))) (ee_callC (Cal.ok (ok_law_take T) (hr.mono (by decide))) rfl T.g_law_take T.f_law_take.kp T.b_law_take tk (ea_cons (ee_var 0) (ea_cons ee_int ea_nil)) (al_cons (al_cons al_nil)))) (g_tp rfl (gs_cons 1 sc_law_word.nd (gs_cons 2 sc_law_word.nd gs_nil)))))
    es_nil)
    (es_cons (s_set 4 sc_law_word.nd (ee_ix (ee_lst (ea_cons (ee_var 1) (ea_cons (ee_op subD_ok (ee_var 2) ee_int) (ea_cons (ee_op modD_ok (ee_var 2) ee_int) (ea_cons (ee_op addD_ok (ee_var 1) (ee_callC (Cal.ok (ok_law_take T) (hr.mono (by decide))) rfl T.g_law_take T.f_law_take.kp T.b_law_take tk (ea_cons (ee_var 0) (ea_cons (ee_op subD_ok (ee_var 2) (ee_var 1)) ea_nil)) (al_cons (al_cons al_nil)))) (ea_cons (ee_callC (Cal.ok (ok_law_take T) (hr.mono (by decide))) rfl T.g_law_take T.f_law_take.kp T.b_law_take tk (ea_cons (ee_var 0) (ea_cons ee_int ea_nil)) (al_cons (al_cons al_nil))) ea_nil))))) (al_cons (al_cons (al_cons (al_cons (al_cons al_nil)))))) (ee_callC (Cal.ok (ok_law_take T) (hr.mono (by decide))) rfl T.g_law_take T.f_law_take.kp T.b_law_take tk (ea_cons (ee_var 0) (ea_cons ee_int ea_nil)) (al_cons (al_cons al_nil)))))
    (es_cons (s_set 5 sc_law_word.nd (ee_ix (ee_lst (ea_cons ee_int (ea_cons ee_int (ea_cons ee_int (ea_cons ee_int (ea_cons ee_int (ea_cons ee_int (ea_cons ee_int (ea_cons ee_int (ea_cons (ee_callC (Cal.ok (ok_law_take T) (hr.mono (by decide))) rfl T.g_law_take T.f_law_take.kp T.b_law_take tk (ea_cons (ee_var 0) (ea_cons ee_int ea_nil)) (al_cons (al_cons al_nil))) ea_nil))))))))) (al_cons (al_cons (al_cons (al_cons (al_cons (al_cons (al_cons (al_cons (al_cons al_nil)))))))))) (ee_callC (Cal.ok (ok_law_take T) (hr.mono (by decide))) rfl T.g_law_take T.f_law_take.kp T.b_law_take tk (ea_cons (ee_var 0) (ea_cons ee_int ea_nil)) (al_cons (al_cons al_nil)))))
    (es_cons (s_set 6 sc_law_word.nd (ee_callC (Cal.ok (ok_law_made T) (hr.mono (by decide))) rfl T.g_law_made T.f_law_made.kp T.b_law_made tk (ea_cons (ee_var 1) (ea_cons (ee_var 2) (ea_cons (ee_var 4) (ea_cons (ee_var 3) (ea_cons (ee_var 5) ea_nil))))) (al_cons (al_cons (al_cons (al_cons (al_cons al_nil)))))))
    (es_one (s_ret (ee_ix (ee_lst (ea_cons (ee_var 6) (ea_cons (ee_var 6) (ea_cons (ee_var 6) (ea_cons (ee_var 6) (ea_cons (ee_tup (ea_cons ee_bl (ea_cons (ee_ix (ee_var 6) ee_int) ea_nil)) (al_cons (al_cons al_nil))) ea_nil))))) (al_cons (al_cons (al_cons (al_cons (al_cons al_nil)))))) (ee_callC (Cal.ok (ok_law_take T) (hr.mono (by decide))) rfl T.g_law_take T.f_law_take.kp T.b_law_take tk (ea_cons (ee_var 0) (ea_cons ee_int ea_nil)) (al_cons (al_cons al_nil)))))))))))))
theorem ok_Cells_put (T : Txt w K mg C A fd) : FnOk P w K mg base (L2N.CX P w) 1 (A 302) (fd 302) ["self", "address", "word"] (spOf K C 3 g_Cells_put) :=
  fn_ev T.f_Cells_put sc_Cells_put fun cdv Ar outer s H E hr tk po =>
    (es_one (s_if (et_cmp (eqD_ok hr.units) (ee_var 2) (ee_gA (xs := [.b false, .i 0]) T.c_NOTHING) (nomark _))
    (es_one (s_exp (ee_mth F.plainAttrs_dict F.slot_dict_pop F.type_dict_pop popDM_ok (ee_atr (ee_var 0) (isC_h T.cl_Cells T.na_Cells_own_cells)) (ea_cons (ee_var 1) (ea_cons ee_non ea_nil)))))
    (es_one (s_putD hr.units (ee_var 2) (ee_atr (ee_var 0) (isC_h T.cl_Cells T.na_Cells_own_cells)) (ee_var 1)))))
theorem ok_Cells_lay (T : Txt w K mg C A fd) : FnOk P w K mg base (L2N.CX P w) 4 (A 303) (fd 303) ["self", "address", "word"] (spOf K C 3 g_Cells_lay) :=
  fn_ev T.f_Cells_lay sc_Cells_lay fun cdv Ar outer s H E hr tk po =>
    (es_cons (s_if (et_not (et_val (ee_callC (Cal.ok (ok_is_address T) (hr.mono (by decide))) rfl T.g_is_address T.f_is_address.kp T.b_is_address tk (ea_cons (ee_var 1) ea_nil) (al_cons al_nil))))
    (es_one (s_raise0 cl_NoAddress rfl tk PySem.F.excBase_ValueError T.x_NoAddress T.k_NoAddress T.p_NoAddress (raises_own T.u_NoAddress T.y_NoAddress) rfl))
    es_nil)
    (es_cons (s_if (et_not (et_val (ee_callC (Cal.ok (ok_is_lawful T) (hr.mono (by decide))) rfl T.g_is_lawful T.f_is_lawful.kp T.b_is_lawful tk (ea_cons (ee_var 2) ea_nil) (al_cons al_nil))))
    (es_one (s_raise0 cl_NoWord rfl tk PySem.F.excBase_ValueError T.x_NoWord T.k_NoWord T.p_NoWord (raises_own T.u_NoWord T.y_NoWord) rfl))
    es_nil)
    (es_one (s_exp (ee_met (ee_var 0) T.cl_Cells T.m_Cells_put (Cal.ok (ok_Cells_put T) (hr.mono (by decide))) T.b_Cells_put tk (ea_cons (ee_var 1) (ea_cons (ee_var 2) ea_nil)) (al_cons (al_cons al_nil)))))))
theorem ok_Cells_marked (T : Txt w K mg C A fd) : FnOk P w K mg base (L2N.CX P w) 3 (A 309) (fd 309) ["self", "low", "high"] (spOf K C 3 g_Cells_marked) :=
  fnD_ev T.f_Cells_marked sc_Cells_marked fun cdv Ar outer s H E hr tk po =>
    (es_cons (s_exp (ee_callC (Cal.ok (ok_look_at_bounds T) (hr.mono (by decide))) rfl T.g_look_at_bounds T.f_look_at_bounds.kp T.b_look_at_bounds tk (ea_cons (ee_var 1) (ea_cons (ee_var 2) ea_nil)) (al_cons (al_cons al_nil))))
    (es_one (s_ret (ee_lc mutL_ok rfl sc_Cells_marked.nd (ei_seq (ee_callB (sortX_ok rfl) rfl T.z_sorted (by decide +kernel) (ea_cons (ee_atr (ee_var 0) (isC_h T.cl_Cells T.na_Cells_own_cells)) ea_nil))) (blkOk_by (N := ["self", "low", "high", "address"]) (sc := defScope s_Cells_marked) (own := [("address", 3)]) (by first | decide +kernel | rfl)) rfl (by decide) (fun _ _ _ _ _ => (g_nm 3 sc_Cells_marked.nd)) (fun _ _ _ _ _ => (et_if2 (et_chain (ee_var 1) (ch_link leD_ok (ee_var 3) (ch_last ltD_ok (ee_var 2)))) (et_val (ee_ix (ee_dix hr.units (ee_atr (ee_var 0) (isC_h T.cl_Cells T.na_Cells_own_cells)) (ee_var 3)) ee_int)))) (fun _ _ _ _ _ => (ee_var 3))))))
theorem ok_Cells_clear (T : Txt w K mg C A fd) : FnOk P w K mg base (L2N.CX P w) 3 (A 308) (fd 308) ["self", "low", "high"] (spOf K C 3 g_Cells_clear) :=
  fn_ev T.f_Cells_clear sc_Cells_clear fun cdv Ar outer s H E hr tk po =>
    (es_cons (s_exp (ee_callC (Cal.ok (ok_look_at_bounds T) (hr.mono (by decide))) rfl T.g_look_at_bounds T.f_look_at_bounds.kp T.b_look_at_bounds tk (ea_cons (ee_var 1) (ea_cons (ee_var 2) ea_nil)) (al_cons (al_cons al_nil))))
    (es_one (s_for po rfl (ei_range2 rfl T.z_range (ea_cons (ee_var 1) (ea_cons (ee_var 2) ea_nil))) (g_nm 3 sc_Cells_clear.nd)
    (es_one (s_exp (ee_mth F.plainAttrs_dict F.slot_dict_pop F.type_dict_pop popDM_ok (ee_atr (ee_var 0) (isC_h T.cl_Cells T.na_Cells_own_cells)) (ea_cons (ee_var 3) (ea_cons ee_non ea_nil))))))))
theorem ok_Cells_cell (T : Txt w K mg C A fd) : FnOk P w K mg base (L2N.CX P w) 3 (A 301) (fd 301) ["self", "address"] (spOf K C 2 g_Cells_cell) :=
  fn_ev T.f_Cells_cell sc_Cells_cell fun cdv Ar outer s H E hr tk po =>
    (es_cons (s_if (et_not (et_val (ee_callC (Cal.ok (ok_is_address T) (hr.mono (by decide))) rfl T.g_is_address T.f_is_address.kp T.b_is_address tk (ea_cons (ee_var 1) ea_nil) (al_cons al_nil))))
    (es_one (s_raise0 cl_NoAddress rfl tk PySem.F.excBase_ValueError T.x_NoAddress T.k_NoAddress T.p_NoAddress (raises_own T.u_NoAddress T.y_NoAddress) rfl))
    es_nil)
    (es_one (s_ret (ee_mth F.plainAttrs_dict F.slot_dict_get F.type_dict_get (getDM_ok hr.units) (ee_atr (ee_var 0) (isC_h T.cl_Cells T.na_Cells_own_cells)) (ea_cons (ee_var 1) (ea_cons (ee_gA (xs := [.b false, .i 0]) T.c_NOTHING) ea_nil))))))
theorem ok_Cells_put_lowest (T : Txt w K mg C A fd) : FnOk P w K mg base (L2N.CX P w) 4 (A 307) (fd 307) ["self", "address", "number"] (spOf K C 3 g_Cells_put_lowest) :=
  fn_ev T.f_Cells_put_lowest sc_Cells_put_lowest fun cdv Ar outer s H E hr tk po =>
    (es_cons (s_set 3 sc_Cells_put_lowest.nd (ee_ix (ee_met (ee_var 0) T.cl_Cells T.m_Cells_cell (Cal.ok (ok_Cells_cell T) (hr.mono (by decide))) T.b_Cells_cell tk (ea_cons (ee_var 1) ea_nil) (al_cons al_nil)) ee_int))
    (es_one (s_exp (ee_met (ee_var 0) T.cl_Cells T.m_Cells_put (Cal.ok (ok_Cells_put T) (hr.mono (by decide))) T.b_Cells_put tk (ea_cons (ee_var 1) (ea_cons (ee_tup (ea_cons ee_bl (ea_cons (ee_op addD_ok (ee_op subD_ok (ee_var 3) (ee_op modD_ok (ee_var 3) (ee_gI T.c_POKED))) (ee_op modD_ok (ee_var 2) (ee_gI T.c_POKED))) ea_nil)) (al_cons (al_cons al_nil))) ea_nil)) (al_cons (al_cons al_nil))))))
theorem ok_Cells_poke (T : Txt w K mg C A fd) : FnOk P w K mg base (L2N.CX P w) 5 (A 306) (fd 306) ["self", "word", "offset", "number"] (spOf K C 4 g_Cells_poke) :=
  fn_ev T.f_Cells_poke sc_Cells_poke fun cdv Ar outer s H E hr tk po =>
    (es_one (s_exp (ee_met (ee_var 0) T.cl_Cells T.m_Cells_put_lowest (Cal.ok (ok_Cells_put_lowest T) (hr.mono (by decide))) T.b_Cells_put_lowest tk (ea_cons (ee_callK (Cal.ok (ok_address_by T) (hr.mono (by decide))) rfl T.g_address_by T.f_address_by.kp (bk_address_by_3_x T) rfl tk (ea_cons (ee_var 1) (ea_cons (ee_var 2) (ea_cons ee_str ea_nil))) (al_cons (al_cons (al_cons al_nil))) ek_nil al_nil) (ea_cons (ee_var 3) ea_nil)) (al_cons (al_cons al_nil)))))
theorem ok_Cells_store (T : Txt w K mg C A fd) : FnOk P w K mg base (L2N.CX P w) 4 (A 305) (fd 305) ["self", "word", "offset", "what"] (spOf K C 4 g_Cells_store) :=
  fn_ev T.f_Cells_store sc_Cells_store fun cdv Ar outer s H E hr tk po =>
    (es_cons (s_set 4 sc_Cells_store.nd (ee_callK (Cal.ok (ok_address_by T) (hr.mono (by decide))) rfl T.g_address_by T.f_address_by.kp (bk_address_by_3_x T) rfl tk (ea_cons (ee_var 1) (ea_cons (ee_var 2) (ea_cons ee_str ea_nil))) (al_cons (al_cons (al_cons al_nil))) ek_nil al_nil))
    (es_cons (s_exp (ee_callC (Cal.ok (ok_look_at_stored T) (hr.mono (by decide))) rfl T.g_look_at_stored T.f_look_at_stored.kp T.b_look_at_stored tk (ea_cons (ee_var 1) (ea_cons (ee_var 3) ea_nil)) (al_cons (al_cons al_nil))))
    (es_one (s_exp (ee_met (ee_var 0) T.cl_Cells T.m_Cells_put (Cal.ok (ok_Cells_put T) (hr.mono (by decide))) T.b_Cells_put tk (ea_cons (ee_var 4) (ea_cons (ee_var 3) ea_nil)) (al_cons (al_cons al_nil)))))))
theorem ok_Cells_load (T : Txt w K mg C A fd) : FnOk P w K mg base (L2N.CX P w) 4 (A 304) (fd 304) ["self", "word", "offset"] (spOf K C 3 g_Cells_load) :=
  fn_ev T.f_Cells_load sc_Cells_load fun cdv Ar outer s H E hr tk po =>
    (es_cons (s_set 3 sc_Cells_load.nd (ee_met (ee_var 0) T.cl_Cells T.m_Cells_cell (Cal.ok (ok_Cells_cell T) (hr.mono (by decide))) T.b_Cells_cell tk (ea_cons (ee_callK (Cal.ok (ok_address_by T) (hr.mono (by decide))) rfl T.g_address_by T.f_address_by.kp (bk_address_by_3_x T) rfl tk (ea_cons (ee_var 1) (ea_cons (ee_var 2) (ea_cons ee_str ea_nil))) (al_cons (al_cons (al_cons al_nil))) ek_nil al_nil) ea_nil) (al_cons al_nil)))
    (es_one (s_ret (ee_if (et_cmp (inD_ok hr.units) ee_str (ee_ix (ee_callC (Cal.ok (ok_fields_of T) (hr.mono (by decide))) rfl T.g_fields_of T.f_fields_of.kp T.b_fields_of tk (ea_cons (ee_var 1) ea_nil) (al_cons al_nil)) ee_int) (by rfl)) (ee_var 3) (ee_callC (Cal.ok (ok_bare T) (hr.mono (by decide))) rfl T.g_bare T.f_bare.kp T.b_bare tk (ea_cons (ee_var 3) ea_nil) (al_cons al_nil))))))
theorem ok_law_said (T : Txt w K mg C A fd) : FnOk P w K mg base (L2N.CX P w) 6 (A 21) (fd 21) ["_law_cells", "_law_door", "_law_thing", "_law_word_here"] (spOf K C 4 g_law_said) :=
  fn_ev T.f_law_said sc_law_said fun cdv Ar outer s H E hr tk po =>
    (es_cons (s_set 4 sc_law_said.nd ee_non)
    (es_cons (s_try_as (i := 5) (sub := sub_ReachError) rfl rfl rfl sc_law_said.nd rfl rfl ⟨rfl, by decide, .inl T.k_ReachError⟩ tk (sub_ReachError_h T)
    (fun W0 pn0 xe0 tk0 po0 => (es_one (s_if (et_cmp (eqD_ok hr.units) (ee_var 1) ee_int (nomark _))
    (es_one (s_exp (ee_met (ee_var 0) T.cl_Cells T.m_Cells_cell (Cal.ok (ok_Cells_cell T) (hr.mono (by decide))) T.b_Cells_cell tk0 (ea_cons (ee_var 2) ea_nil) (al_cons al_nil))))
    (es_one (s_if (et_cmp (eqD_ok hr.units) (ee_var 1) ee_int (nomark _))
    (es_one (s_exp (ee_met (ee_var 0) T.cl_Cells T.m_Cells_lay (Cal.ok (ok_Cells_lay T) (hr.mono (by decide))) T.b_Cells_lay tk0 (ea_cons (ee_var 2) (ea_cons (ee_var 3) ea_nil)) (al_cons (al_cons al_nil)))))
    (es_one (s_if (et_cmp (eqD_ok hr.units) (ee_var 1) ee_int (nomark _))
    (es_one (s_exp (ee_met (ee_var 0) T.cl_Cells T.m_Cells_lay (Cal.ok (ok_Cells_lay T) (hr.mono (by decide))) T.b_Cells_lay tk0 (ea_cons ee_int (ea_cons (ee_var 2) ea_nil)) (al_cons (al_cons al_nil)))))
    (es_one (s_if (et_cmp (eqD_ok hr.units) (ee_var 1) ee_int (nomark _))
    (es_one (s_exp (ee_met (ee_var 0) T.cl_Cells T.m_Cells_load (Cal.ok (ok_Cells_load T) (hr.mono (by decide))) T.b_Cells_load tk0 (ea_cons (ee_var 3) (ea_cons (ee_var 2) ea_nil)) (al_cons (al_cons al_nil)))))
    (es_one (s_if (et_cmp (eqD_ok hr.units) (ee_var 1) ee_int (nomark _))
    (es_one (s_exp (ee_met (ee_var 0) T.cl_Cells T.m_Cells_store (Cal.ok (ok_Cells_store T) (hr.mono (by decide))) T.b_Cells_store tk0 (ea_cons (ee_var 3) (ea_cons (ee_var 2) (ea_cons (ee_tup (ea_cons ee_bl (ea_cons ee_int ea_nil)) (al_cons (al_cons al_nil))) ea_nil))) (al_cons (al_cons (al_cons al_nil))))))
    (es_one (s_if (et_cmp (eqD_ok hr.units) (ee_var 1) ee_int (nomark _))
    (es_one (s_exp (ee_met (ee_var 0) T.cl_Cells T.m_Cells_poke (Cal.ok (ok_Cells_poke T) (hr.mono (by decide))) T.b_Cells_poke tk0 (ea_cons (ee_var 3) (ea_cons (ee_var 2) (ea_cons ee_int ea_nil))) (al_cons (al_cons (al_cons al_nil))))))
    (es_one (s_if (et_cmp (eqD_ok hr.units) (ee_var 1) ee_int (nomark _))
    (es_one (s_exp (ee_met (ee_var 0) T.cl_Cells T.m_Cells_clear (Cal.ok (ok_Cells_clear T) (hr.mono (by decide))) T.b_Cells_clear tk0 (ea_cons (ee_var 2) (ea_cons ee_int ea_nil)) (al_cons (al_cons al_nil)))))
    (es_one (s_if (et_cmp (eqD_ok hr.units) (ee_var 1) ee_int (nomark _))
    (es_one (s_exp (ee_metD (ee_var 0) T.cl_Cells T.m_Cells_marked (Cal.ok (ok_Cells_marked T) (hr.mono (by decide))) T.bd_Cells_marked_0 tk0 (ea_cons (ee_var 2) (ea_cons ee_int ea_nil)) (al_cons (al_cons al_nil)))))
    (es_one (s_if (et_cmp (eqD_ok hr.units) (ee_var 1) ee_int (nomark _))
    (es_one (s_exp (ee_met (ee_var 0) T.cl_Cells T.m_Cells_clear (Cal.ok (ok_Cells_clear T) (hr.mono (by decide))) T.b_Cells_clear tk0 (ea_cons ee_int (ea_cons (ee_var 2) ea_nil)) (al_cons (al_cons al_nil)))))
    (es_one (s_if (et_cmp (eqD_ok hr.units) (ee_var 1) ee_int (nomark _))
    (es_one (s_exp (ee_metD (ee_var 0) T.cl_Cells T.m_Cells_marked (Cal.ok (ok_Cells_marked T) (hr.mono (by decide))) T.bd_Cells_marked_0 tk0 (ea_cons ee_int (ea_cons (ee_var 2) ea_nil)) (al_cons (al_cons al_nil)))))
    (es_one (s_if (et_cmp (eqD_ok hr.units) (ee_var 1) ee_int (nomark _))
    (es_one (s_exp (ee_met (ee_var 0) T.cl_Cells T.m_Cells_clear (Cal.ok (ok_Cells_clear T) (hr.mono (by decide))) T.b_Cells_clear tk0 (ea_cons (ee_ix (ee_var 2) ee_int) (ea_cons (ee_ix (ee_var 2) ee_int) ea_nil)) (al_cons (al_cons al_nil)))))
    (es_one (s_if (et_cmp (eqD_ok hr.units) (ee_var 1) ee_int (nomark _))
    (es_one (s_exp (ee_metD (ee_var 0) T.cl_Cells T.m_Cells_marked (Cal.ok (ok_Cells_marked T) (hr.mono (by decide))) T.bd_Cells_marked_0 tk0 (ea_cons (ee_ix (ee_var 2) ee_int) (ea_cons (ee_ix (ee_var 2) ee_int) ea_nil)) (al_cons (al_cons al_nil)))))
    (es_one (s_exp (ee_met (ee_var 0) T.cl_Cells T.m_Cells_lay (Cal.ok (ok_Cells_lay T) (hr.mono (by decide))) T.b_Cells_lay tk0 (ea_cons (ee_var 2) (ea_cons ee_non ea_nil)) (al_cons (al_cons al_nil))))))))))))))))))))))))))))))
    (fun a0 pn0 => (es_one (s_set 4 sc_law_said.nd (ee_var 5)))))
    (es_cons (s_set 6 sc_law_said.nd (ee_lst (ea_cons (ee_isiQ (ee_var 4) rfl T.z_isinstance (pe_glob (v := .ref (C 3)) rfl T.k_NoAddress rfl) (.own _) (kq_NoAddress_h T) (kq_NoAddress_x T)) (ea_cons (ee_isiQ (ee_var 4) rfl T.z_isinstance (pe_glob (v := .ref (C 4)) rfl T.k_NoWord rfl) (.own _) (kq_NoWord_h T) (kq_NoWord_x T)) (ea_cons (ee_isiQ (ee_var 4) rfl T.z_isinstance (pe_glob (v := .ref (C 2)) rfl T.k_NoOffset rfl) (.own _) (kq_NoOffset_h T) (kq_NoOffset_x T)) ea_nil))) (al_cons (al_cons (al_cons al_nil)))))
    (es_cons (s_set 6 sc_law_said.nd (ee_op addD_ok (ee_var 6) (ee_lst (ea_cons (ee_isiQ (ee_var 4) rfl T.z_isinstance (pe_glob (v := .ref (C 1)) rfl T.k_NoBounds rfl) (.own _) (kq_NoBounds_h T) (kq_NoBounds_x T)) (ea_cons (ee_isiQ (ee_var 4) rfl T.z_isinstance (pe_glob (v := .ref (C 5)) rfl T.k_Fault rfl) (.own _) (kq_Fault_h T) (kq_Fault_x T)) ea_nil)) (al_cons (al_cons al_nil)))))
    (es_one (s_ret (ee_lc frzL_ok rfl sc_law_said.nd (ei_range1 rfl T.z_range (ea_cons ee_int ea_nil)) (blkOk_by (N := ["_law_cells", "_law_door", "_law_thing", "_law_word_here", "_law_kept", "e", "_law_kinds", "_law_at"]) (sc := defScope s_law_said) (own := [("_law_at", 7)]) (by first | decide +kernel | rfl)) rfl (by decide) (fun _ _ _ _ _ => (g_nm 7 sc_law_said.nd)) (fun _ _ _ _ _ => (et_if1 (et_val (ee_ix (ee_var 6) (ee_var 7))))) (fun _ _ _ _ _ => (ee_var 7)))))))))
theorem ok_law_odd_so (T : Txt w K mg C A fd) : FnG P w K mg base (L2N.CX P w) 7 (A 22) (fd 22) ["_law_cells", "_law_word_here"] (spOf K C 2 g_law_odd_so) :=
  fnG_ev T.f_law_odd_so sc_law_odd_so fun cdv Ar outer s H E hr tk po =>
    (es_cons (s_set 2 sc_law_odd_so.nd (ee_callB (reprD_ok hr.room.units hr.gd) rfl T.z_repr (by decide +kernel) (ea_cons (ee_lc frzL_ok rfl sc_law_odd_so.nd (ei_range1 rfl T.z_range (ea_cons ee_int ea_nil)) (blkOk_by (N := ["_law_cells", "_law_word_here", "_law_kept", "_law_address", "_law_thing", "_law_bad", "_law_door"]) (sc := defScope s_law_odd_so) (own := [("_law_address", 3)]) (by first | decide +kernel | rfl)) rfl (by decide) (fun _ _ _ _ _ => (g_nm 3 sc_law_odd_so.nd)) (fun _ _ _ _ _ => et_yes) (fun _ _ _ _ _ => (ee_met (ee_var 0) T.cl_Cells T.m_Cells_cell (Cal.ok (ok_Cells_cell T) (hr.room.mono (by decide))) T.b_Cells_cell Ev.takes0 (ea_cons (ee_var 3) ea_nil) (al_cons al_nil)))) ea_nil)))
    (es_cons (s_for po rfl (ei_seq (ee_lst (ea_cons ee_non (ea_cons ee_bl (ea_cons (ee_un negD_ok ee_int) (ea_cons ee_int (ea_cons (ee_op powD_ok ee_int ee_int) (ea_cons ee_str (ea_cons (ee_tup (ea_cons ee_int ea_nil) (al_cons al_nil)) (ea_cons (ee_lst (ea_cons ee_int ea_nil) (al_cons al_nil)) ea_nil)))))))) (al_cons (al_cons (al_cons (al_cons (al_cons (al_cons (al_cons (al_cons al_nil)))))))))) (g_nm 4 sc_law_odd_so.nd)
    (es_cons (s_if (PW.pt (et_or (et_cmp (neD_ok hr.room.units) (ee_callC (Cal.ok (ok_law_said T) (hr.room.mono (by decide))) rfl T.g_law_said T.f_law_said.kp T.b_law_said tk (ea_cons (ee_var 0) (ea_cons ee_int (ea_cons (ee_var 4) (ea_cons (ee_var 1) ea_nil)))) (al_cons (al_cons (al_cons (al_cons al_nil))))) (ee_lst (ea_cons ee_int ea_nil) (al_cons al_nil)) (nomark _)) (et_or1 (et_cmp (neD_ok hr.room.units) (ee_callC (Cal.ok (ok_law_said T) (hr.room.mono (by decide))) rfl T.g_law_said T.f_law_said.kp T.b_law_said tk (ea_cons (ee_var 0) (ea_cons ee_int (ea_cons (ee_var 4) (ea_cons (ee_var 1) ea_nil)))) (al_cons (al_cons (al_cons (al_cons al_nil))))) (ee_lst (ea_cons ee_int ea_nil) (al_cons al_nil)) (nomark _)))))
    (es_one (s_ret ee_bl))
    es_nil)
    (es_one (s_if (PW.pt (et_or (et_cmp (neD_ok hr.room.units) (ee_callC (Cal.ok (ok_law_said T) (hr.room.mono (by decide))) rfl T.g_law_said T.f_law_said.kp T.b_law_said tk (ea_cons (ee_var 0) (ea_cons ee_int (ea_cons (ee_var 4) (ea_cons (ee_var 1) ea_nil)))) (al_cons (al_cons (al_cons (al_cons al_nil))))) (ee_lst (ea_cons ee_int ea_nil) (al_cons al_nil)) (nomark _)) (et_or1 (et_cmp (neD_ok hr.room.units) (ee_callC (Cal.ok (ok_law_said T) (hr.room.mono (by decide))) rfl T.g_law_said T.f_law_said.kp T.b_law_said tk (ea_cons (ee_var 0) (ea_cons ee_int (ea_cons (ee_var 4) (ea_cons (ee_var 1) ea_nil)))) (al_cons (al_cons (al_cons (al_cons al_nil))))) (ee_lst (ea_cons ee_int ea_nil) (al_cons al_nil)) (nomark _)))))
    (es_one (s_ret ee_bl))
    es_nil))))
    (es_cons (s_for po rfl (ei_seq (ee_lst (ea_cons ee_non (ea_cons ee_bl (ea_cons (ee_un negD_ok ee_int) (ea_cons ee_int (ea_cons ee_int (ea_cons (ee_op powD_ok ee_int ee_int) (ea_cons ee_str (ea_cons (ee_tup (ea_cons ee_int ea_nil) (al_cons al_nil)) (ea_cons (ee_lst (ea_cons ee_int ea_nil) (al_cons al_nil)) ea_nil))))))))) (al_cons (al_cons (al_cons (al_cons (al_cons (al_cons (al_cons (al_cons (al_cons al_nil))))))))))) (g_nm 4 sc_law_odd_so.nd)
    (es_one (s_if (PW.pt (et_or (et_cmp (neD_ok hr.room.units) (ee_callC (Cal.ok (ok_law_said T) (hr.room.mono (by decide))) rfl T.g_law_said T.f_law_said.kp T.b_law_said tk (ea_cons (ee_var 0) (ea_cons ee_int (ea_cons (ee_var 4) (ea_cons (ee_var 1) ea_nil)))) (al_cons (al_cons (al_cons (al_cons al_nil))))) (ee_lst (ea_cons ee_int ea_nil) (al_cons al_nil)) (nomark _)) (et_or1 (et_cmp (neD_ok hr.room.units) (ee_callC (Cal.ok (ok_law_said T) (hr.room.mono (by decide))) rfl T.g_law_said T.f_law_said.kp T.b_law_said tk (ea_cons (ee_var 0) (ea_cons ee_int (ea_cons (ee_var 4) (ea_cons (ee_var 1) ea_nil)))) (al_cons (al_cons (al_cons (al_cons al_nil))))) (ee_lst (ea_cons ee_int ea_nil) (al_cons al_nil)) (nomark _)))))
    (es_one (s_ret ee_bl))
    es_nil)))
    (es_cons (s_for po rfl (ei_seq (ee_lst (ea_cons (ee_tup (ea_cons ee_int (ea_cons ee_int ea_nil)) (al_cons (al_cons al_nil))) (ea_cons (ee_tup (ea_cons ee_int (ea_cons ee_int ea_nil)) (al_cons (al_cons al_nil))) (ea_cons (ee_tup (ea_cons ee_int (ea_cons ee_int ea_nil)) (al_cons (al_cons al_nil))) (ea_cons (ee_tup (ea_cons ee_int (ea_cons ee_int ea_nil)) (al_cons (al_cons al_nil))) ea_nil)))) (al_cons (al_cons (al_cons (al_cons al_nil)))))) (g_nm 4 sc_law_odd_so.nd)
    (es_one (s_if (PW.pt (et_or (et_cmp (neD_ok hr.room.units) (ee_callC (Cal.ok (ok_law_said T) (hr.room.mono (by decide))) rfl T.g_law_said T.f_law_said.kp T.b_law_said tk (ea_cons (ee_var 0) (ea_cons ee_int (ea_cons (ee_var 4) (ea_cons (ee_var 1) ea_nil)))) (al_cons (al_cons (al_cons (al_cons al_nil))))) (ee_lst (ea_cons ee_int ea_nil) (al_cons al_nil)) (nomark _)) (et_or1 (et_cmp (neD_ok hr.room.units) (ee_callC (Cal.ok (ok_law_said T) (hr.room.mono (by decide))) rfl T.g_law_said T.f_law_said.kp T.b_law_said tk (ea_cons (ee_var 0) (ea_cons ee_int (ea_cons (ee_var 4) (ea_cons (ee_var 1) ea_nil)))) (al_cons (al_cons (al_cons (al_cons al_nil))))) (ee_lst (ea_cons ee_int ea_nil) (al_cons al_nil)) (nomark _)))))
    (es_one (s_ret ee_bl))
    es_nil)))
    (es_cons (s_if (et_cmp (neD_ok hr.room.units) (ee_lc frzL_ok rfl sc_law_odd_so.nd (ei_seq (ee_lst (ea_cons (ee_un negD_ok ee_int) (ea_cons ee_non (ea_cons ee_int ea_nil))) (al_cons (al_cons (al_cons al_nil))))) (blkOk_by (N := ["_law_cells", "_law_word_here", "_law_kept", "_law_address", "_law_thing", "_law_bad", "_law_door"]) (sc := defScope s_law_odd_so) (own := [("_law_thing", 4)]) (by first | decide +kernel | rfl)) rfl (by decide) (fun _ _ _ _ _ => (g_nm 4 sc_law_odd_so.nd)) (fun _ _ _ _ _ => et_yes) (fun _ _ _ _ _ => (ee_callC (Cal.ok (ok_law_said T) (hr.room.mono (by decide))) rfl T.g_law_said T.f_law_said.kp T.b_law_said Ev.takes0 (ea_cons (ee_var 0) (ea_cons ee_int (ea_cons (ee_var 4) (ea_cons (ee_var 1) ea_nil)))) (al_cons (al_cons (al_cons (al_cons al_nil))))))) (ee_lst (ea_cons (ee_lst (ea_cons ee_int ea_nil) (al_cons al_nil)) (ea_cons (ee_lst (ea_cons ee_int ea_nil) (al_cons al_nil)) (ea_cons (ee_lst (ea_cons ee_int ea_nil) (al_cons al_nil)) ea_nil))) (al_cons (al_cons (al_cons al_nil)))) (nomark _))
    (es_one (s_ret ee_bl))
    es_nil)
    (es_cons (s_set 5 sc_law_odd_so.nd (ee_lst (ea_cons ee_non (ea_cons ee_int (ea_cons (ee_tup (ea_cons ee_bl (ea_cons (ee_op powD_ok ee_int ee_int) ea_nil)) (al_cons (al_cons al_nil))) (ea_cons (ee_tup (ea_cons ee_bl (ea_cons (ee_op shlD_ok ee_int ee_int) ea_nil)) (al_cons (al_cons al_nil))) (ea_cons (ee_tup (ea_cons ee_int (ea_cons ee_int ea_nil)) (al_cons (al_cons al_nil))) (ea_cons (ee_tup (ea_cons ee_bl (ea_cons (ee_un negD_ok ee_int) ea_nil)) (al_cons (al_cons al_nil))) (ea_cons (ee_lst (ea_cons ee_bl (ea_cons ee_int ea_nil)) (al_cons (al_cons al_nil))) ea_nil))))))) (al_cons (al_cons (al_cons (al_cons (al_cons (al_cons (al_cons al_nil)))))))))
    (es_cons (s_for po rfl (ei_seq (ee_op addD_ok (ee_var 5) (ee_lst (ea_cons (ee_tup (ea_cons ee_bl (ea_cons (ee_op orD_ok (ee_op shlD_ok ee_int ee_int) (ee_op shlD_ok ee_int ee_int)) ea_nil)) (al_cons (al_cons al_nil))) ea_nil) (al_cons al_nil)))) (g_nm 4 sc_law_odd_so.nd)
    (es_one (s_if (et_cmp (neD_ok hr.room.units) (ee_callC (Cal.ok (ok_law_said T) (hr.room.mono (by decide))) rfl T.g_law_said T.f_law_said.kp T.b_law_said tk (ea_cons (ee_var 0) (ea_cons ee_int (ea_cons (ee_var 4) (ea_cons (ee_var 1) ea_nil)))) (al_cons (al_cons (al_cons (al_cons al_nil))))) (ee_lst (ea_cons ee_int ea_nil) (al_cons al_nil)) (nomark _))
    (es_one (s_ret ee_bl))
    es_nil)))
    (es_cons (s_for po rfl (ei_seq (ee_lst (ea_cons ee_non (ea_cons ee_bl (ea_cons (ee_un negD_ok ee_int) (ea_cons ee_int (ea_cons ee_str (ea_cons (ee_tup (ea_cons ee_int ea_nil) (al_cons al_nil)) ea_nil)))))) (al_cons (al_cons (al_cons (al_cons (al_cons (al_cons al_nil)))))))) (g_nm 4 sc_law_odd_so.nd)
    (es_one (s_if (et_cmp (neD_ok hr.room.units) (ee_lc frzL_ok rfl sc_law_odd_so.nd (ei_seq (ee_tup (ea_cons ee_int (ea_cons ee_int (ea_cons ee_int ea_nil))) (al_cons (al_cons (al_cons al_nil))))) (blkOk_by (N := ["_law_cells", "_law_word_here", "_law_kept", "_law_address", "_law_thing", "_law_bad", "_law_door"]) (sc := defScope s_law_odd_so) (own := [("_law_door", 6)]) (by first | decide +kernel | rfl)) rfl (by decide) (fun _ _ _ _ _ => (g_nm 6 sc_law_odd_so.nd)) (fun _ _ _ _ _ => et_yes) (fun _ _ _ _ _ => (ee_callC (Cal.ok (ok_law_said T) (hr.room.mono (by decide))) rfl T.g_law_said T.f_law_said.kp T.b_law_said Ev.takes0 (ea_cons (ee_var 0) (ea_cons (ee_var 6) (ea_cons (ee_var 4) (ea_cons (ee_var 1) ea_nil)))) (al_cons (al_cons (al_cons (al_cons al_nil))))))) (ee_op mulL_ok (ee_lst (ea_cons (ee_lst (ea_cons ee_int ea_nil) (al_cons al_nil)) ea_nil) (al_cons al_nil)) ee_int) (nomark _))
    (es_one (s_ret ee_bl))
    es_nil)))
    (es_one (s_ret (ee_cmp (eqD_ok hr.room.units) (ee_callB (reprD_ok hr.room.units hr.gd) rfl T.z_repr (by decide +kernel) (ea_cons (ee_lc frzL_ok rfl sc_law_odd_so.nd (ei_range1 rfl T.z_range (ea_cons ee_int ea_nil)) (blkOk_by (N := ["_law_cells", "_law_word_here", "_law_kept", "_law_address", "_law_thing", "_law_bad", "_law_door"]) (sc := defScope s_law_odd_so) (own := [("_law_address", 3)]) (by first | decide +kernel | rfl)) rfl (by decide) (fun _ _ _ _ _ => (g_nm 3 sc_law_odd_so.nd)) (fun _ _ _ _ _ => et_yes) (fun _ _ _ _ _ => (ee_met (ee_var 0) T.cl_Cells T.m_Cells_cell (Cal.ok (ok_Cells_cell T) (hr.room.mono (by decide))) T.b_Cells_cell Ev.takes0 (ea_cons (ee_var 3) ea_nil) (al_cons al_nil)))) ea_nil)) (ee_var 2) (nomark _))))))))))))
theorem ok_law_laid (T : Txt w K mg C A fd) : FnOk P w K mg base (L2N.CX P w) 5 (A 23) (fd 23) ["_law_pool_here", "_law_cells", "_law_book"] (spOf K C 3 g_law_laid) :=
  fn_ev T.f_law_laid sc_law_laid fun cdv Ar outer s H E hr tk po =>
    (es_cons (s_for po rfl (ei_range1 rfl T.z_range (ea_cons ee_int ea_nil)) (g_nm 3 sc_law_laid.nd)
    (es_cons (s_set 4 sc_law_laid.nd (ee_ix (ee_lst (ea_cons (ee_callC (Cal.ok (ok_law_take T) (hr.mono (by decide))) rfl T.g_law_take T.f_law_take.kp T.b_law_take tk (ea_cons (ee_var 0) (ea_cons ee_int ea_nil)) (al_cons (al_cons al_nil))) (ea_cons (ee_callC (Cal.ok (ok_law_take T) (hr.mono (by decide))) rfl T.g_law_take T.f_law_take.kp T.b_law_take tk (ea_cons (ee_var 0) (ea_cons ee_int ea_nil)) (al_cons (al_cons al_nil))) (ea_cons ee_int (ea_cons ee_int ea_nil)))) (al_cons (al_cons (al_cons (al_cons al_nil))))) (ee_callC (Cal.ok (ok_law_take T) (hr.mono (by decide))) rfl T.g_law_take T.f_law_take.kp T.b_law_take tk (ea_cons (ee_var 0) (ea_cons ee_int ea_nil)) (al_cons (al_cons al_nil)))))
    (es_cons (s_putD hr.units (ee_ix (ee_lst (ea_cons (ee_callC (Cal.ok (ok_law_word T) (hr.mono (by decide))) rfl T.g_law_word T.f_law_word.kp T.b_law_word tk (ea_cons (ee_var 0) ea_nil) (al_cons al_nil)) (ea_cons (ee_tup (ea_cons ee_bl (ea_cons ee_int ea_nil)) (al_cons (al_cons al_nil))) ea_nil)) (al_cons (al_cons al_nil))) (ee_callTy intD_ok rfl T.z_int (by decide +kernel) (ea_cons (ee_cmp (eqD_ok hr.units) (ee_callC (Cal.ok (ok_law_take T) (hr.mono (by decide))) rfl T.g_law_take T.f_law_take.kp T.b_law_take tk (ea_cons (ee_var 0) (ea_cons ee_int ea_nil)) (al_cons (al_cons al_nil))) ee_int (nomark _)) ea_nil))) (ee_var 2) (ee_var 4))
    (es_one (s_if (et_cmp isNot_ok (ee_met (ee_var 1) T.cl_Cells T.m_Cells_lay (Cal.ok (ok_Cells_lay T) (hr.mono (by decide))) T.b_Cells_lay tk (ea_cons (ee_var 4) (ea_cons (ee_dix hr.units (ee_var 2) (ee_var 4)) ea_nil)) (al_cons (al_cons al_nil))) ee_non (nomark _))
    (es_one (s_ret ee_bl))
    es_nil)))))
    (es_one (s_ret ee_bl)))
theorem ok_law_same (T : Txt w K mg C A fd) : FnG P w K mg base (L2N.CX P w) 4 (A 24) (fd 24) ["_law_cells", "_law_book"] (spOf K C 2 g_law_same) :=
  fnG_ev T.f_law_same sc_law_same fun cdv Ar outer s H E hr tk po =>
    (es_cons (s_for po rfl (ei_seq (ee_op addD_ok (ee_callB (sortX_ok rfl) rfl T.z_sorted (by decide +kernel) (ea_cons (ee_var 1) ea_nil)) (ee_lst (ea_cons ee_int (ea_cons ee_int (ea_cons ee_int ea_nil))) (al_cons (al_cons (al_cons al_nil)))))) (g_nm 2 sc_law_same.nd)
    (es_one (s_if (et_cmp (neD_ok hr.room.units) (ee_callB (reprD_ok hr.room.units hr.gd) rfl T.z_repr (by decide +kernel) (ea_cons (ee_met (ee_var 0) T.cl_Cells T.m_Cells_cell (Cal.ok (ok_Cells_cell T) (hr.room.mono (by decide))) T.b_Cells_cell tk (ea_cons (ee_var 2) ea_nil) (al_cons al_nil)) ea_nil)) (ee_callB (reprD_ok hr.room.units hr.gd) rfl T.z_repr (by decide +kernel) (ea_cons (ee_mth F.plainAttrs_dict F.slot_dict_get F.type_dict_get (getDM_ok hr.room.units) (ee_var 1) (ea_cons (ee_var 2) (ea_cons (ee_tup (ea_cons ee_bl (ea_cons ee_int ea_nil)) (al_cons (al_cons al_nil))) ea_nil))) ea_nil)) (nomark _))
    (es_one (s_ret ee_bl))
    es_nil)))
    (es_one (s_ret (ee_cmp (eqD_ok hr.room.units) (ee_metD0 (ee_var 0) T.cl_Cells T.m_Cells_marked (Cal.ok (ok_Cells_marked T) (hr.room.mono (by decide))) T.bd_Cells_marked_2 tk) (ee_lc frzL_ok rfl sc_law_same.nd (ei_seq (ee_callB (sortX_ok rfl) rfl T.z_sorted (by decide +kernel) (ea_cons (ee_var 1) ea_nil))) (blkOk_by (N := ["_law_cells", "_law_book", "_law_address"]) (sc := defScope s_law_same) (own := [("_law_address", 2)]) (by first | decide +kernel | rfl)) rfl (by decide) (fun _ _ _ _ _ => (g_nm 2 sc_law_same.nd)) (fun _ _ _ _ _ => (et_if1 (et_val (ee_ix (ee_dix hr.room.units (ee_var 1) (ee_var 2)) ee_int)))) (fun _ _ _ _ _ => (ee_var 2))) (nomark _)))))
theorem ok_Cells_eq (T : Txt w K mg C A fd) : FnOk P w K mg base (L2N.CX P w) 1 (A 311) (fd 311) ["self", "other"] (spOf K C 2 g_Cells_eq) :=
  fn_ev T.f_Cells_eq sc_Cells_eq fun cdv Ar outer s H E hr tk po =>
    (es_one (s_ret (ee_and (ee_isiO (ee_var 1) rfl T.z_isinstance (pe_glob (v := .ref (C 6)) rfl T.k_Cells rfl) (.own _) (kq_Cells_h T) (kq_Cells_x T) (ko_Cells_h T)) (ee_one (ee_cmp (eqKD_ok hr.units) (ee_atr (ee_var 0) (isC_h T.cl_Cells T.na_Cells_own_cells)) (ee_atr (ee_var 1) (isC_h T.cl_Cells T.na_Cells_own_cells)) (nomark _))))))
theorem ok_Cells_init (T : Txt w K mg C A fd) : FnOk P w K mg base (L2N.CX P w) 1 (A 300) (fd 300) ["self"] (spOf K C 1 g_Cells_init) :=
  fn_ev T.f_Cells_init sc_Cells_init fun cdv Ar outer s H E hr tk po =>
    (es_one (s_putA ee_dct0M (ee_var 0) (isC_h T.cl_Cells T.na_Cells_own_cells)))
theorem ok_Cells_twin (T : Txt w K mg C A fd) : FnOk P w K mg base (L2N.CX P w) 3 (A 310) (fd 310) ["self"] (spOf K C 1 g_Cells_twin) :=
  fn_ev T.f_Cells_twin sc_Cells_twin fun cdv Ar outer s H E hr tk po =>
    (es_cons (s_set 1 sc_Cells_twin.nd (ee_make0 T.mk_Cells (ok_Cells_init T) (hr.mono (by decide)) rfl T.k_Cells T.b_Cells_init tk))
    (es_cons (s_putA (ee_dictM rfl T.z_dict (ea_cons (ee_atr (ee_var 0) (isC_h T.cl_Cells T.na_Cells_own_cells)) ea_nil)) (ee_var 1) (isC_h T.cl_Cells T.na_Cells_own_cells))
    (es_one (s_ret (ee_var 1)))))
theorem ok_law_emptied_so (T : Txt w K mg C A fd) : FnOk P w K mg base (L2N.CX P w) 6 (A 25) (fd 25) ["_law_word_here"] (spOf K C 1 g_law_emptied_so) :=
  fn_ev T.f_law_emptied_so sc_law_emptied_so fun cdv Ar outer s H E hr tk po =>
    (es_cons (s_set 1 sc_law_emptied_so.nd (ee_make0 T.mk_Cells (ok_Cells_init T) (hr.mono (by decide)) rfl T.k_Cells T.b_Cells_init tk))
    (es_cons (s_exp (ee_met (ee_var 1) T.cl_Cells T.m_Cells_lay (Cal.ok (ok_Cells_lay T) (hr.mono (by decide))) T.b_Cells_lay tk (ea_cons ee_int (ea_cons (ee_var 0) ea_nil)) (al_cons (al_cons al_nil))))
    (es_cons (s_exp (ee_met (ee_var 1) T.cl_Cells T.m_Cells_lay (Cal.ok (ok_Cells_lay T) (hr.mono (by decide))) T.b_Cells_lay tk (ea_cons ee_int (ea_cons (ee_tup (ea_cons ee_bl (ea_cons ee_int ea_nil)) (al_cons (al_cons al_nil))) ea_nil)) (al_cons (al_cons al_nil))))
    (es_cons (s_set 2 sc_law_emptied_so.nd (ee_callC (Cal.ok (ok_law_made T) (hr.mono (by decide))) rfl T.g_law_made T.f_law_made.kp T.b_law_made tk (ea_cons ee_int (ea_cons ee_int (ea_cons ee_int (ea_cons ee_str (ea_cons ee_int ea_nil))))) (al_cons (al_cons (al_cons (al_cons (al_cons al_nil)))))))
    (es_cons (s_exp (ee_met (ee_var 1) T.cl_Cells T.m_Cells_store (Cal.ok (ok_Cells_store T) (hr.mono (by decide))) T.b_Cells_store tk (ea_cons (ee_var 2) (ea_cons ee_int (ea_cons (ee_tup (ea_cons ee_bl (ea_cons ee_int ea_nil)) (al_cons (al_cons al_nil))) ea_nil))) (al_cons (al_cons (al_cons al_nil)))))
    (es_cons (s_exp (ee_met (ee_var 1) T.cl_Cells T.m_Cells_poke (Cal.ok (ok_Cells_poke T) (hr.mono (by decide))) T.b_Cells_poke tk (ea_cons (ee_var 2) (ea_cons ee_int (ea_cons ee_int ea_nil))) (al_cons (al_cons (al_cons al_nil)))))
    (es_cons (s_exp (ee_met (ee_var 1) T.cl_Cells T.m_Cells_poke (Cal.ok (ok_Cells_poke T) (hr.mono (by decide))) T.b_Cells_poke tk (ea_cons (ee_var 2) (ea_cons ee_int (ea_cons (ee_op powD_ok ee_int ee_int) ea_nil))) (al_cons (al_cons (al_cons al_nil)))))
    (es_one (s_ret (ee_and (ee_cmpS (eqO_ok T.m_Cells_eq.at_ T.m_Cells_eq.fn (Cal.ok (ok_Cells_eq T) (hr.mono (by decide))) T.b_Cells_eq hr.units) (ee_var 1) (ee_make0 T.mk_Cells (ok_Cells_init T) (hr.mono (by decide)) rfl T.k_Cells T.b_Cells_init tk) (nomark _)) (ee_and (ee_cmp (eqD_ok hr.units) (ee_metD0 (ee_var 1) T.cl_Cells T.m_Cells_marked (Cal.ok (ok_Cells_marked T) (hr.mono (by decide))) T.bd_Cells_marked_2 tk) (ee_lst ea_nil al_nil) (nomark _)) (ee_one (ee_cmpS (eqO_ok T.m_Cells_eq.at_ T.m_Cells_eq.fn (Cal.ok (ok_Cells_eq T) (hr.mono (by decide))) T.b_Cells_eq hr.units) (ee_met0 (ee_var 1) T.cl_Cells T.m_Cells_twin (Cal.ok (ok_Cells_twin T) (hr.mono (by decide))) T.b_Cells_twin tk) (ee_make0 T.mk_Cells (ok_Cells_init T) (hr.mono (by decide)) rfl T.k_Cells T.b_Cells_init tk) (nomark _))))))))))))))
theorem ok_law (T : Txt w K mg C A fd) : FnG P w K mg base (L2N.CX P w) 8 (A 26) (fd 26) ["_law_script"] (spOf K C 1 g_law) :=
  fnG_ev T.f_law sc_law fun cdv Ar outer s H E hr tk po =>
    (es_cons (s_for po rfl (ei_range1 rfl T.z_range (ea_cons (ee_callB (maxD2_ok rfl) rfl T.z_max (by decide +kernel) (ea_cons ee_int (ea_cons (ee_callB (minD2_ok rfl) rfl T.z_min (by decide +kernel) (ea_cons (ee_callB lenD_ok rfl T.z_len (by decide +kernel) (ea_cons (ee_var 0) ea_nil)) (ea_cons ee_int ea_nil))) ea_nil))) ea_nil)) (g_nm 1 sc_law.nd)
    (es_cons (s_set 2 sc_law.nd (ee_callC (Cal.ok (ok_law_pool T) (hr.room.mono (by decide))) rfl T.g_law_pool T.f_law_pool.kp T.b_law_pool tk (ea_cons (ee_var 0) (ea_cons (ee_var 1) ea_nil)) (al_cons (al_cons al_nil))))
    (es_cons (s_asg (ee_tup (ea_cons (ee_make0 T.mk_Cells (ok_Cells_init T) (hr.room.mono (by decide)) rfl T.k_Cells T.b_Cells_init tk) (ea_cons ee_dct0M ea_nil)) (al_cons (al_cons al_nil))) (g_tp rfl (gs_cons 3 sc_law.nd (gs_cons 4 sc_law.nd gs_nil))))
    (es_cons (s_if (PW.pt (et_or (et_cmpS (neO_ok T.m_Cells_eq.at_ T.m_Cells_eq.fn T.nq_Cells T.nb_Cells (CalI.ok (ok_Cells_eq T) (hr.room.mono (by decide))) T.b_Cells_eq hr.room.units) (ee_var 3) (ee_make0 T.mk_Cells (ok_Cells_init T) (hr.room.mono (by decide)) rfl T.k_Cells T.b_Cells_init tk) (nomark _)) (et_or (et_cmpS (eqOT_ok T.m_Cells_eq.at_ T.m_Cells_eq.fn (Cal.ok (ok_Cells_eq T) (hr.room.mono (by decide))) T.b_Cells_eq hr.room.units) (ee_var 3) ee_str (nomark _)) (et_or (et_not (et_val (ee_callC (Cal.ok (ok_law_laid T) (hr.room.mono (by decide))) rfl T.g_law_laid T.f_law_laid.kp T.b_law_laid tk (ea_cons (ee_var 2) (ea_cons (ee_var 3) (ea_cons (ee_var 4) ea_nil))) (al_cons (al_cons (al_cons al_nil)))))) (et_or1 (et_not (et_val (ee_callC (Cal.g (ok_law_same T) (hr.mono (by decide))) rfl T.g_law_same T.f_law_same.kp T.b_law_same tk (ea_cons (ee_var 3) (ea_cons (ee_var 4) ea_nil)) (al_cons (al_cons al_nil))))))))))
    (es_one (s_ret ee_bl))
    es_nil)
    (es_cons (s_set 5 sc_law.nd (ee_met0 (ee_var 3) T.cl_Cells T.m_Cells_twin (Cal.ok (ok_Cells_twin T) (hr.room.mono (by decide))) T.b_Cells_twin tk))
    (es_cons (s_if (PW.pt (et_or (et_cmpS (neO_ok T.m_Cells_eq.at_ T.m_Cells_eq.fn T.nq_Cells T.nb_Cells (CalI.ok (ok_Cells_eq T) (hr.room.mono (by decide))) T.b_Cells_eq hr.room.units) (ee_var 5) (ee_var 3) (nomark _)) (et_or (et_not (et_val (ee_callC (Cal.g (ok_law_odd_so T) (hr.mono (by decide))) rfl T.g_law_odd_so T.f_law_odd_so.kp T.b_law_odd_so tk (ea_cons (ee_var 3) (ea_cons (ee_callC (Cal.ok (ok_law_word T) (hr.room.mono (by decide))) rfl T.g_law_word T.f_law_word.kp T.b_law_word tk (ea_cons (ee_var 2) ea_nil) (al_cons al_nil)) ea_nil)) (al_cons (al_cons al_nil))))) (et_or1 (et_cmpS (neO_ok T.m_Cells_eq.at_ T.m_Cells_eq.fn T.nq_Cells T.nb_Cells (CalI.ok (ok_Cells_eq T) (hr.room.mono (by decide))) T.b_Cells_eq hr.room.units) (ee_var 5) (ee_var 3) (nomark _))))))
    (es_one (s_ret ee_bl))
    es_nil)
    (es_cons (s_set 6 sc_law.nd (ee_callC (Cal.ok (ok_law_take T) (hr.room.mono (by decide))) rfl T.g_law_take T.f_law_take.kp T.b_law_take tk (ea_cons (ee_var 2) (ea_cons ee_int ea_nil)) (al_cons (al_cons al_nil))))
    (es_cons (s_set 7 sc_law.nd (ee_op addD_ok (ee_op addD_ok (ee_var 6) ee_int) (ee_callC (Cal.ok (ok_law_take T) (hr.room.mono (by decide))) rfl T.g_law_take T.f_law_take.kp T.b_law_take tk (ea_cons (ee_var 2) (ea_cons (ee_ix (ee_lst (ea_cons ee_int (ea_cons (ee_op subD_ok ee_int (ee_var 6)) ea_nil)) (al_cons (al_cons al_nil))) (ee_callC (Cal.ok (ok_law_take T) (hr.room.mono (by decide))) rfl T.g_law_take T.f_law_take.kp T.b_law_take tk (ea_cons (ee_var 2) (ea_cons ee_int ea_nil)) (al_cons (al_cons al_nil)))) ea_nil)) (al_cons (al_cons al_nil)))))
    (es_cons (s_set 8 sc_law.nd (ee_dictM rfl T.z_dict (ea_cons (ee_var 4) ea_nil)))
    (es_cons (s_setLc 9 frzL_ok rfl sc_law.nd (sw_true rfl rfl rfl (by decide +kernel)) (ei_seq (ee_callB (sortX_ok rfl) rfl T.z_sorted (by decide +kernel) (ea_cons (ee_var 4) ea_nil))) (blkOk_by (N := ["_law_script", "_law_k", "_law_pool_here", "_law_cells", "_law_book", "_law_other", "_law_low", "_law_high", "_law_kept", "_law_due", "_law_address", "_law_held", "_law_gone"]) (sc := defScope s_law) (own := [("_law_address", 10)]) (by first | decide +kernel | rfl)) rfl (by decide) (fun _ _ _ _ _ => (g_nm 10 sc_law.nd)) (fun _ _ _ _ _ => (et_if1 (PW.pt (et_and (et_chain (ee_var 6) (ch_link leD_ok (ee_var 10) (ch_last ltD_ok (ee_var 7)))) (et_and1 (et_val (ee_ix (ee_dix hr.room.units (ee_var 4) (ee_var 10)) ee_int))))))) (fun _ _ _ _ _ => (ee_var 10)))
    (es_cons (s_set 11 sc_law.nd (ee_metD0 (ee_var 3) T.cl_Cells T.m_Cells_marked (Cal.ok (ok_Cells_marked T) (hr.room.mono (by decide))) T.bd_Cells_marked_2 tk))
    (es_cons (s_if (PW.pt (et_or (et_cmp (neD_ok hr.room.units) (ee_metD (ee_var 3) T.cl_Cells T.m_Cells_marked (Cal.ok (ok_Cells_marked T) (hr.room.mono (by decide))) T.bd_Cells_marked_0 tk (ea_cons (ee_var 6) (ea_cons (ee_var 7) ea_nil)) (al_cons (al_cons al_nil))) (ee_var 9) (nomark _)) (et_or1 (et_cmp isNot_ok (ee_met (ee_var 3) T.cl_Cells T.m_Cells_clear (Cal.ok (ok_Cells_clear T) (hr.room.mono (by decide))) T.b_Cells_clear tk (ea_cons (ee_var 6) (ea_cons (ee_var 7) ea_nil)) (al_cons (al_cons al_nil))) ee_non (nomark _)))))
    (es_one (s_ret ee_bl))
    es_nil)
    (es_cons (s_exp (ee_mth F.plainAttrs_list F.slot_list_append F.type_list_append appendL_ok (ee_metD0 (ee_var 3) T.cl_Cells T.m_Cells_marked (Cal.ok (ok_Cells_marked T) (hr.room.mono (by decide))) T.bd_Cells_marked_2 tk) (ea_cons ee_non ea_nil)))
    (es_cons (s_if (et_cmp (neD_ok hr.room.units) (ee_var 11) (ee_lc frzL_ok rfl sc_law.nd (ei_seq (ee_callB (sortX_ok rfl) rfl T.z_sorted (by decide +kernel) (ea_cons (ee_var 8) ea_nil))) (blkOk_by (N := ["_law_script", "_law_k", "_law_pool_here", "_law_cells", "_law_book", "_law_other", "_law_low", "_law_high", "_law_kept", "_law_due", "_law_address", "_law_held", "_law_gone"]) (sc := defScope s_law) (own := [("_law_address", 10)]) (by first | decide +kernel | rfl)) rfl (by decide) (fun _ _ _ _ _ => (g_nm 10 sc_law.nd)) (fun _ _ _ _ _ => (et_if1 (et_val (ee_ix (ee_dix hr.room.units (ee_var 8) (ee_var 10)) ee_int)))) (fun _ _ _ _ _ => (ee_var 10))) (nomark _))
    (es_one (s_ret ee_bl))
    es_nil)
    (es_cons (s_set 4 sc_law.nd (ee_callTy (dictL_ok rfl) rfl T.z_dict (by decide +kernel) (ea_cons (ee_lock (tgV 4) (ee_lcK 1000 frzL_ok rfl sc_law.nd (ei_keysK (ee_var 4)) (blkOk_by (N := ["_law_script", "_law_k", "_law_pool_here", "_law_cells", "_law_book", "_law_other", "_law_low", "_law_high", "_law_kept", "_law_due", "_law_address", "_law_held", "_law_gone"]) (sc := defScope s_law) (own := [("_law_address", 10)]) (by first | decide +kernel | rfl)) rfl (by decide) (fun _ _ _ _ _ => (g_nm 10 sc_law.nd)) (fun _ _ _ _ _ => (et_if1 (et_not (et_chain (ee_var 6) (ch_link leD_ok (ee_var 10) (ch_last ltD_ok (ee_var 7))))))) (fun _ _ _ _ _ => (ee_tup (ea_cons (ee_var 10) (ea_cons (ee_dixR hr.room.units (ee_var 4) (ee_var 10)) ea_nil)) (al_cons (al_cons al_nil)))))) ea_nil)))
    (es_cons (s_if (PW.pt (et_or (et_not (et_val (ee_callC (Cal.g (ok_law_same T) (hr.mono (by decide))) rfl T.g_law_same T.f_law_same.kp T.b_law_same tk (ea_cons (ee_var 3) (ea_cons (ee_var 4) ea_nil)) (al_cons (al_cons al_nil))))) (et_or1 (et_not (et_val (ee_callC (Cal.g (ok_law_same T) (hr.mono (by decide))) rfl T.g_law_same T.f_law_same.kp T.b_law_same tk (ea_cons (ee_var 5) (ea_cons (ee_var 8) ea_nil)) (al_cons (al_cons al_nil))))))))
    (es_one (s_ret ee_bl))
    es_nil)
    (es_cons (s_if (et_cmp (neD_ok hr.room.units) (ee_lock (tgV 8) (ee_lcK 1000 frzL_ok rfl sc_law.nd (ei_keysK (ee_var 8)) (blkOk_by (N := ["_law_script", "_law_k", "_law_pool_here", "_law_cells", "_law_book", "_law_other", "_law_low", "_law_high", "_law_kept", "_law_due", "_law_address", "_law_held", "_law_gone"]) (sc := defScope s_law) (own := [("_law_address", 10)]) (by first | decide +kernel | rfl)) rfl (by decide) (fun _ _ _ _ _ => (g_nm 10 sc_law.nd)) (fun _ _ _ _ _ => (et_if1 (et_cmp (neD_ok hr.room.units) (ee_met (ee_var 3) T.cl_Cells T.m_Cells_cell (Cal.ok (ok_Cells_cell T) (hr.room.mono (by decide))) T.b_Cells_cell Ev.takes0 (ea_cons (ee_var 10) ea_nil) (al_cons al_nil)) (ee_mth F.plainAttrs_dict F.slot_dict_get F.type_dict_get (getDM_ok hr.room.units) (ee_var 4) (ea_cons (ee_var 10) (ea_cons (ee_tup (ea_cons ee_bl (ea_cons ee_int ea_nil)) (al_cons (al_cons al_nil))) ea_nil))) (nomark _)))) (fun _ _ _ _ _ => (ee_var 10)))) (ee_lst ea_nil al_nil) (nomark _))
    (es_one (s_ret ee_bl))
    es_nil)
    (es_cons (s_lock (tgV 8) (s_setLcK 12 1000 frzL_ok rfl sc_law.nd (sw_true rfl rfl rfl (by decide +kernel)) (ei_keysK (ee_var 8)) (blkOk_by (N := ["_law_script", "_law_k", "_law_pool_here", "_law_cells", "_law_book", "_law_other", "_law_low", "_law_high", "_law_kept", "_law_due", "_law_address", "_law_held", "_law_gone"]) (sc := defScope s_law) (own := [("_law_address", 10)]) (by first | decide +kernel | rfl)) rfl (by decide) (fun _ _ _ _ _ => (g_nm 10 sc_law.nd)) (fun _ _ _ _ _ => (et_if1 (PW.pt (et_and (et_cmp (dninR_ok hr.room.units) (ee_var 10) (ee_var 4) (by rfl)) (et_and1 (et_cmp (neD_ok hr.room.units) (ee_dixR hr.room.units (ee_var 8) (ee_var 10)) (ee_tup (ea_cons ee_bl (ea_cons ee_int ea_nil)) (al_cons (al_cons al_nil))) (nomark _))))))) (fun _ _ _ _ _ => (ee_var 10))))
    (es_cons (s_if (et_cmp (neD_ok hr.room.units) (ee_cmpS (eqO_ok T.m_Cells_eq.at_ T.m_Cells_eq.fn (Cal.ok (ok_Cells_eq T) (hr.room.mono (by decide))) T.b_Cells_eq hr.room.units) (ee_var 3) (ee_var 5) (nomark _)) (ee_cmp (eqD_ok hr.room.units) (ee_var 12) (ee_lst ea_nil al_nil) (nomark _)) (nomark _))
    (es_one (s_ret ee_bl))
    es_nil)
    (es_cons (s_exp (ee_met (ee_var 5) T.cl_Cells T.m_Cells_lay (Cal.ok (ok_Cells_lay T) (hr.room.mono (by decide))) T.b_Cells_lay tk (ea_cons ee_int (ea_cons (ee_tup (ea_cons ee_bl (ea_cons ee_int ea_nil)) (al_cons (al_cons al_nil))) ea_nil)) (al_cons (al_cons al_nil))))
    (es_cons (s_exp (ee_met (ee_var 5) T.cl_Cells T.m_Cells_poke (Cal.ok (ok_Cells_poke T) (hr.room.mono (by decide))) T.b_Cells_poke tk (ea_cons (ee_callC (Cal.ok (ok_law_made T) (hr.room.mono (by decide))) rfl T.g_law_made T.f_law_made.kp T.b_law_made tk (ea_cons ee_int (ea_cons ee_int (ea_cons ee_int (ea_cons ee_str (ea_cons ee_int ea_nil))))) (al_cons (al_cons (al_cons (al_cons (al_cons al_nil)))))) (ea_cons ee_int (ea_cons ee_int ea_nil))) (al_cons (al_cons (al_cons al_nil)))))
    (es_cons (s_exp (ee_met (ee_var 5) T.cl_Cells T.m_Cells_store (Cal.ok (ok_Cells_store T) (hr.room.mono (by decide))) T.b_Cells_store tk (ea_cons (ee_callC (Cal.ok (ok_law_made T) (hr.room.mono (by decide))) rfl T.g_law_made T.f_law_made.kp T.b_law_made tk (ea_cons ee_int (ea_cons ee_int (ea_cons ee_int (ea_cons ee_str (ea_cons ee_int ea_nil))))) (al_cons (al_cons (al_cons (al_cons (al_cons al_nil)))))) (ea_cons ee_int (ea_cons (ee_tup (ea_cons ee_bl (ea_cons ee_int ea_nil)) (al_cons (al_cons al_nil))) ea_nil))) (al_cons (al_cons (al_cons al_nil)))))
    (es_cons (s_exp (ee_met (ee_var 5) T.cl_Cells T.m_Cells_clear (Cal.ok (ok_Cells_clear T) (hr.room.mono (by decide))) T.b_Cells_clear tk (ea_cons ee_int (ea_cons ee_int ea_nil)) (al_cons (al_cons al_nil))))
    (es_one (s_if (PW.pt (et_or (et_not (et_val (ee_callC (Cal.g (ok_law_same T) (hr.mono (by decide))) rfl T.g_law_same T.f_law_same.kp T.b_law_same tk (ea_cons (ee_var 3) (ea_cons (ee_var 4) ea_nil)) (al_cons (al_cons al_nil))))) (et_or1 (et_not (et_val (ee_callC (Cal.ok (ok_law_emptied_so T) (hr.room.mono (by decide))) rfl T.g_law_emptied_so T.f_law_emptied_so.kp T.b_law_emptied_so tk (ea_cons (ee_callC (Cal.ok (ok_law_word T) (hr.room.mono (by decide))) rfl T.g_law_word T.f_law_word.kp T.b_law_word tk (ea_cons (ee_var 2) ea_nil) (al_cons al_nil)) ea_nil) (al_cons al_nil)))))))
    (es_one (s_ret ee_bl))
    es_nil)))))))))))))))))))))))))
    (es_one (s_ret ee_bl)))
end
theorem all_mk {l : PySem.W.OpenLaw} {w : World} {K : PySem.W.Frag} {h : Heap} {mg : Str → Option Value} {fa f0 f1 f2 f3 f4 f5 f6 f7 f8 f9 f10 f11 f12 f13 f14 f15 f17 f18 f19 f20 f302 f303 f309 f308 f301 f307 f306 f305 f304 f21 f22 f23 f24 f311 f300 f310 f25 f26 g5 c0 c1 c2 c3 c4 c5 c6 : Addr} (X : K.In h) (G : h.Ns mainGlobals mg) (hfa : mg "law" = some (.ref fa))
    {od0 an0 : Option Addr} {sl0 : Array (Option Value)} {oc0 kV0 dc0 pm0 cd0 ct0 : Value}
    {od1 an1 : Option Addr} {sl1 : Array (Option Value)} {oc1 kV1 dc1 pm1 cd1 ct1 : Value}
    {od2 an2 : Option Addr} {sl2 : Array (Option Value)} {oc2 kV2 dc2 pm2 cd2 ct2 : Value}
    {od3 an3 : Option Addr} {sl3 : Array (Option Value)} {oc3 kV3 dc3 pm3 cd3 ct3 : Value}
    {od4 an4 : Option Addr} {sl4 : Array (Option Value)} {oc4 kV4 dc4 pm4 cd4 ct4 : Value}
    {od5 an5 : Option Addr} {sl5 : Array (Option Value)} {oc5 kV5 dc5 pm5 cd5 ct5 : Value}
    {od6 an6 : Option Addr} {sl6 : Array (Option Value)} {oc6 kV6 dc6 pm6 cd6 ct6 : Value}
    {od7 an7 : Option Addr} {sl7 : Array (Option Value)} {oc7 kV7 dc7 pm7 cd7 ct7 : Value}
    {od8 an8 : Option Addr} {sl8 : Array (Option Value)} {oc8 kV8 dc8 pm8 cd8 ct8 : Value}
    {od9 an9 : Option Addr} {sl9 : Array (Option Value)} {oc9 kV9 dc9 pm9 cd9 ct9 : Value}
    {od10 an10 : Option Addr} {sl10 : Array (Option Value)} {oc10 kV10 dc10 pm10 cd10 ct10 : Value}
    {od11 an11 : Option Addr} {sl11 : Array (Option Value)} {oc11  dc11 pm11 cd11 ct11 : Value}
    {kd11 : Addr}
    {od12 an12 : Option Addr} {sl12 : Array (Option Value)} {oc12 kV12 dc12 pm12 cd12 ct12 : Value}
    {od13 an13 : Option Addr} {sl13 : Array (Option Value)} {oc13 kV13 dc13 pm13 cd13 ct13 : Value}
    {od14 an14 : Option Addr} {sl14 : Array (Option Value)} {oc14 kV14 dc14 pm14 cd14 ct14 : Value}
    {od15 an15 : Option Addr} {sl15 : Array (Option Value)} {oc15 kV15 dc15 pm15 cd15 ct15 : Value}
    {od17 an17 : Option Addr} {sl17 : Array (Option Value)} {oc17 kV17 dc17 pm17 cd17 ct17 : Value}
    {od18 an18 : Option Addr} {sl18 : Array (Option Value)} {oc18 kV18 dc18 pm18 cd18 ct18 : Value}
    {od19 an19 : Option Addr} {sl19 : Array (Option Value)} {oc19 kV19 dc19 pm19 cd19 ct19 : Value}
    {od20 an20 : Option Addr} {sl20 : Array (Option Value)} {oc20 kV20 dc20 pm20 cd20 ct20 : Value}
    {od302 an302 : Option Addr} {sl302 : Array (Option Value)} {oc302 kV302 dc302 pm302 cd302 ct302 : Value}
    {od303 an303 : Option Addr} {sl303 : Array (Option Value)} {oc303 kV303 dc303 pm303 cd303 ct303 : Value}
    {od309 an309 : Option Addr} {sl309 : Array (Option Value)} {oc309 kV309 dc309 pm309 cd309 ct309 : Value}
    {dd309 : Addr} {dn309 : Nat} {dq309 : Option Addr} {dl309 : Array (Option Value)} {dt309_0 dt309_1 : Tok}
    {od308 an308 : Option Addr} {sl308 : Array (Option Value)} {oc308 kV308 dc308 pm308 cd308 ct308 : Value}
    {od301 an301 : Option Addr} {sl301 : Array (Option Value)} {oc301 kV301 dc301 pm301 cd301 ct301 : Value}
    {od307 an307 : Option Addr} {sl307 : Array (Option Value)} {oc307 kV307 dc307 pm307 cd307 ct307 : Value}
    {od306 an306 : Option Addr} {sl306 : Array (Option Value)} {oc306 kV306 dc306 pm306 cd306 ct306 : Value}
    {od305 an305 : Option Addr} {sl305 : Array (Option Value)} {oc305 kV305 dc305 pm305 cd305 ct305 : Value}
    {od304 an304 : Option Addr} {sl304 : Array (Option Value)} {oc304 kV304 dc304 pm304 cd304 ct304 : Value}
    {od21 an21 : Option Addr} {sl21 : Array (Option Value)} {oc21 kV21 dc21 pm21 cd21 ct21 : Value}
    {od22 an22 : Option Addr} {sl22 : Array (Option Value)} {oc22 kV22 dc22 pm22 cd22 ct22 : Value}
    {od23 an23 : Option Addr} {sl23 : Array (Option Value)} {oc23 kV23 dc23 pm23 cd23 ct23 : Value}
    {od24 an24 : Option Addr} {sl24 : Array (Option Value)} {oc24 kV24 dc24 pm24 cd24 ct24 : Value}
    {od311 an311 : Option Addr} {sl311 : Array (Option Value)} {oc311 kV311 dc311 pm311 cd311 ct311 : Value}
    {od300 an300 : Option Addr} {sl300 : Array (Option Value)} {oc300 kV300 dc300 pm300 cd300 ct300 : Value}
    {od310 an310 : Option Addr} {sl310 : Array (Option Value)} {oc310 kV310 dc310 pm310 cd310 ct310 : Value}
    {od25 an25 : Option Addr} {sl25 : Array (Option Value)} {oc25 kV25 dc25 pm25 cd25 ct25 : Value}
    {od26 an26 : Option Addr} {sl26 : Array (Option Value)} {oc26 kV26 dc26 pm26 cd26 ct26 : Value}
    {t_CELLS : Tok}
    {t_MOST_COUNT : Tok}
    {t_MOST_STEP : Tok}
    {t_RIGHTS : Tok}
    {t_WORDS : Tok}
    {t_CELL_GROUP : Tok}
    {d_NOTHING : Addr} {n_NOTHING : Nat} {sl_NOTHING : Array (Option Value)} {t1_NOTHING : Tok}
    {t_LEAST_OFFSET : Tok}
    {t_MOST_OFFSET : Tok}
    {t_POKED : Tok}
    {nm5 q5 : Str} {N5 : Addr} {bs5 : List Value} {sn5 : List Str} {sub5 : List Value} {ab5 : Bool} {col5 : Option Bool} {dd5 : Option Addr} {m05 m15 m25 m35 m55 : Option Value}
    {iod5 ian5 : Option Addr} {isl5 : Array (Option Value)} {ioc5 ikV5 idc5 ipm5 icd5 ict5 : Value}
    (gc_Cells : PySem.W.nsIn K mainGlobals "Cells" = some (some (.ref c6)))
    (a0 : PySem.W.nsIn K mainGlobals "is_whole" = some (some (.ref f0)))
    (l0 : K.lookup f0 = some ⟨oc0, od0, .func (PySem.W.fnOf "is_whole" "is_whole" (defArgs s_is_whole) (defBody s_is_whole) (defScope s_is_whole) .none kV0 dc0 pm0 an0 cd0 ct0), sl0⟩)
    (o0 : PySem.W.codeIn K cd0 "is_whole" = true)
    (p0 : PySem.W.keepIn K (.ref f0) = true)
    (a1 : PySem.W.nsIn K mainGlobals "look_at_bounds" = some (some (.ref f1)))
    (l1 : K.lookup f1 = some ⟨oc1, od1, .func (PySem.W.fnOf "look_at_bounds" "look_at_bounds" (defArgs s_look_at_bounds) (defBody s_look_at_bounds) (defScope s_look_at_bounds) .none kV1 dc1 pm1 an1 cd1 ct1), sl1⟩)
    (o1 : PySem.W.codeIn K cd1 "look_at_bounds" = true)
    (p1 : PySem.W.keepIn K (.ref f1) = true)
    (a2 : PySem.W.nsIn K mainGlobals "from_bits" = some (some (.ref f2)))
    (l2 : K.lookup f2 = some ⟨oc2, od2, .func (PySem.W.fnOf "from_bits" "from_bits" (defArgs s_from_bits) (defBody s_from_bits) (defScope s_from_bits) .none kV2 dc2 pm2 an2 cd2 ct2), sl2⟩)
    (o2 : PySem.W.codeIn K cd2 "from_bits" = true)
    (p2 : PySem.W.keepIn K (.ref f2) = true)
    (a3 : PySem.W.nsIn K mainGlobals "is_word" = some (some (.ref f3)))
    (l3 : K.lookup f3 = some ⟨oc3, od3, .func (PySem.W.fnOf "is_word" "is_word" (defArgs s_is_word) (defBody s_is_word) (defScope s_is_word) .none kV3 dc3 pm3 an3 cd3 ct3), sl3⟩)
    (o3 : PySem.W.codeIn K cd3 "is_word" = true)
    (p3 : PySem.W.keepIn K (.ref f3) = true)
    (a4 : PySem.W.nsIn K mainGlobals "are_lawful" = some (some (.ref f4)))
    (l4 : K.lookup f4 = some ⟨oc4, od4, .func (PySem.W.fnOf "are_lawful" "are_lawful" (defArgs s_are_lawful) (defBody s_are_lawful) (defScope s_are_lawful) .none kV4 dc4 pm4 an4 cd4 ct4), sl4⟩)
    (o4 : PySem.W.codeIn K cd4 "are_lawful" = true)
    (p4 : PySem.W.keepIn K (.ref f4) = true)
    (a5 : PySem.W.nsIn K mainGlobals "rights_in" = some (some (.ref f5)))
    (l5 : K.lookup f5 = some ⟨oc5, od5, .func (PySem.W.fnOf "rights_in" "rights_in" (defArgs s_rights_in) (defBody s_rights_in) (defScope s_rights_in) .none kV5 dc5 pm5 an5 cd5 ct5), sl5⟩)
    (o5 : PySem.W.codeIn K cd5 "rights_in" = true)
    (p5 : PySem.W.keepIn K (.ref f5) = true)
    (a6 : PySem.W.nsIn K mainGlobals "fields_of" = some (some (.ref f6)))
    (l6 : K.lookup f6 = some ⟨oc6, od6, .func (PySem.W.fnOf "fields_of" "fields_of" (defArgs s_fields_of) (defBody s_fields_of) (defScope s_fields_of) .none kV6 dc6 pm6 an6 cd6 ct6), sl6⟩)
    (o6 : PySem.W.codeIn K cd6 "fields_of" = true)
    (p6 : PySem.W.keepIn K (.ref f6) = true)
    (a7 : PySem.W.nsIn K mainGlobals "is_lawful" = some (some (.ref f7)))
    (l7 : K.lookup f7 = some ⟨oc7, od7, .func (PySem.W.fnOf "is_lawful" "is_lawful" (defArgs s_is_lawful) (defBody s_is_lawful) (defScope s_is_lawful) .none kV7 dc7 pm7 an7 cd7 ct7), sl7⟩)
    (o7 : PySem.W.codeIn K cd7 "is_lawful" = true)
    (p7 : PySem.W.keepIn K (.ref f7) = true)
    (a8 : PySem.W.nsIn K mainGlobals "bare" = some (some (.ref f8)))
    (l8 : K.lookup f8 = some ⟨oc8, od8, .func (PySem.W.fnOf "bare" "bare" (defArgs s_bare) (defBody s_bare) (defScope s_bare) .none kV8 dc8 pm8 an8 cd8 ct8), sl8⟩)
    (o8 : PySem.W.codeIn K cd8 "bare" = true)
    (p8 : PySem.W.keepIn K (.ref f8) = true)
    (a9 : PySem.W.nsIn K mainGlobals "look_at_offset" = some (some (.ref f9)))
    (l9 : K.lookup f9 = some ⟨oc9, od9, .func (PySem.W.fnOf "look_at_offset" "look_at_offset" (defArgs s_look_at_offset) (defBody s_look_at_offset) (defScope s_look_at_offset) .none kV9 dc9 pm9 an9 cd9 ct9), sl9⟩)
    (o9 : PySem.W.codeIn K cd9 "look_at_offset" = true)
    (p9 : PySem.W.keepIn K (.ref f9) = true)
    (a10 : PySem.W.nsIn K mainGlobals "is_address" = some (some (.ref f10)))
    (l10 : K.lookup f10 = some ⟨oc10, od10, .func (PySem.W.fnOf "is_address" "is_address" (defArgs s_is_address) (defBody s_is_address) (defScope s_is_address) .none kV10 dc10 pm10 an10 cd10 ct10), sl10⟩)
    (o10 : PySem.W.codeIn K cd10 "is_address" = true)
    (p10 : PySem.W.keepIn K (.ref f10) = true)
    (a11 : PySem.W.nsIn K mainGlobals "address_by" = some (some (.ref f11)))
    (l11 : K.lookup f11 = some ⟨oc11, od11, .func (PySem.W.fnOf "address_by" "address_by" (defArgs s_address_by) (defBody s_address_by) (defScope s_address_by) .none (.ref kd11) dc11 pm11 an11 cd11 ct11), sl11⟩)
    (kw11_sealed : PySem.W.nsIn K kd11 "sealed" = some (some (.bool false)))
    (o11 : PySem.W.codeIn K cd11 "address_by" = true)
    (p11 : PySem.W.keepIn K (.ref f11) = true)
    (a12 : PySem.W.nsIn K mainGlobals "look_at_stored" = some (some (.ref f12)))
    (l12 : K.lookup f12 = some ⟨oc12, od12, .func (PySem.W.fnOf "look_at_stored" "look_at_stored" (defArgs s_look_at_stored) (defBody s_look_at_stored) (defScope s_look_at_stored) .none kV12 dc12 pm12 an12 cd12 ct12), sl12⟩)
    (o12 : PySem.W.codeIn K cd12 "look_at_stored" = true)
    (p12 : PySem.W.keepIn K (.ref f12) = true)
    (a13 : PySem.W.nsIn K mainGlobals "_law_pool" = some (some (.ref f13)))
    (l13 : K.lookup f13 = some ⟨oc13, od13, .func (PySem.W.fnOf "_law_pool" "_law_pool" (defArgs s_law_pool) (defBody s_law_pool) (defScope s_law_pool) .none kV13 dc13 pm13 an13 cd13 ct13), sl13⟩)
    (o13 : PySem.W.codeIn K cd13 "_law_pool" = true)
    (p13 : PySem.W.keepIn K (.ref f13) = true)
    (a14 : PySem.W.nsIn K mainGlobals "_law_take" = some (some (.ref f14)))
    (l14 : K.lookup f14 = some ⟨oc14, od14, .func (PySem.W.fnOf "_law_take" "_law_take" (defArgs s_law_take) (defBody s_law_take) (defScope s_law_take) .none kV14 dc14 pm14 an14 cd14 ct14), sl14⟩)
    (o14 : PySem.W.codeIn K cd14 "_law_take" = true)
    (p14 : PySem.W.keepIn K (.ref f14) = true)
    (a15 : PySem.W.nsIn K mainGlobals "_law_least" = some (some (.ref f15)))
    (l15 : K.lookup f15 = some ⟨oc15, od15, .func (PySem.W.fnOf "_law_least" "_law_least" (defArgs s_law_least) (defBody s_law_least) (defScope s_law_least) .none kV15 dc15 pm15 an15 cd15 ct15), sl15⟩)
    (o15 : PySem.W.codeIn K cd15 "_law_least" = true)
    (p15 : PySem.W.keepIn K (.ref f15) = true)
    (a17 : PySem.W.nsIn K mainGlobals "_law_made" = some (some (.ref f17)))
    (l17 : K.lookup f17 = some ⟨oc17, od17, .func (PySem.W.fnOf "_law_made" "_law_made" (defArgs s_law_made) (defBody s_law_made) (defScope s_law_made) .none kV17 dc17 pm17 an17 cd17 ct17), sl17⟩)
    (o17 : PySem.W.codeIn K cd17 "_law_made" = true)
    (p17 : PySem.W.keepIn K (.ref f17) = true)
    (a18 : PySem.W.nsIn K mainGlobals "_law_bounds" = some (some (.ref f18)))
    (l18 : K.lookup f18 = some ⟨oc18, od18, .func (PySem.W.fnOf "_law_bounds" "_law_bounds" (defArgs s_law_bounds) (defBody s_law_bounds) (defScope s_law_bounds) .none kV18 dc18 pm18 an18 cd18 ct18), sl18⟩)
    (o18 : PySem.W.codeIn K cd18 "_law_bounds" = true)
    (p18 : PySem.W.keepIn K (.ref f18) = true)
    (a19 : PySem.W.nsIn K mainGlobals "_law_rights" = some (some (.ref f19)))
    (l19 : K.lookup f19 = some ⟨oc19, od19, .func (PySem.W.fnOf "_law_rights" "_law_rights" (defArgs s_law_rights) (defBody s_law_rights) (defScope s_law_rights) .none kV19 dc19 pm19 an19 cd19 ct19), sl19⟩)
    (o19 : PySem.W.codeIn K cd19 "_law_rights" = true)
    (p19 : PySem.W.keepIn K (.ref f19) = true)
    (a20 : PySem.W.nsIn K mainGlobals "_law_word" = some (some (.ref f20)))
    (l20 : K.lookup f20 = some ⟨oc20, od20, .func (PySem.W.fnOf "_law_word" "_law_word" (defArgs s_law_word) (defBody s_law_word) (defScope s_law_word) .none kV20 dc20 pm20 an20 cd20 ct20), sl20⟩)
    (o20 : PySem.W.codeIn K cd20 "_law_word" = true)
    (p20 : PySem.W.keepIn K (.ref f20) = true)
    (a302 : PySem.W.findIn K (.ref c6) "put" = some (some (.ref f302)))
    (fn302 : PySem.W.isFn K (.ref f302) = true)
    (l302 : K.lookup f302 = some ⟨oc302, od302, .func (PySem.W.fnOf "put" "Cells.put" (defArgs s_Cells_put) (defBody s_Cells_put) (defScope s_Cells_put) .none kV302 dc302 pm302 an302 cd302 ct302), sl302⟩)
    (o302 : PySem.W.codeIn K cd302 "Cells.put" = true)
    (p302 : PySem.W.keepIn K (.ref f302) = true)
    (a303 : PySem.W.findIn K (.ref c6) "lay" = some (some (.ref f303)))
    (fn303 : PySem.W.isFn K (.ref f303) = true)
    (l303 : K.lookup f303 = some ⟨oc303, od303, .func (PySem.W.fnOf "lay" "Cells.lay" (defArgs s_Cells_lay) (defBody s_Cells_lay) (defScope s_Cells_lay) .none kV303 dc303 pm303 an303 cd303 ct303), sl303⟩)
    (o303 : PySem.W.codeIn K cd303 "Cells.lay" = true)
    (p303 : PySem.W.keepIn K (.ref f303) = true)
    (a309 : PySem.W.findIn K (.ref c6) "marked" = some (some (.ref f309)))
    (fn309 : PySem.W.isFn K (.ref f309) = true)
    (l309 : K.lookup f309 = some ⟨oc309, od309, .func (PySem.W.fnOf "marked" "Cells.marked" (defArgs s_Cells_marked) (defBody s_Cells_marked) (defScope s_Cells_marked) (.ref dd309) kV309 dc309 pm309 an309 cd309 ct309), sl309⟩)
    (dl309_ : K.lookup dd309 = some ⟨.type "tuple", dq309, .seq #[.int 0 dt309_0, .int 4096 dt309_1] dn309, dl309⟩)
    (o309 : PySem.W.codeIn K cd309 "Cells.marked" = true)
    (p309 : PySem.W.keepIn K (.ref f309) = true)
    (a308 : PySem.W.findIn K (.ref c6) "clear" = some (some (.ref f308)))
    (fn308 : PySem.W.isFn K (.ref f308) = true)
    (l308 : K.lookup f308 = some ⟨oc308, od308, .func (PySem.W.fnOf "clear" "Cells.clear" (defArgs s_Cells_clear) (defBody s_Cells_clear) (defScope s_Cells_clear) .none kV308 dc308 pm308 an308 cd308 ct308), sl308⟩)
    (o308 : PySem.W.codeIn K cd308 "Cells.clear" = true)
    (p308 : PySem.W.keepIn K (.ref f308) = true)
    (a301 : PySem.W.findIn K (.ref c6) "cell" = some (some (.ref f301)))
    (fn301 : PySem.W.isFn K (.ref f301) = true)
    (l301 : K.lookup f301 = some ⟨oc301, od301, .func (PySem.W.fnOf "cell" "Cells.cell" (defArgs s_Cells_cell) (defBody s_Cells_cell) (defScope s_Cells_cell) .none kV301 dc301 pm301 an301 cd301 ct301), sl301⟩)
    (o301 : PySem.W.codeIn K cd301 "Cells.cell" = true)
    (p301 : PySem.W.keepIn K (.ref f301) = true)
    (a307 : PySem.W.findIn K (.ref c6) "put_lowest" = some (some (.ref f307)))
    (fn307 : PySem.W.isFn K (.ref f307) = true)
    (l307 : K.lookup f307 = some ⟨oc307, od307, .func (PySem.W.fnOf "put_lowest" "Cells.put_lowest" (defArgs s_Cells_put_lowest) (defBody s_Cells_put_lowest) (defScope s_Cells_put_lowest) .none kV307 dc307 pm307 an307 cd307 ct307), sl307⟩)
    (o307 : PySem.W.codeIn K cd307 "Cells.put_lowest" = true)
    (p307 : PySem.W.keepIn K (.ref f307) = true)
    (a306 : PySem.W.findIn K (.ref c6) "poke" = some (some (.ref f306)))
    (fn306 : PySem.W.isFn K (.ref f306) = true)
    (l306 : K.lookup f306 = some ⟨oc306, od306, .func (PySem.W.fnOf "poke" "Cells.poke" (defArgs s_Cells_poke) (defBody s_Cells_poke) (defScope s_Cells_poke) .none kV306 dc306 pm306 an306 cd306 ct306), sl306⟩)
    (o306 : PySem.W.codeIn K cd306 "Cells.poke" = true)
    (p306 : PySem.W.keepIn K (.ref f306) = true)
    (a305 : PySem.W.findIn K (.ref c6) "store" = some (some (.ref f305)))
    (fn305 : PySem.W.isFn K (.ref f305) = true)
    (l305 : K.lookup f305 = some ⟨oc305, od305, .func (PySem.W.fnOf "store" "Cells.store" (defArgs s_Cells_store) (defBody s_Cells_store) (defScope s_Cells_store) .none kV305 dc305 pm305 an305 cd305 ct305), sl305⟩)
    (o305 : PySem.W.codeIn K cd305 "Cells.store" = true)
    (p305 : PySem.W.keepIn K (.ref f305) = true)
    (a304 : PySem.W.findIn K (.ref c6) "load" = some (some (.ref f304)))
    (fn304 : PySem.W.isFn K (.ref f304) = true)
    (l304 : K.lookup f304 = some ⟨oc304, od304, .func (PySem.W.fnOf "load" "Cells.load" (defArgs s_Cells_load) (defBody s_Cells_load) (defScope s_Cells_load) .none kV304 dc304 pm304 an304 cd304 ct304), sl304⟩)
    (o304 : PySem.W.codeIn K cd304 "Cells.load" = true)
    (p304 : PySem.W.keepIn K (.ref f304) = true)
    (a21 : PySem.W.nsIn K mainGlobals "_law_said" = some (some (.ref f21)))
    (l21 : K.lookup f21 = some ⟨oc21, od21, .func (PySem.W.fnOf "_law_said" "_law_said" (defArgs s_law_said) (defBody s_law_said) (defScope s_law_said) .none kV21 dc21 pm21 an21 cd21 ct21), sl21⟩)
    (o21 : PySem.W.codeIn K cd21 "_law_said" = true)
    (p21 : PySem.W.keepIn K (.ref f21) = true)
    (a22 : PySem.W.nsIn K mainGlobals "_law_odd_so" = some (some (.ref f22)))
    (l22 : K.lookup f22 = some ⟨oc22, od22, .func (PySem.W.fnOf "_law_odd_so" "_law_odd_so" (defArgs s_law_odd_so) (defBody s_law_odd_so) (defScope s_law_odd_so) .none kV22 dc22 pm22 an22 cd22 ct22), sl22⟩)
    (o22 : PySem.W.codeIn K cd22 "_law_odd_so" = true)
    (p22 : PySem.W.keepIn K (.ref f22) = true)
    (a23 : PySem.W.nsIn K mainGlobals "_law_laid" = some (some (.ref f23)))
    (l23 : K.lookup f23 = some ⟨oc23, od23, .func (PySem.W.fnOf "_law_laid" "_law_laid" (defArgs s_law_laid) (defBody s_law_laid) (defScope s_law_laid) .none kV23 dc23 pm23 an23 cd23 ct23), sl23⟩)
    (o23 : PySem.W.codeIn K cd23 "_law_laid" = true)
    (p23 : PySem.W.keepIn K (.ref f23) = true)
    (a24 : PySem.W.nsIn K mainGlobals "_law_same" = some (some (.ref f24)))
    (l24 : K.lookup f24 = some ⟨oc24, od24, .func (PySem.W.fnOf "_law_same" "_law_same" (defArgs s_law_same) (defBody s_law_same) (defScope s_law_same) .none kV24 dc24 pm24 an24 cd24 ct24), sl24⟩)
    (o24 : PySem.W.codeIn K cd24 "_law_same" = true)
    (p24 : PySem.W.keepIn K (.ref f24) = true)
    (a311 : PySem.W.findIn K (.ref c6) "__eq__" = some (some (.ref f311)))
    (fn311 : PySem.W.isFn K (.ref f311) = true)
    (l311 : K.lookup f311 = some ⟨oc311, od311, .func (PySem.W.fnOf "__eq__" "Cells.__eq__" (defArgs s_Cells_eq) (defBody s_Cells_eq) (defScope s_Cells_eq) .none kV311 dc311 pm311 an311 cd311 ct311), sl311⟩)
    (o311 : PySem.W.codeIn K cd311 "Cells.__eq__" = true)
    (p311 : PySem.W.keepIn K (.ref f311) = true)
    (a300 : PySem.W.findIn K (.ref c6) "__init__" = some (some (.ref f300)))
    (fn300 : PySem.W.isFn K (.ref f300) = true)
    (l300 : K.lookup f300 = some ⟨oc300, od300, .func (PySem.W.fnOf "__init__" "Cells.__init__" (defArgs s_Cells_init) (defBody s_Cells_init) (defScope s_Cells_init) .none kV300 dc300 pm300 an300 cd300 ct300), sl300⟩)
    (o300 : PySem.W.codeIn K cd300 "Cells.__init__" = true)
    (p300 : PySem.W.keepIn K (.ref f300) = true)
    (a310 : PySem.W.findIn K (.ref c6) "twin" = some (some (.ref f310)))
    (fn310 : PySem.W.isFn K (.ref f310) = true)
    (l310 : K.lookup f310 = some ⟨oc310, od310, .func (PySem.W.fnOf "twin" "Cells.twin" (defArgs s_Cells_twin) (defBody s_Cells_twin) (defScope s_Cells_twin) .none kV310 dc310 pm310 an310 cd310 ct310), sl310⟩)
    (o310 : PySem.W.codeIn K cd310 "Cells.twin" = true)
    (p310 : PySem.W.keepIn K (.ref f310) = true)
    (a25 : PySem.W.nsIn K mainGlobals "_law_emptied_so" = some (some (.ref f25)))
    (l25 : K.lookup f25 = some ⟨oc25, od25, .func (PySem.W.fnOf "_law_emptied_so" "_law_emptied_so" (defArgs s_law_emptied_so) (defBody s_law_emptied_so) (defScope s_law_emptied_so) .none kV25 dc25 pm25 an25 cd25 ct25), sl25⟩)
    (o25 : PySem.W.codeIn K cd25 "_law_emptied_so" = true)
    (p25 : PySem.W.keepIn K (.ref f25) = true)
    (a26 : PySem.W.nsIn K mainGlobals "law" = some (some (.ref f26)))
    (l26 : K.lookup f26 = some ⟨oc26, od26, .func (PySem.W.fnOf "law" "law" (defArgs s_law) (defBody s_law) (defScope s_law) .none kV26 dc26 pm26 an26 cd26 ct26), sl26⟩)
    (o26 : PySem.W.codeIn K cd26 "law" = true)
    (p26 : PySem.W.keepIn K (.ref f26) = true)
    (k_CELLS : PySem.W.nsIn K mainGlobals "CELLS" = some (some (.int 4096 t_CELLS)))
    (k_MOST_COUNT : PySem.W.nsIn K mainGlobals "MOST_COUNT" = some (some (.int 16 t_MOST_COUNT)))
    (k_MOST_STEP : PySem.W.nsIn K mainGlobals "MOST_STEP" = some (some (.int 8 t_MOST_STEP)))
    (k_RIGHTS : PySem.W.nsIn K mainGlobals "RIGHTS" = some (some (.str "rwlsnfxco" t_RIGHTS)))
    (k_WORDS : PySem.W.nsIn K mainGlobals "WORDS" = some (some (.int 35184372088832 t_WORDS)))
    (k_CELL_GROUP : PySem.W.nsIn K mainGlobals "CELL_GROUP" = some (some (.str "rwlsn" t_CELL_GROUP)))
    (k_NOTHING : PySem.W.nsIn K mainGlobals "NOTHING" = some (some (.ref d_NOTHING)))
    (l_NOTHING : K.lookup d_NOTHING = some ⟨.type "tuple", none, .seq #[.bool false, .int 0 t1_NOTHING] n_NOTHING, sl_NOTHING⟩)
    (k_LEAST_OFFSET : PySem.W.nsIn K mainGlobals "LEAST_OFFSET" = some (some (.int (-8) t_LEAST_OFFSET)))
    (k_MOST_OFFSET : PySem.W.nsIn K mainGlobals "MOST_OFFSET" = some (some (.int 15 t_MOST_OFFSET)))
    (k_POKED : PySem.W.nsIn K mainGlobals "POKED" = some (some (.int 268435456 t_POKED)))
    (clp_Cells : PySem.W.plainGet K c6 Str.empty = true)
    (clh_Cells : PySem.W.hasDictIn K c6 = true)
    (clo_Cells : PySem.W.plainOver K c6 = true)
    (cls_Cells : PySem.W.findIn K (.ref c6) "__setattr__" = some (some (.builtin "object.__setattr__")))
    (mkm_Cells : PySem.W.makesIn K c6 = true)
    (mkk_Cells : PySem.W.keepIn K (.ref c6) = true)
    (nq_Cells : PySem.W.findIn K (.ref c6) "__ne__" = some (some (.builtin "object.__ne__")))
    (nb_Cells : PySem.W.subIn K (.ref c6) (.type "object") = some true)
    (na_Cells_own_cells : PySem.W.findIn K (.ref c6) "own_cells" = some none)
    (z_abs : PySem.W.nsIn K mainGlobals "abs" = some none)
    (z_any : PySem.W.nsIn K mainGlobals "any" = some none)
    (z_bool : PySem.W.nsIn K mainGlobals "bool" = some none)
    (z_dict : PySem.W.nsIn K mainGlobals "dict" = some none)
    (z_enumerate : PySem.W.nsIn K mainGlobals "enumerate" = some none)
    (z_int : PySem.W.nsIn K mainGlobals "int" = some none)
    (z_isinstance : PySem.W.nsIn K mainGlobals "isinstance" = some none)
    (z_len : PySem.W.nsIn K mainGlobals "len" = some none)
    (z_max : PySem.W.nsIn K mainGlobals "max" = some none)
    (z_min : PySem.W.nsIn K mainGlobals "min" = some none)
    (z_range : PySem.W.nsIn K mainGlobals "range" = some none)
    (z_repr : PySem.W.nsIn K mainGlobals "repr" = some none)
    (z_sorted : PySem.W.nsIn K mainGlobals "sorted" = some none)
    (z_sum : PySem.W.nsIn K mainGlobals "sum" = some none)
    (z_tuple : PySem.W.nsIn K mainGlobals "tuple" = some none)
    (g_ReachError : PySem.W.nsIn K mainGlobals "ReachError" = some (some (.ref c0)))
    (E1_ReachError : PySem.W.findIn K (.ref c0) "__getattribute__" = some (some (.builtin "BaseException.__getattribute__")))
    (E2_ReachError : PySem.W.findIn K (.ref c0) "__getattr__" = some none)
    (E3_ReachError : PySem.W.subIn K (.ref c0) (.type "BaseException") = some true)
    (E4_ReachError : PySem.W.hasDictIn K c0 = true)
    (E5_ReachError : PySem.W.findIn K (.ref c0) "__class__" = some (some (.builtin "object.__class__")))
    (E8_ReachError : PySem.W.mroIn K c0 (.type "object") = some true)
    (g_NoBounds : PySem.W.nsIn K mainGlobals "NoBounds" = some (some (.ref c1)))
    (E1_NoBounds : PySem.W.findIn K (.ref c1) "__getattribute__" = some (some (.builtin "BaseException.__getattribute__")))
    (E2_NoBounds : PySem.W.findIn K (.ref c1) "__getattr__" = some none)
    (E3_NoBounds : PySem.W.subIn K (.ref c1) (.type "BaseException") = some true)
    (E4_NoBounds : PySem.W.hasDictIn K c1 = true)
    (E5_NoBounds : PySem.W.findIn K (.ref c1) "__class__" = some (some (.builtin "object.__class__")))
    (E8_NoBounds : PySem.W.mroIn K c1 (.type "object") = some true)
    (g_NoOffset : PySem.W.nsIn K mainGlobals "NoOffset" = some (some (.ref c2)))
    (E1_NoOffset : PySem.W.findIn K (.ref c2) "__getattribute__" = some (some (.builtin "BaseException.__getattribute__")))
    (E2_NoOffset : PySem.W.findIn K (.ref c2) "__getattr__" = some none)
    (E3_NoOffset : PySem.W.subIn K (.ref c2) (.type "BaseException") = some true)
    (E4_NoOffset : PySem.W.hasDictIn K c2 = true)
    (E5_NoOffset : PySem.W.findIn K (.ref c2) "__class__" = some (some (.builtin "object.__class__")))
    (E8_NoOffset : PySem.W.mroIn K c2 (.type "object") = some true)
    (g_NoAddress : PySem.W.nsIn K mainGlobals "NoAddress" = some (some (.ref c3)))
    (E1_NoAddress : PySem.W.findIn K (.ref c3) "__getattribute__" = some (some (.builtin "BaseException.__getattribute__")))
    (E2_NoAddress : PySem.W.findIn K (.ref c3) "__getattr__" = some none)
    (E3_NoAddress : PySem.W.subIn K (.ref c3) (.type "BaseException") = some true)
    (E4_NoAddress : PySem.W.hasDictIn K c3 = true)
    (E5_NoAddress : PySem.W.findIn K (.ref c3) "__class__" = some (some (.builtin "object.__class__")))
    (E8_NoAddress : PySem.W.mroIn K c3 (.type "object") = some true)
    (g_NoWord : PySem.W.nsIn K mainGlobals "NoWord" = some (some (.ref c4)))
    (E1_NoWord : PySem.W.findIn K (.ref c4) "__getattribute__" = some (some (.builtin "BaseException.__getattribute__")))
    (E2_NoWord : PySem.W.findIn K (.ref c4) "__getattr__" = some none)
    (E3_NoWord : PySem.W.subIn K (.ref c4) (.type "BaseException") = some true)
    (E4_NoWord : PySem.W.hasDictIn K c4 = true)
    (E5_NoWord : PySem.W.findIn K (.ref c4) "__class__" = some (some (.builtin "object.__class__")))
    (E8_NoWord : PySem.W.mroIn K c4 (.type "object") = some true)
    (g_Fault : PySem.W.nsIn K mainGlobals "Fault" = some (some (.ref c5)))
    (E1_Fault : PySem.W.findIn K (.ref c5) "__getattribute__" = some (some (.builtin "BaseException.__getattribute__")))
    (E2_Fault : PySem.W.findIn K (.ref c5) "__getattr__" = some none)
    (E3_Fault : PySem.W.subIn K (.ref c5) (.type "BaseException") = some true)
    (E4_Fault : PySem.W.hasDictIn K c5 = true)
    (E5_Fault : PySem.W.findIn K (.ref c5) "__class__" = some (some (.builtin "object.__class__")))
    (E8_Fault : PySem.W.mroIn K c5 (.type "object") = some true)
    (ic_Cells : PySem.W.findIn K (.ref c6) "__class__" = some (some (.builtin "object.__class__")))
    (im_Cells : PySem.W.mroIn K c6 (.type "object") = some true)
    (qf_NoneType_Cells : PySem.W.kitOne K (.type "NoneType") (.ref c6) = some false)
    (qf_bool_Cells : PySem.W.kitOne K (.type "bool") (.ref c6) = some false)
    (qf_int_Cells : PySem.W.kitOne K (.type "int") (.ref c6) = some false)
    (qf_str_Cells : PySem.W.kitOne K (.type "str") (.ref c6) = some false)
    (qf_tuple_Cells : PySem.W.kitOne K (.type "tuple") (.ref c6) = some false)
    (qf_list_Cells : PySem.W.kitOne K (.type "list") (.ref c6) = some false)
    (qf_dict_Cells : PySem.W.kitOne K (.type "dict") (.ref c6) = some false)
    (E6 : PySem.W.specialIn K (.builtin "object.__class__") "__get__" = some (some (.builtin "getset_descriptor.__get__")))
    (E7 : PySem.W.takesIn K (.builtin "object.__class__") = some true)
    (sp_ReachError : PySem.W.specialIn K (.ref c0) "__getattribute__" = some (some (.builtin "type.__getattribute__")))
    (rd_ReachError : PySem.W.readsIn K c0 (.type "type") = true)
    (vl_ReachError : PySem.W.findCls K (.ref c0) (.type "type") "__init__" = some (.val (.builtin "ValueError.__init__")))
    (xL_Fault : K.lookup c5 = some (excClassObj nm5 q5 c5 N5 bs5 [.ref c0, .type "ValueError", .type "Exception", .type "BaseException", .type "object"] true sn5 sub5 ab5 col5 dd5 m05 m15 m25 m35 m55 "ValueError.__new__"))
    (sa_Fault : PySem.W.findIn K (.ref c5) "__setattr__" = some (some (.builtin "object.__setattr__")))
    (iC_Fault : PySem.W.findIn K (.ref c5) "__init__" = some (some (.ref g5)))
    (tI_Fault : PySem.W.typeIn K (.ref g5) = some (.type "function"))
    (li_Fault : K.lookup g5 = some ⟨ioc5, iod5, .func (PySem.W.fnOf "__init__" "Fault.__init__" (defArgs si_Fault) (defBody si_Fault) (defScope si_Fault) .none ikV5 idc5 ipm5 ian5 icd5 ict5), isl5⟩)
    (oi_Fault : PySem.W.codeIn K icd5 "Fault.__init__" = true)
    (pi_Fault : PySem.W.keepIn K (.ref g5) = true)
    (p_Fault : PySem.W.keepIn K (.ref c5) = true)
    (u_Fault : PySem.W.subIn K (.ref c5) (.type "BaseException") = some true)
    (y_Fault : PySem.W.typeIn K (.ref c5) = some (.type "type"))
    (no_Fault_word : PySem.W.findIn K (.ref c5) "word" = some none)
    (x_NoAddress : PySem.W.excIn K c3 [.type "ValueError", .type "Exception", .type "BaseException", .type "object"] "ValueError.__new__" = true)
    (p_NoAddress : PySem.W.keepIn K (.ref c3) = true)
    (u_NoAddress : PySem.W.subIn K (.ref c3) (.type "BaseException") = some true)
    (y_NoAddress : PySem.W.typeIn K (.ref c3) = some (.type "type"))
    (x_NoBounds : PySem.W.excIn K c1 [.type "ValueError", .type "Exception", .type "BaseException", .type "object"] "ValueError.__new__" = true)
    (p_NoBounds : PySem.W.keepIn K (.ref c1) = true)
    (u_NoBounds : PySem.W.subIn K (.ref c1) (.type "BaseException") = some true)
    (y_NoBounds : PySem.W.typeIn K (.ref c1) = some (.type "type"))
    (x_NoOffset : PySem.W.excIn K c2 [.type "ValueError", .type "Exception", .type "BaseException", .type "object"] "ValueError.__new__" = true)
    (p_NoOffset : PySem.W.keepIn K (.ref c2) = true)
    (u_NoOffset : PySem.W.subIn K (.ref c2) (.type "BaseException") = some true)
    (y_NoOffset : PySem.W.typeIn K (.ref c2) = some (.type "type"))
    (x_NoWord : PySem.W.excIn K c4 [.type "ValueError", .type "Exception", .type "BaseException", .type "object"] "ValueError.__new__" = true)
    (p_NoWord : PySem.W.keepIn K (.ref c4) = true)
    (u_NoWord : PySem.W.subIn K (.ref c4) (.type "BaseException") = some true)
    (y_NoWord : PySem.W.typeIn K (.ref c4) = some (.type "type"))
    (e_Fault_ReachError : PySem.W.exmOne K (.ref c5) (.ref c0) = some true)
    (e_NoAddress_ReachError : PySem.W.exmOne K (.ref c3) (.ref c0) = some true)
    (e_NoBounds_ReachError : PySem.W.exmOne K (.ref c1) (.ref c0) = some true)
    (e_NoOffset_ReachError : PySem.W.exmOne K (.ref c2) (.ref c0) = some true)
    (e_NoWord_ReachError : PySem.W.exmOne K (.ref c4) (.ref c0) = some true)
    (e_ReachError_ReachError : PySem.W.exmOne K (.ref c0) (.ref c0) = some true)
    (q_Fault_Cells : PySem.W.kitOne K (.ref c5) (.ref c6) = some false)
    (q_Fault_Fault : PySem.W.kitOne K (.ref c5) (.ref c5) = some true)
    (q_Fault_NoAddress : PySem.W.kitOne K (.ref c5) (.ref c3) = some false)
    (q_Fault_NoBounds : PySem.W.kitOne K (.ref c5) (.ref c1) = some false)
    (q_Fault_NoOffset : PySem.W.kitOne K (.ref c5) (.ref c2) = some false)
    (q_Fault_NoWord : PySem.W.kitOne K (.ref c5) (.ref c4) = some false)
    (q_NoAddress_Cells : PySem.W.kitOne K (.ref c3) (.ref c6) = some false)
    (q_NoAddress_Fault : PySem.W.kitOne K (.ref c3) (.ref c5) = some false)
    (q_NoAddress_NoAddress : PySem.W.kitOne K (.ref c3) (.ref c3) = some true)
    (q_NoAddress_NoBounds : PySem.W.kitOne K (.ref c3) (.ref c1) = some false)
    (q_NoAddress_NoOffset : PySem.W.kitOne K (.ref c3) (.ref c2) = some false)
    (q_NoAddress_NoWord : PySem.W.kitOne K (.ref c3) (.ref c4) = some false)
    (q_NoBounds_Cells : PySem.W.kitOne K (.ref c1) (.ref c6) = some false)
    (q_NoBounds_Fault : PySem.W.kitOne K (.ref c1) (.ref c5) = some false)
    (q_NoBounds_NoAddress : PySem.W.kitOne K (.ref c1) (.ref c3) = some false)
    (q_NoBounds_NoBounds : PySem.W.kitOne K (.ref c1) (.ref c1) = some true)
    (q_NoBounds_NoOffset : PySem.W.kitOne K (.ref c1) (.ref c2) = some false)
    (q_NoBounds_NoWord : PySem.W.kitOne K (.ref c1) (.ref c4) = some false)
    (q_NoOffset_Cells : PySem.W.kitOne K (.ref c2) (.ref c6) = some false)
    (q_NoOffset_Fault : PySem.W.kitOne K (.ref c2) (.ref c5) = some false)
    (q_NoOffset_NoAddress : PySem.W.kitOne K (.ref c2) (.ref c3) = some false)
    (q_NoOffset_NoBounds : PySem.W.kitOne K (.ref c2) (.ref c1) = some false)
    (q_NoOffset_NoOffset : PySem.W.kitOne K (.ref c2) (.ref c2) = some true)
    (q_NoOffset_NoWord : PySem.W.kitOne K (.ref c2) (.ref c4) = some false)
    (q_NoWord_Cells : PySem.W.kitOne K (.ref c4) (.ref c6) = some false)
    (q_NoWord_Fault : PySem.W.kitOne K (.ref c4) (.ref c5) = some false)
    (q_NoWord_NoAddress : PySem.W.kitOne K (.ref c4) (.ref c3) = some false)
    (q_NoWord_NoBounds : PySem.W.kitOne K (.ref c4) (.ref c1) = some false)
    (q_NoWord_NoOffset : PySem.W.kitOne K (.ref c4) (.ref c2) = some false)
    (q_NoWord_NoWord : PySem.W.kitOne K (.ref c4) (.ref c4) = some true)
    (q_ReachError_Cells : PySem.W.kitOne K (.ref c0) (.ref c6) = some false)
    (q_ReachError_Fault : PySem.W.kitOne K (.ref c0) (.ref c5) = some false)
    (q_ReachError_NoAddress : PySem.W.kitOne K (.ref c0) (.ref c3) = some false)
    (q_ReachError_NoBounds : PySem.W.kitOne K (.ref c0) (.ref c1) = some false)
    (q_ReachError_NoOffset : PySem.W.kitOne K (.ref c0) (.ref c2) = some false)
    (q_ReachError_NoWord : PySem.W.kitOne K (.ref c0) (.ref c4) = some false)
    : ∃ (fd : FuncData) (C : Nat → Addr), (∀ (s : Shared) (v : Value), BindsTo s fd ⟨[v], []⟩ [("_law_script", v)]) ∧ ∀ base : Heap, K.In base → base.Ns mainGlobals mg → FnG l.prog w K mg base (L2N.CX l.prog w) 8 fa fd ["_law_script"] (spOf K C 1 g_law) := by
  have e := hfa.symm.trans (PySem.W.mg_of X G a26)
  cases e
  have F0 := fun_mk (st := s_is_whole) l0 o0 p0
  have F1 := fun_mk (st := s_look_at_bounds) l1 o1 p1
  have F2 := fun_mk (st := s_from_bits) l2 o2 p2
  have F3 := fun_mk (st := s_is_word) l3 o3 p3
  have F4 := fun_mk (st := s_are_lawful) l4 o4 p4
  have F5 := fun_mk (st := s_rights_in) l5 o5 p5
  have F6 := fun_mk (st := s_fields_of) l6 o6 p6
  have F7 := fun_mk (st := s_is_lawful) l7 o7 p7
  have F8 := fun_mk (st := s_bare) l8 o8 p8
  have F9 := fun_mk (st := s_look_at_offset) l9 o9 p9
  have F10 := fun_mk (st := s_is_address) l10 o10 p10
  have F11 : FunD K "address_by" "address_by" (defArgs s_address_by) (defBody s_address_by) (defScope s_address_by) [] [("sealed", .bl false)] f11 _ := ⟨⟨_, _, _, _, _, _, _, _, _, _, rfl, l11, o11, .inl ⟨rfl, rfl⟩, .inr ⟨kd11, rfl, List.forall_mem_cons.mpr ⟨⟨_, kw11_sealed, rfl⟩, List.forall_mem_nil _⟩⟩⟩, p11⟩
  have F12 := fun_mk (st := s_look_at_stored) l12 o12 p12
  have F13 := fun_mk (st := s_law_pool) l13 o13 p13
  have F14 := fun_mk (st := s_law_take) l14 o14 p14
  have F15 := fun_mk (st := s_law_least) l15 o15 p15
  have F17 := fun_mk (st := s_law_made) l17 o17 p17
  have F18 := fun_mk (st := s_law_bounds) l18 o18 p18
  have F19 := fun_mk (st := s_law_rights) l19 o19 p19
  have F20 := fun_mk (st := s_law_word) l20 o20 p20
  have F302 := fun_mk (st := s_Cells_put) l302 o302 p302
  have F303 := fun_mk (st := s_Cells_lay) l303 o303 p303
  have F309 : FunD K "marked" "Cells.marked" (defArgs s_Cells_marked) (defBody s_Cells_marked) (defScope s_Cells_marked) [.int 0, .int 4096] [] f309 _ := ⟨⟨_, _, _, _, _, _, _, _, _, _, rfl, l309, o309, .inr ⟨by simp, dd309, _, _, dn309, rfl, dl309_, rfl, (.cons ⟨_, rfl⟩ (.cons ⟨_, rfl⟩ .nil))⟩, .inl rfl⟩, p309⟩
  have F308 := fun_mk (st := s_Cells_clear) l308 o308 p308
  have F301 := fun_mk (st := s_Cells_cell) l301 o301 p301
  have F307 := fun_mk (st := s_Cells_put_lowest) l307 o307 p307
  have F306 := fun_mk (st := s_Cells_poke) l306 o306 p306
  have F305 := fun_mk (st := s_Cells_store) l305 o305 p305
  have F304 := fun_mk (st := s_Cells_load) l304 o304 p304
  have F21 := fun_mk (st := s_law_said) l21 o21 p21
  have F22 := fun_mk (st := s_law_odd_so) l22 o22 p22
  have F23 := fun_mk (st := s_law_laid) l23 o23 p23
  have F24 := fun_mk (st := s_law_same) l24 o24 p24
  have F311 := fun_mk (st := s_Cells_eq) l311 o311 p311
  have F300 := fun_mk (st := s_Cells_init) l300 o300 p300
  have F310 := fun_mk (st := s_Cells_twin) l310 o310 p310
  have F25 := fun_mk (st := s_law_emptied_so) l25 o25 p25
  have F26 := fun_mk (st := s_law) l26 o26 p26
  have FI5 := fun_mk (st := si_Fault) li_Fault oi_Fault pi_Fault
  let A : Nat → Addr := fun n => match n with | 0 => f0 | 1 => f1 | 2 => f2 | 3 => f3 | 4 => f4 | 5 => f5 | 6 => f6 | 7 => f7 | 8 => f8 | 9 => f9 | 10 => f10 | 11 => f11 | 12 => f12 | 13 => f13 | 14 => f14 | 15 => f15 | 17 => f17 | 18 => f18 | 19 => f19 | 20 => f20 | 302 => f302 | 303 => f303 | 309 => f309 | 308 => f308 | 301 => f301 | 307 => f307 | 306 => f306 | 305 => f305 | 304 => f304 | 21 => f21 | 22 => f22 | 23 => f23 | 24 => f24 | 311 => f311 | 300 => f300 | 310 => f310 | 25 => f25 | 26 => fa | 905 => g5 | _ => 0
  let C : Nat → Addr := fun n => match n with | 0 => c0 | 1 => c1 | 2 => c2 | 3 => c3 | 4 => c4 | 5 => c5 | 6 => c6 | _ => 0
  let fd : Nat → FuncData := fun n => match n with | 905 => PySem.W.fnOf "__init__" "Fault.__init__" (defArgs si_Fault) (defBody si_Fault) (defScope si_Fault) .none ikV5 idc5 ipm5 ian5 icd5 ict5 | 0 => PySem.W.fnOf "is_whole" "is_whole" (defArgs s_is_whole) (defBody s_is_whole) (defScope s_is_whole) .none kV0 dc0 pm0 an0 cd0 ct0 | 1 => PySem.W.fnOf "look_at_bounds" "look_at_bounds" (defArgs s_look_at_bounds) (defBody s_look_at_bounds) (defScope s_look_at_bounds) .none kV1 dc1 pm1 an1 cd1 ct1 | 2 => PySem.W.fnOf "from_bits" "from_bits" (defArgs s_from_bits) (defBody s_from_bits) (defScope s_from_bits) .none kV2 dc2 pm2 an2 cd2 ct2 | 3 => PySem.W.fnOf "is_word" "is_word" (defArgs s_is_word) (defBody s_is_word) (defScope s_is_word) .none kV3 dc3 pm3 an3 cd3 ct3 | 4 => PySem.W.fnOf "are_lawful" "are_lawful" (defArgs s_are_lawful) (defBody s_are_lawful) (defScope s_are_lawful) .none kV4 dc4 pm4 an4 cd4 ct4 | 5 => PySem.W.fnOf "rights_in" "rights_in" (defArgs s_rights_in) (defBody s_rights_in) (defScope s_rights_in) .none kV5 dc5 pm5 an5 cd5 ct5 | 6 => PySem.W.fnOf "fields_of" "fields_of" (defArgs s_fields_of) (defBody s_fields_of) (defScope s_fields_of) .none kV6 dc6 pm6 an6 cd6 ct6 | 7 => PySem.W.fnOf "is_lawful" "is_lawful" (defArgs s_is_lawful) (defBody s_is_lawful) (defScope s_is_lawful) .none kV7 dc7 pm7 an7 cd7 ct7 | 8 => PySem.W.fnOf "bare" "bare" (defArgs s_bare) (defBody s_bare) (defScope s_bare) .none kV8 dc8 pm8 an8 cd8 ct8 | 9 => PySem.W.fnOf "look_at_offset" "look_at_offset" (defArgs s_look_at_offset) (defBody s_look_at_offset) (defScope s_look_at_offset) .none kV9 dc9 pm9 an9 cd9 ct9 | 10 => PySem.W.fnOf "is_address" "is_address" (defArgs s_is_address) (defBody s_is_address) (defScope s_is_address) .none kV10 dc10 pm10 an10 cd10 ct10 | 11 => PySem.W.fnOf "address_by" "address_by" (defArgs s_address_by) (defBody s_address_by) (defScope s_address_by) .none (.ref kd11) dc11 pm11 an11 cd11 ct11 | 12 => PySem.W.fnOf "look_at_stored" "look_at_stored" (defArgs s_look_at_stored) (defBody s_look_at_stored) (defScope s_look_at_stored) .none kV12 dc12 pm12 an12 cd12 ct12 | 13 => PySem.W.fnOf "_law_pool" "_law_pool" (defArgs s_law_pool) (defBody s_law_pool) (defScope s_law_pool) .none kV13 dc13 pm13 an13 cd13 ct13 | 14 => PySem.W.fnOf "_law_take" "_law_take" (defArgs s_law_take) (defBody s_law_take) (defScope s_law_take) .none kV14 dc14 pm14 an14 cd14 ct14 | 15 => PySem.W.fnOf "_law_least" "_law_least" (defArgs s_law_least) (defBody s_law_least) (defScope s_law_least) .none kV15 dc15 pm15 an15 cd15 ct15 | 17 => PySem.W.fnOf "_law_made" "_law_made" (defArgs s_law_made) (defBody s_law_made) (defScope s_law_made) .none kV17 dc17 pm17 an17 cd17 ct17 | 18 => PySem.W.fnOf "_law_bounds" "_law_bounds" (defArgs s_law_bounds) (defBody s_law_bounds) (defScope s_law_bounds) .none kV18 dc18 pm18 an18 cd18 ct18 | 19 => PySem.W.fnOf "_law_rights" "_law_rights" (defArgs s_law_rights) (defBody s_law_rights) (defScope s_law_rights) .none kV19 dc19 pm19 an19 cd19 ct19 | 20 => PySem.W.fnOf "_law_word" "_law_word" (defArgs s_law_word) (defBody s_law_word) (defScope s_law_word) .none kV20 dc20 pm20 an20 cd20 ct20 | 302 => PySem.W.fnOf "put" "Cells.put" (defArgs s_Cells_put) (defBody s_Cells_put) (defScope s_Cells_put) .none kV302 dc302 pm302 an302 cd302 ct302 | 303 => PySem.W.fnOf "lay" "Cells.lay" (defArgs s_Cells_lay) (defBody s_Cells_lay) (defScope s_Cells_lay) .none kV303 dc303 pm303 an303 cd303 ct303 | 309 => PySem.W.fnOf "marked" "Cells.marked" (defArgs s_Cells_marked) (defBody s_Cells_marked) (defScope s_Cells_marked) (.ref dd309) kV309 dc309 pm309 an309 cd309 ct309 | 308 => PySem.W.fnOf "clear" "Cells.clear" (defArgs s_Cells_clear) (defBody s_Cells_clear) (defScope s_Cells_clear) .none kV308 dc308 pm308 an308 cd308 ct308 | 301 => PySem.W.fnOf "cell" "Cells.cell" (defArgs s_Cells_cell) (defBody s_Cells_cell) (defScope s_Cells_cell) .none kV301 dc301 pm301 an301 cd301 ct301 | 307 => PySem.W.fnOf "put_lowest" "Cells.put_lowest" (defArgs s_Cells_put_lowest) (defBody s_Cells_put_lowest) (defScope s_Cells_put_lowest) .none kV307 dc307 pm307 an307 cd307 ct307 | 306 => PySem.W.fnOf "poke" "Cells.poke" (defArgs s_Cells_poke) (defBody s_Cells_poke) (defScope s_Cells_poke) .none kV306 dc306 pm306 an306 cd306 ct306 | 305 => PySem.W.fnOf "store" "Cells.store" (defArgs s_Cells_store) (defBody s_Cells_store) (defScope s_Cells_store) .none kV305 dc305 pm305 an305 cd305 ct305 | 304 => PySem.W.fnOf "load" "Cells.load" (defArgs s_Cells_load) (defBody s_Cells_load) (defScope s_Cells_load) .none kV304 dc304 pm304 an304 cd304 ct304 | 21 => PySem.W.fnOf "_law_said" "_law_said" (defArgs s_law_said) (defBody s_law_said) (defScope s_law_said) .none kV21 dc21 pm21 an21 cd21 ct21 | 22 => PySem.W.fnOf "_law_odd_so" "_law_odd_so" (defArgs s_law_odd_so) (defBody s_law_odd_so) (defScope s_law_odd_so) .none kV22 dc22 pm22 an22 cd22 ct22 | 23 => PySem.W.fnOf "_law_laid" "_law_laid" (defArgs s_law_laid) (defBody s_law_laid) (defScope s_law_laid) .none kV23 dc23 pm23 an23 cd23 ct23 | 24 => PySem.W.fnOf "_law_same" "_law_same" (defArgs s_law_same) (defBody s_law_same) (defScope s_law_same) .none kV24 dc24 pm24 an24 cd24 ct24 | 311 => PySem.W.fnOf "__eq__" "Cells.__eq__" (defArgs s_Cells_eq) (defBody s_Cells_eq) (defScope s_Cells_eq) .none kV311 dc311 pm311 an311 cd311 ct311 | 300 => PySem.W.fnOf "__init__" "Cells.__init__" (defArgs s_Cells_init) (defBody s_Cells_init) (defScope s_Cells_init) .none kV300 dc300 pm300 an300 cd300 ct300 | 310 => PySem.W.fnOf "twin" "Cells.twin" (defArgs s_Cells_twin) (defBody s_Cells_twin) (defScope s_Cells_twin) .none kV310 dc310 pm310 an310 cd310 ct310 | 25 => PySem.W.fnOf "_law_emptied_so" "_law_emptied_so" (defArgs s_law_emptied_so) (defBody s_law_emptied_so) (defScope s_law_emptied_so) .none kV25 dc25 pm25 an25 cd25 ct25 | 26 => PySem.W.fnOf "law" "law" (defArgs s_law) (defBody s_law) (defScope s_law) .none kV26 dc26 pm26 an26 cd26 ct26 | _ => PySem.W.fnOf "law" "law" (defArgs s_law) (defBody s_law) (defScope s_law) .none kV26 dc26 pm26 an26 cd26 ct26
  have T : Txt w K mg C A fd := {
    f_is_whole := F0,
    b_is_whole := F0.binds (ps := ["thing"]) fun _ _ _ _ _ _ us hl => match us, hl with | [_], _ => rfl,
    g_is_whole := PySem.W.mg_of X G a0,
    f_look_at_bounds := F1,
    b_look_at_bounds := F1.binds (ps := ["low", "high"]) fun _ _ _ _ _ _ us hl => match us, hl with | [_, _], _ => rfl,
    g_look_at_bounds := PySem.W.mg_of X G a1,
    f_from_bits := F2,
    b_from_bits := F2.binds (ps := ["step", "first", "count"]) fun _ _ _ _ _ _ us hl => match us, hl with | [_, _, _], _ => rfl,
    g_from_bits := PySem.W.mg_of X G a2,
    f_is_word := F3,
    b_is_word := F3.binds (ps := ["thing"]) fun _ _ _ _ _ _ us hl => match us, hl with | [_], _ => rfl,
    g_is_word := PySem.W.mg_of X G a3,
    f_are_lawful := F4,
    b_are_lawful := F4.binds (ps := ["rights"]) fun _ _ _ _ _ _ us hl => match us, hl with | [_], _ => rfl,
    g_are_lawful := PySem.W.mg_of X G a4,
    f_rights_in := F5,
    b_rights_in := F5.binds (ps := ["bits"]) fun _ _ _ _ _ _ us hl => match us, hl with | [_], _ => rfl,
    g_rights_in := PySem.W.mg_of X G a5,
    f_fields_of := F6,
    b_fields_of := F6.binds (ps := ["word"]) fun _ _ _ _ _ _ us hl => match us, hl with | [_], _ => rfl,
    g_fields_of := PySem.W.mg_of X G a6,
    f_is_lawful := F7,
    b_is_lawful := F7.binds (ps := ["thing"]) fun _ _ _ _ _ _ us hl => match us, hl with | [_], _ => rfl,
    g_is_lawful := PySem.W.mg_of X G a7,
    f_bare := F8,
    b_bare := F8.binds (ps := ["word"]) fun _ _ _ _ _ _ us hl => match us, hl with | [_], _ => rfl,
    g_bare := PySem.W.mg_of X G a8,
    f_look_at_offset := F9,
    b_look_at_offset := F9.binds (ps := ["offset"]) fun _ _ _ _ _ _ us hl => match us, hl with | [_], _ => rfl,
    g_look_at_offset := PySem.W.mg_of X G a9,
    f_is_address := F10,
    b_is_address := F10.binds (ps := ["thing"]) fun _ _ _ _ _ _ us hl => match us, hl with | [_], _ => rfl,
    g_is_address := PySem.W.mg_of X G a10,
    f_address_by := F11,
    g_address_by := PySem.W.mg_of X G a11,
    f_look_at_stored := F12,
    b_look_at_stored := F12.binds (ps := ["word", "what"]) fun _ _ _ _ _ _ us hl => match us, hl with | [_, _], _ => rfl,
    g_look_at_stored := PySem.W.mg_of X G a12,
    f_law_pool := F13,
    b_law_pool := F13.binds (ps := ["_law_script", "_law_k"]) fun _ _ _ _ _ _ us hl => match us, hl with | [_, _], _ => rfl,
    g_law_pool := PySem.W.mg_of X G a13,
    f_law_take := F14,
    b_law_take := F14.binds (ps := ["_law_pool_here", "_law_many"]) fun _ _ _ _ _ _ us hl => match us, hl with | [_, _], _ => rfl,
    g_law_take := PySem.W.mg_of X G a14,
    f_law_least := F15,
    b_law_least := F15.binds (ps := ["_law_low", "_law_high"]) fun _ _ _ _ _ _ us hl => match us, hl with | [_, _], _ => rfl,
    g_law_least := PySem.W.mg_of X G a15,
    f_law_made := F17,
    b_law_made := F17.binds (ps := ["_law_low", "_law_high", "_law_at", "_law_rights_here", "_law_kind"]) fun _ _ _ _ _ _ us hl => match us, hl with | [_, _, _, _, _], _ => rfl,
    g_law_made := PySem.W.mg_of X G a17,
    f_law_bounds := F18,
    b_law_bounds := F18.binds (ps := ["_law_pool_here"]) fun _ _ _ _ _ _ us hl => match us, hl with | [_], _ => rfl,
    g_law_bounds := PySem.W.mg_of X G a18,
    f_law_rights := F19,
    b_law_rights := F19.binds (ps := ["_law_pool_here"]) fun _ _ _ _ _ _ us hl => match us, hl with | [_], _ => rfl,
    g_law_rights := PySem.W.mg_of X G a19,
    f_law_word := F20,
    b_law_word := F20.binds (ps := ["_law_pool_here"]) fun _ _ _ _ _ _ us hl => match us, hl with | [_], _ => rfl,
    g_law_word := PySem.W.mg_of X G a20,
    f_Cells_put := F302,
    b_Cells_put := F302.binds (ps := ["self", "address", "word"]) fun _ _ _ _ _ _ us hl => match us, hl with | [_, _, _], _ => rfl,
    m_Cells_put := ⟨a302, fn302, p302⟩,
    f_Cells_lay := F303,
    b_Cells_lay := F303.binds (ps := ["self", "address", "word"]) fun _ _ _ _ _ _ us hl => match us, hl with | [_, _, _], _ => rfl,
    m_Cells_lay := ⟨a303, fn303, p303⟩,
    f_Cells_marked := F309,
    bd_Cells_marked_0 := F309.binds1 3 2 (by simp) (by rfl) fun T kV doc pm an cdv ct us its h1 h2 => match us, its, h1, h2 with | [_, _, _], [_, _], _, _ => ⟨_, rfl, rfl⟩,
    bd_Cells_marked_2 := F309.binds1 1 0 (by simp) (by rfl) fun T kV doc pm an cdv ct us its h1 h2 => match us, its, h1, h2 with | [_], [_, _], _, _ => ⟨_, rfl, rfl⟩,
    m_Cells_marked := ⟨a309, fn309, p309⟩,
    f_Cells_clear := F308,
    b_Cells_clear := F308.binds (ps := ["self", "low", "high"]) fun _ _ _ _ _ _ us hl => match us, hl with | [_, _, _], _ => rfl,
    m_Cells_clear := ⟨a308, fn308, p308⟩,
    f_Cells_cell := F301,
    b_Cells_cell := F301.binds (ps := ["self", "address"]) fun _ _ _ _ _ _ us hl => match us, hl with | [_, _], _ => rfl,
    m_Cells_cell := ⟨a301, fn301, p301⟩,
    f_Cells_put_lowest := F307,
    b_Cells_put_lowest := F307.binds (ps := ["self", "address", "number"]) fun _ _ _ _ _ _ us hl => match us, hl with | [_, _, _], _ => rfl,
    m_Cells_put_lowest := ⟨a307, fn307, p307⟩,
    f_Cells_poke := F306,
    b_Cells_poke := F306.binds (ps := ["self", "word", "offset", "number"]) fun _ _ _ _ _ _ us hl => match us, hl with | [_, _, _, _], _ => rfl,
    m_Cells_poke := ⟨a306, fn306, p306⟩,
    f_Cells_store := F305,
    b_Cells_store := F305.binds (ps := ["self", "word", "offset", "what"]) fun _ _ _ _ _ _ us hl => match us, hl with | [_, _, _, _], _ => rfl,
    m_Cells_store := ⟨a305, fn305, p305⟩,
    f_Cells_load := F304,
    b_Cells_load := F304.binds (ps := ["self", "word", "offset"]) fun _ _ _ _ _ _ us hl => match us, hl with | [_, _, _], _ => rfl,
    m_Cells_load := ⟨a304, fn304, p304⟩,
    f_law_said := F21,
    b_law_said := F21.binds (ps := ["_law_cells", "_law_door", "_law_thing", "_law_word_here"]) fun _ _ _ _ _ _ us hl => match us, hl with | [_, _, _, _], _ => rfl,
    g_law_said := PySem.W.mg_of X G a21,
    f_law_odd_so := F22,
    b_law_odd_so := F22.binds (ps := ["_law_cells", "_law_word_here"]) fun _ _ _ _ _ _ us hl => match us, hl with | [_, _], _ => rfl,
    g_law_odd_so := PySem.W.mg_of X G a22,
    f_law_laid := F23,
    b_law_laid := F23.binds (ps := ["_law_pool_here", "_law_cells", "_law_book"]) fun _ _ _ _ _ _ us hl => match us, hl with | [_, _, _], _ => rfl,
    g_law_laid := PySem.W.mg_of X G a23,
    f_law_same := F24,
    b_law_same := F24.binds (ps := ["_law_cells", "_law_book"]) fun _ _ _ _ _ _ us hl => match us, hl with | [_, _], _ => rfl,
    g_law_same := PySem.W.mg_of X G a24,
    f_Cells_eq := F311,
    b_Cells_eq := F311.binds (ps := ["self", "other"]) fun _ _ _ _ _ _ us hl => match us, hl with | [_, _], _ => rfl,
    m_Cells_eq := ⟨a311, fn311, p311⟩,
    f_Cells_init := F300,
    b_Cells_init := F300.binds (ps := ["self"]) fun _ _ _ _ _ _ us hl => match us, hl with | [_], _ => rfl,
    m_Cells_init := ⟨a300, fn300, p300⟩,
    f_Cells_twin := F310,
    b_Cells_twin := F310.binds (ps := ["self"]) fun _ _ _ _ _ _ us hl => match us, hl with | [_], _ => rfl,
    m_Cells_twin := ⟨a310, fn310, p310⟩,
    f_law_emptied_so := F25,
    b_law_emptied_so := F25.binds (ps := ["_law_word_here"]) fun _ _ _ _ _ _ us hl => match us, hl with | [_], _ => rfl,
    g_law_emptied_so := PySem.W.mg_of X G a25,
    f_law := F26,
    b_law := F26.binds (ps := ["_law_script"]) fun _ _ _ _ _ _ us hl => match us, hl with | [_], _ => rfl,
    g_law := PySem.W.mg_of X G a26,
    cl_Cells := ⟨clp_Cells, clh_Cells, clo_Cells, cls_Cells⟩,
    k_Cells := PySem.W.mg_of X G gc_Cells,
    mk_Cells := ⟨mkm_Cells, a300, fn300, mkk_Cells⟩,
    nq_Cells := nq_Cells,
    nb_Cells := nb_Cells,
    na_Cells_own_cells := na_Cells_own_cells,
    c_CELLS := ⟨_, PySem.W.mg_of X G k_CELLS⟩,
    c_MOST_COUNT := ⟨_, PySem.W.mg_of X G k_MOST_COUNT⟩,
    c_MOST_STEP := ⟨_, PySem.W.mg_of X G k_MOST_STEP⟩,
    c_RIGHTS := ⟨_, PySem.W.mg_of X G k_RIGHTS⟩,
    c_WORDS := ⟨_, PySem.W.mg_of X G k_WORDS⟩,
    c_CELL_GROUP := ⟨_, PySem.W.mg_of X G k_CELL_GROUP⟩,
    c_NOTHING := ⟨_, PySem.W.mg_of X G k_NOTHING, [0, t1_NOTHING], n_NOTHING, sl_NOTHING, rfl, l_NOTHING, by decide⟩,
    c_LEAST_OFFSET := ⟨_, PySem.W.mg_of X G k_LEAST_OFFSET⟩,
    c_MOST_OFFSET := ⟨_, PySem.W.mg_of X G k_MOST_OFFSET⟩,
    c_POKED := ⟨_, PySem.W.mg_of X G k_POKED⟩,
    z_abs := PySem.W.mg_none_of X G z_abs,
    z_any := PySem.W.mg_none_of X G z_any,
    z_bool := PySem.W.mg_none_of X G z_bool,
    z_dict := PySem.W.mg_none_of X G z_dict,
    z_enumerate := PySem.W.mg_none_of X G z_enumerate,
    z_int := PySem.W.mg_none_of X G z_int,
    z_isinstance := PySem.W.mg_none_of X G z_isinstance,
    z_len := PySem.W.mg_none_of X G z_len,
    z_max := PySem.W.mg_none_of X G z_max,
    z_min := PySem.W.mg_none_of X G z_min,
    z_range := PySem.W.mg_none_of X G z_range,
    z_repr := PySem.W.mg_none_of X G z_repr,
    z_sorted := PySem.W.mg_none_of X G z_sorted,
    z_sum := PySem.W.mg_none_of X G z_sum,
    z_tuple := PySem.W.mg_none_of X G z_tuple,
    k_ReachError := PySem.W.mg_of X G g_ReachError,
    E_ReachError := ⟨E1_ReachError, E2_ReachError, E3_ReachError, E4_ReachError, E5_ReachError, E6, E7, E8_ReachError⟩,
    k_NoBounds := PySem.W.mg_of X G g_NoBounds,
    E_NoBounds := ⟨E1_NoBounds, E2_NoBounds, E3_NoBounds, E4_NoBounds, E5_NoBounds, E6, E7, E8_NoBounds⟩,
    k_NoOffset := PySem.W.mg_of X G g_NoOffset,
    E_NoOffset := ⟨E1_NoOffset, E2_NoOffset, E3_NoOffset, E4_NoOffset, E5_NoOffset, E6, E7, E8_NoOffset⟩,
    k_NoAddress := PySem.W.mg_of X G g_NoAddress,
    E_NoAddress := ⟨E1_NoAddress, E2_NoAddress, E3_NoAddress, E4_NoAddress, E5_NoAddress, E6, E7, E8_NoAddress⟩,
    k_NoWord := PySem.W.mg_of X G g_NoWord,
    E_NoWord := ⟨E1_NoWord, E2_NoWord, E3_NoWord, E4_NoWord, E5_NoWord, E6, E7, E8_NoWord⟩,
    k_Fault := PySem.W.mg_of X G g_Fault,
    E_Fault := ⟨E1_Fault, E2_Fault, E3_Fault, E4_Fault, E5_Fault, E6, E7, E8_Fault⟩,
    I_Cells := ⟨⟨clp_Cells, clh_Cells, clo_Cells, cls_Cells⟩, ic_Cells, E6, E7, im_Cells⟩,
    qo_Cells_Cells := kit_same,
    qf_NoneType_Cells := qf_NoneType_Cells,
    qf_bool_Cells := qf_bool_Cells,
    qf_int_Cells := qf_int_Cells,
    qf_str_Cells := qf_str_Cells,
    qf_tuple_Cells := qf_tuple_Cells,
    qf_list_Cells := qf_list_Cells,
    qf_dict_Cells := qf_dict_Cells,
    bc_ReachError := ⟨sp_ReachError, rd_ReachError, vl_ReachError⟩,
    fi_Fault := FI5,
    bi_Fault := FI5.binds (ps := ["self", "word"]) fun _ _ _ _ _ _ us hl => match us, hl with | [_, _], _ => rfl,
    t_Fault := ⟨⟨⟨_, _, _, _, _, _, _, _, _, _, _, _, _, _, _, xL_Fault, (by decide +kernel : PySem.HandSPX.refsVE [.type "ValueError", .type "Exception", .type "BaseException", .type "object"] = true)⟩, sa_Fault, u_Fault, y_Fault, p_Fault⟩, iC_Fault, tI_Fault, List.forall_mem_cons.mpr ⟨no_Fault_word, List.forall_mem_nil _⟩⟩,
    x_NoAddress := x_NoAddress,
    p_NoAddress := p_NoAddress,
    u_NoAddress := u_NoAddress,
    y_NoAddress := y_NoAddress,
    x_NoBounds := x_NoBounds,
    p_NoBounds := p_NoBounds,
    u_NoBounds := u_NoBounds,
    y_NoBounds := y_NoBounds,
    x_NoOffset := x_NoOffset,
    p_NoOffset := p_NoOffset,
    u_NoOffset := u_NoOffset,
    y_NoOffset := y_NoOffset,
    x_NoWord := x_NoWord,
    p_NoWord := p_NoWord,
    u_NoWord := u_NoWord,
    y_NoWord := y_NoWord,
    e_Fault_ReachError := e_Fault_ReachError,
    e_NoAddress_ReachError := e_NoAddress_ReachError,
    e_NoBounds_ReachError := e_NoBounds_ReachError,
    e_NoOffset_ReachError := e_NoOffset_ReachError,
    e_NoWord_ReachError := e_NoWord_ReachError,
    e_ReachError_ReachError := e_ReachError_ReachError,
    q_Fault_Cells := q_Fault_Cells,
    q_Fault_Fault := q_Fault_Fault,
    q_Fault_NoAddress := q_Fault_NoAddress,
    q_Fault_NoBounds := q_Fault_NoBounds,
    q_Fault_NoOffset := q_Fault_NoOffset,
    q_Fault_NoWord := q_Fault_NoWord,
    q_NoAddress_Cells := q_NoAddress_Cells,
    q_NoAddress_Fault := q_NoAddress_Fault,
    q_NoAddress_NoAddress := q_NoAddress_NoAddress,
    q_NoAddress_NoBounds := q_NoAddress_NoBounds,
    q_NoAddress_NoOffset := q_NoAddress_NoOffset,
    q_NoAddress_NoWord := q_NoAddress_NoWord,
    q_NoBounds_Cells := q_NoBounds_Cells,
    q_NoBounds_Fault := q_NoBounds_Fault,
    q_NoBounds_NoAddress := q_NoBounds_NoAddress,
    q_NoBounds_NoBounds := q_NoBounds_NoBounds,
    q_NoBounds_NoOffset := q_NoBounds_NoOffset,
    q_NoBounds_NoWord := q_NoBounds_NoWord,
    q_NoOffset_Cells := q_NoOffset_Cells,
    q_NoOffset_Fault := q_NoOffset_Fault,
    q_NoOffset_NoAddress := q_NoOffset_NoAddress,
    q_NoOffset_NoBounds := q_NoOffset_NoBounds,
    q_NoOffset_NoOffset := q_NoOffset_NoOffset,
    q_NoOffset_NoWord := q_NoOffset_NoWord,
    q_NoWord_Cells := q_NoWord_Cells,
    q_NoWord_Fault := q_NoWord_Fault,
    q_NoWord_NoAddress := q_NoWord_NoAddress,
    q_NoWord_NoBounds := q_NoWord_NoBounds,
    q_NoWord_NoOffset := q_NoWord_NoOffset,
    q_NoWord_NoWord := q_NoWord_NoWord,
    q_ReachError_Cells := q_ReachError_Cells,
    q_ReachError_Fault := q_ReachError_Fault,
    q_ReachError_NoAddress := q_ReachError_NoAddress,
    q_ReachError_NoBounds := q_ReachError_NoBounds,
    q_ReachError_NoOffset := q_ReachError_NoOffset,
    q_ReachError_NoWord := q_ReachError_NoWord }
  exact ⟨_, C, fun s v => .of_eq rfl, fun base _ _ => ok_law T⟩
end
theorem mulOk_of {i j : Int} (h : -18446744073709551616 < i) (h2 : i < 18446744073709551616) : mulOk i j = true := by unfold mulOk; simp [h, h2]
theorem take_eq {S : Store} {n : Nat} {a b many : Int} (hS : S[n]? = some (.lst [.int a, .int b])) (hb : 0 ≤ b) (hb2 : b < 2147483647) (hm : 0 < many) (hm2 : many < 18446744073709551616) :
    g_law_take [.loc n, .int many] S = if 0 < a then .ok (.int (a % many)) (S.set n (.lst [.int (a / many), .int b]))
      else .ok (.int ((b * 48271 + 11) % 2147483647 * ((b * 48271 + 11) % 2147483647) % 2147483629 / 16 % many)) (S.set n (.lst [.int a, .int ((b * 48271 + 11) % 2147483647)])) := by
  have hl : n < S.length := (List.getElem?_eq_some_iff.mp hS).1
  have hset : ∀ o : MO, (S.set n o)[n]? = some o := fun o => List.getElem?_set_self hl
  have hb3 : mulOk b 48271 = true := mulOk_of (by omega) (by omega)
  have hb4 : mulOk ((b * 48271 + 11) % 2147483647) ((b * 48271 + 11) % 2147483647) = true := mulOk_of (by omega) (by omega)
  unfold g_law_take runDef m_law_take
  simp [ixD, atI, ixN, hS, putIx, hm, hm2, hb3, hb4, hset]
def PoolAt (S : Store) (n : Nat) : Prop := ∃ a b : Int, S[n]? = some (.lst [.int a, .int b]) ∧ 0 ≤ a ∧ 0 ≤ b ∧ b < 2147483647
theorem take_ok {S : Store} {n : Nat} (many : Int) (h : PoolAt S n) (hm : 0 < many) (hm2 : many < 18446744073709551616) : ∃ r S', g_law_take [.loc n, .int many] S = .ok (.int r) S' ∧ 0 ≤ r ∧ r < many ∧ PoolAt S' n ∧ ∃ o, S' = S.set n o := by
  obtain ⟨a, b, hS, ha, hb, hb2⟩ := h
  have hl : n < S.length := (List.getElem?_eq_some_iff.mp hS).1
  rw [take_eq hS hb hb2 hm hm2]
  split
  · exact ⟨_, _, rfl, Int.emod_nonneg _ (by omega), Int.emod_lt_of_pos _ hm, ⟨_, _, List.getElem?_set_self hl, Int.ediv_nonneg ha (by omega), hb, hb2⟩, _, rfl⟩
  · exact ⟨_, _, rfl, Int.emod_nonneg _ (by omega), Int.emod_lt_of_pos _ hm, ⟨_, _, List.getElem?_set_self hl, ha, by omega, by omega⟩, _, rfl⟩
theorem atI_map (ns : List Int) (k : Int) (h : 0 ≤ k) (h2 : k < ns.length) : atI (ns.map D.int) k = some (.int (ns.getD k.toNat 0)) := by
  have h3 : k.toNat < ns.length := by omega
  simp [atI, ixN, h, h2, List.getD, h3]
theorem pool_ok (ns : List Int) (k : Int) (S : Store) (hk : 0 ≤ k) (hk2 : k < 1000) : ∃ a b : Int, 0 ≤ a ∧ 0 ≤ b ∧ b < 2147483647 ∧ g_law_pool [.lst (ns.map D.int), .int k] S = .ok (.loc S.length) (S ++ [.lst [.int a, .int b]]) := by
  have m1 : ∀ x, mulOk 7 x = true := fun x => mulOk_of (by omega) (by omega)
  have m2 : mulOk 7919 k = true := mulOk_of (by omega) (by omega)
  have m3 : mulOk (7919 * k) k = true := mulOk_of (by omega) (by omega)
  have m4 : mulOk 31 k = true := mulOk_of (by omega) (by omega)
  have kk : 0 ≤ 7919 * k * k ∧ 7919 * k * k < 7919000000 := by
    have h1 : 0 ≤ k * k := Int.mul_nonneg hk hk
    have h2 : k * k ≤ 999 * 999 := Int.mul_le_mul (by omega) (by omega) hk (by omega)
    have e : 7919 * k * k = 7919 * (k * k) := Int.mul_assoc ..
    rw [e]
    omega
  have fin : ∀ c : Int, ∃ a b : Int, 0 ≤ a ∧ 0 ≤ b ∧ b < 2147483647 ∧
      ((sSeq (sSet 3 (rCal absD (rCons (rVar 2) rNil)))
                      (sSeq
                        (sSet 4
                          (rBin modD
                            (rBin mulD
                              (rBin addD
                                (rBin addD
                                  (rBin addD (rBin modD (rVar 3) (rCon (D.int 2147483629)))
                                    (rBin mulD (rBin mulD (rCon (D.int 7919)) (rVar 1)) (rVar 1)))
                                  (rBin mulD (rCon (D.int 31)) (rVar 1)))
                                (rCon (D.int 17)))
                              (rCon (D.int 48271)))
                            (rCon (D.int 2147483647))))
                        (sRet
                          (rLstM
                            (rCons
                              (rBin mulD (rVar 3)
                                (rCal intD
                                  (rCons (rBin geD (rVar 3) (rBin powD (rCon (D.int 10)) (rCon (D.int 18)))) rNil)))
                              (rCons (rBin modD (rBin mulD (rVar 4) (rVar 4)) (rCon (D.int 2147483629)))
                                rNil)))))) [some (D.lst (List.map D.int ns)), some (D.int k), some (.int c), none, none] S).res = Res.ok (D.loc (List.length S)) (S ++ [MO.lst [D.int a, D.int b]]) := fun c => by
    generalize hg : (if c < 0 then -c else c) = z
    have hz : 0 ≤ z := by rw [← hg]; split <;> omega
    have m5 : mulOk (z % 2147483629 + 7919 * k * k + 31 * k + 17) 48271 = true := mulOk_of (by omega) (by omega)
    generalize hy : (z % 2147483629 + 7919 * k * k + 31 * k + 17) * 48271 % 2147483647 = y
    have hy0 : 0 ≤ y := by omega
    have hy1 : y < 2147483647 := by omega
    have m6 : mulOk y y = true := mulOk_of (by omega) (by omega)
    have m7 : ∀ b : Bool, mulOk z (if b = true then 1 else 0) = true := fun b => by cases b <;> simp [mulOk]
    have p1 : powOk 10 18 = true := by decide
    have m8 := m7 (decide (10 ^ 18 ≤ z))
    simp at m8
    refine ⟨if 1000000000000000000 ≤ z then z else 0, y * y % 2147483629, ?_, by omega, by omega, ?_⟩
    · split <;> omega
    · simp [hg, m2, m3, m4, m5, hy, m6, p1, m8]
      split <;> simp
  unfold g_law_pool runDef m_law_pool
  by_cases hlt : k < ns.length
  · obtain ⟨a, b, h1, h2, h3, h4⟩ := fin (ns.getD k.toNat 0)
    refine ⟨a, b, h1, h2, h3, ?_⟩
    rw [← h4]
    simp [slD, sumD, cutD, HT.sIx, ← List.map_take, allI_map, m1, hlt, ixD, atI_map ns k hk hlt]
  · obtain ⟨a, b, h1, h2, h3, h4⟩ := fin (7 * (ns.take (min 63 ns.length)).sum + k)
    refine ⟨a, b, h1, h2, h3, ?_⟩
    rw [← h4]
    simp [slD, sumD, cutD, HT.sIx, ← List.map_take, allI_map, m1, hlt]
def Typed (S : Store) (d : D) : Prop := ∃ t, tyD S d = some t
def isW : D → Bool
  | .int _ => true
  | _ => false
theorem isi_loc_int {S : Store} {n : Nat} (h : Typed S (.loc n)) : isiD "int" S (.loc n) = some (.bl false) := by
  obtain ⟨t, h⟩ := h
  have h2 := h
  simp only [tyD] at h2
  split at h2 <;> cases h2
  · exact isiD_of h (by decide +kernel)
  · exact isiD_of h (by decide +kernel)
theorem is_whole_eq {S : Store} {d : D} (h : Typed S d) : g_is_whole [d] S = .ok (.bl (isW d)) S := by
  unfold g_is_whole runDef m_is_whole
  cases d with
  | loc n => simp [isi_loc_int h, isW]
  | exn c ns xs => obtain ⟨t, h⟩ := h; cases h
  | dcT ks xs => obtain ⟨t, h⟩ := h; cases h
  | _ => simp [isW]
def noB : Exn := ⟨cl_NoBounds, [], []⟩
def bnd : D → D → Option (Int × Int)
  | .int l, .int h => if 0 ≤ l ∧ l < h ∧ h ≤ 4096 then some (l, h) else none
  | _, _ => none
theorem look_eq {S : Store} {a b : D} (h1 : Typed S a) (h2 : Typed S b) : g_look_at_bounds [a, b] S = if (bnd a b).isSome = true then .ok .non S else .err noB S := by
  unfold g_look_at_bounds runDef m_look_at_bounds
  have e1 := is_whole_eq h1
  have e2 := is_whole_eq h2
  cases ha : isW a with
  | false =>
    have hb : bnd a b = none := by cases a <;> cases b <;> first | rfl | simp [isW] at ha
    rw [ha] at e1
    simp [e1, hb, noB]
  | true =>
    rw [ha] at e1
    cases hb : isW b with
    | false =>
      have hb' : bnd a b = none := by cases a <;> cases b <;> first | rfl | simp [isW] at ha hb
      rw [hb] at e2
      simp [e1, e2, hb', noB]
    | true =>
      rw [hb] at e2
      obtain ⟨l, rfl⟩ : ∃ l, a = .int l := by cases a <;> first | exact ⟨_, rfl⟩ | simp [isW] at ha
      obtain ⟨h, rfl⟩ : ∃ l, b = .int l := by cases b <;> first | exact ⟨_, rfl⟩ | simp [isW] at hb
      simp [e1, e2, bnd, noB]
      by_cases c1 : 0 ≤ l <;> by_cases c2 : l < h <;> by_cases c3 : h ≤ 4096 <;> simp [c1, c2, c3]
def cdv (h : Int) (s : Nat) : Int := -(-h / 2 ^ s)
def cnt (l h : Int) (s : Nat) : Int := cdv h s - l / 2 ^ s
def fstep (l h : Int) : Nat → Nat → Nat
  | 0, s => s
  | n + 1, s => if 16 < cnt l h s then fstep l h n (s + 1) else s
def stp (l h : Int) : Nat := fstep l h 8 0
theorem cnt8 {l h : Int} (h0 : 0 ≤ l) (h2 : h ≤ 4096) : cnt l h 8 ≤ 16 := by
  unfold cnt cdv
  have e : (2 : Int) ^ 8 = 256 := by decide
  rw [e]
  omega
theorem fstep_spec (l h : Int) : ∀ (n s : Nat), cnt l h (s + n) ≤ 16 → cnt l h (fstep l h n s) ≤ 16 ∧ s ≤ fstep l h n s ∧ fstep l h n s ≤ s + n ∧ ∀ t, s ≤ t → t < fstep l h n s → 16 < cnt l h t
  | 0, s, hc => ⟨hc, Nat.le_refl _, Nat.le_refl _, fun t h1 h2 => absurd h2 (by simp only [fstep]; omega)⟩
  | n + 1, s, hc => by
    unfold fstep
    split
    · rename_i hs
      obtain ⟨h1, h2, h3, h4⟩ := fstep_spec l h n (s + 1) (by rw [show s + 1 + n = s + (n + 1) by omega]; exact hc)
      exact ⟨h1, by omega, by omega, fun t a b => by
        by_cases e : t = s
        · subst e; exact hs
        · exact h4 t (by omega) b⟩
    · rename_i hs
      exact ⟨by omega, Nat.le_refl _, by omega, fun t a b => by omega⟩
theorem stp_spec {l h : Int} (h0 : 0 ≤ l) (h2 : h ≤ 4096) : cnt l h (stp l h) ≤ 16 ∧ stp l h ≤ 8 ∧ ∀ t, t < stp l h → 16 < cnt l h t := by
  obtain ⟨h1, _, h3, h4⟩ := fstep_spec l h 8 0 (cnt8 h0 h2)
  exact ⟨h1, by unfold stp; omega, fun t a => h4 t (Nat.zero_le _) a⟩
def lhl (l h : Int) : Int := l / 2 ^ stp l h * 2 ^ stp l h
def lhh (l h : Int) : Int := cdv h (stp l h) * 2 ^ stp l h
theorem pow_pos (s : Nat) : (0 : Int) < 2 ^ s := Int.pow_pos (by decide)
theorem from_eq {f c : Int} {s : Nat} {S : Store} (hs : s ≤ 8) (hf : f.natAbs < 4294967296) (hc : c.natAbs < 4294967296) : g_from_bits [.int s, .int f, .int c] S = .ok (.tup [.int (f * 2 ^ s), .int ((f + c) * 2 ^ s)]) S := by
  have p1 : powOk f s = true := by unfold powOk; simp; omega
  have p2 : powOk (f + c) s = true := by unfold powOk; simp; omega
  unfold g_from_bits runDef m_from_bits
  simp [p1, p2]
theorem div_bnd {l : Int} (s : Nat) (h0 : 0 ≤ l) (h1 : l ≤ 4096) : 0 ≤ l / 2 ^ s ∧ l / 2 ^ s ≤ 4096 := by
  have p := pow_pos s
  refine ⟨Int.ediv_nonneg h0 (by omega), Int.le_trans (Int.ediv_le_self _ h0) h1⟩
theorem cdv_le {h : Int} (s : Nat) : h ≤ cdv h s * 2 ^ s := by
  unfold cdv
  have p := pow_pos s
  have := Int.ediv_mul_le (-h) (Int.ne_of_gt p)
  rw [Int.neg_mul]
  omega
theorem cdv_lt {h : Int} (s : Nat) : cdv h s * 2 ^ s < h + 2 ^ s := by
  unfold cdv
  have p := pow_pos s
  have := Int.lt_ediv_add_one_mul_self (-h) p
  rw [Int.neg_mul]
  rw [Int.add_mul, Int.one_mul] at this
  omega
theorem cdv_pos {h : Int} (s : Nat) (h0 : 0 < h) : 0 < cdv h s := by
  have p := pow_pos s
  have a := cdv_le (h := h) s
  by_cases z : 0 < cdv h s
  · exact z
  · have : cdv h s * 2 ^ s ≤ 0 := Int.mul_nonpos_of_nonpos_of_nonneg (by omega) (by omega)
    omega
theorem cdv_bnd {h : Int} (s : Nat) (h0 : 0 < h) (h1 : h ≤ 4096) : 0 < cdv h s ∧ cdv h s ≤ 4096 := by
  refine ⟨cdv_pos s h0, ?_⟩
  have p := pow_pos s
  have b := cdv_lt (h := h) s
  by_cases z : cdv h s ≤ h
  · omega
  · have : (h + 1) * 2 ^ s ≤ cdv h s * 2 ^ s := Int.mul_le_mul_of_nonneg_right (by omega) (by omega)
    rw [Int.add_mul, Int.one_mul] at this
    have : h * 1 ≤ h * 2 ^ s := Int.mul_le_mul_of_nonneg_left (by omega) (by omega)
    omega
def exb (l h : Int) : Bool := lhl l h == l && lhh l h == h
def fnd (c : Nat → Bool) : Nat → Nat → Nat
  | 0, s => s
  | n + 1, s => if c s = true then fnd c n (s + 1) else s
theorem while_fnd {tc : RT} {body : RS} {E : Nat → Ev.Env} {S : Store} {c : Nat → Bool} (N : Nat) (ht : ∀ s, s ≤ N → tc (E s) S = .ok (c s) S) (hb : ∀ s, s < N → body (E s) S = .nx (E (s + 1)) S) :
    ∀ (n s m : Nat), s + n ≤ N → c (s + n) = false → n < m → whileN tc body m (E s) S = .nx (E (fnd c n s)) S
  | 0, s, 0, _, hc, hm => by omega
  | n + 1, s, 0, _, hc, hm => by omega
  | 0, s, m + 1, hN, hc, hm => by
    have h0 : c s = false := hc
    simp [whileN, ht s (by omega), h0, fnd]
  | n + 1, s, m + 1, hN, hc, hm => by
    simp only [whileN, ht s (by omega), fl_ok]
    cases h0 : c s with
    | false => simp [fnd, h0]
    | true =>
      have ih := while_fnd N ht hb n (s + 1) m (by omega) (by rw [show s + 1 + n = s + (n + 1) by omega]; exact hc) (by omega)
      simp [hb s (by omega), fnd, h0, ih]
theorem fstep_fnd (l h : Int) : ∀ (n s : Nat), fstep l h n s = fnd (fun s => decide (16 < cnt l h s)) n s
  | 0, s => rfl
  | n + 1, s => by simp only [fstep, fnd, decide_eq_true_eq, fstep_fnd l h n (s + 1)]
theorem uniqW {a b p h : Int} (hp : 0 < p) (h1 : h ≤ a * p) (h2 : a * p < h + p) (h3 : h ≤ b * p) (h4 : b * p < h + p) : a = b := by
  have e1 : a * p < (b + 1) * p := by rw [Int.add_mul, Int.one_mul]; omega
  have e2 : b * p < (a + 1) * p := by rw [Int.add_mul, Int.one_mul]; omega
  have f1 := Int.lt_of_mul_lt_mul_right e1 (by omega)
  have f2 := Int.lt_of_mul_lt_mul_right e2 (by omega)
  omega
theorem cdv_pred {h : Int} (s : Nat) : (h - 1) / 2 ^ s + 1 = cdv h s := by
  have p := pow_pos s
  have a := cdv_le (h := h) s
  have b := cdv_lt (h := h) s
  have c := Int.ediv_mul_le (h - 1) (Int.ne_of_gt p)
  have d := Int.lt_ediv_add_one_mul_self (h - 1) p
  have e : ((h - 1) / 2 ^ s + 1) * 2 ^ s = (h - 1) / 2 ^ s * 2 ^ s + 2 ^ s := by rw [Int.add_mul, Int.one_mul]
  exact uniqW (h := h) p (by omega) (by omega) a b
theorem cdv_gt {m : Int} (s : Nat) (k : Int) : k < cdv m s ↔ k * 2 ^ s < m := by
  have p := pow_pos s
  have a := cdv_le (h := m) s
  have b := cdv_lt (h := m) s
  constructor
  · intro h
    have : (k + 1) * 2 ^ s ≤ cdv m s * 2 ^ s := Int.mul_le_mul_of_nonneg_right (by omega) (by omega)
    rw [Int.add_mul, Int.one_mul] at this
    omega
  · intro h
    exact Int.lt_of_mul_lt_mul_right (Int.lt_of_lt_of_le h a) (by omega)
theorem cdv_le_iff {m : Int} (s : Nat) (k : Int) : cdv m s ≤ k ↔ m ≤ k * 2 ^ s := by
  have := cdv_gt (m := m) s k
  omega
theorem le_div_iff {l : Int} (s : Nat) (k : Int) : k ≤ l / 2 ^ s ↔ k * 2 ^ s ≤ l := Int.le_ediv_iff_mul_le (pow_pos s)
theorem cdv_mul (k : Int) (s : Nat) : cdv (k * 2 ^ s) s = k := by
  have p := pow_pos s
  exact uniqW (h := k * 2 ^ s) p (cdv_le s) (cdv_lt s) (Int.le_refl _) (by omega)
theorem div_mul' (k : Int) (s : Nat) : k * 2 ^ s / 2 ^ s = k := Int.mul_ediv_cancel _ (Int.ne_of_gt (pow_pos s))
theorem stp_le {l h : Int} {s : Nat} (h0 : 0 ≤ l) (h2 : h ≤ 4096) (hc : cnt l h s ≤ 16) : stp l h ≤ s := by
  obtain ⟨_, _, c⟩ := stp_spec h0 h2
  by_cases z : stp l h ≤ s
  · exact z
  · have := c s (by omega)
    omega
theorem cnt_le {l h a b : Int} {s : Nat} (h1 : a * 2 ^ s ≤ l) (h2 : h ≤ b * 2 ^ s) : cnt l h s ≤ b - a := by
  unfold cnt
  have e1 := (le_div_iff (l := l) s a).mpr h1
  have e2 := (cdv_le_iff (m := h) s b).mpr h2
  omega
theorem pow_split {t s : Nat} (h : t ≤ s) : (2 : Int) ^ s = 2 ^ (s - t) * 2 ^ t := by rw [← Int.pow_add]; congr 1; omega
theorem held_within {l h a b : Int} {s : Nat} (h0 : 0 ≤ l) (h2 : h ≤ 4096) (h3 : a * 2 ^ s ≤ l) (h4 : h ≤ b * 2 ^ s) (h5 : b - a ≤ 16) : a * 2 ^ s ≤ lhl l h ∧ lhh l h ≤ b * 2 ^ s := by
  have hs := stp_le (s := s) h0 h2 (Int.le_trans (cnt_le h3 h4) h5)
  unfold lhl lhh
  generalize stp l h = t at *
  have p := pow_pos t
  rw [pow_split hs] at *
  constructor
  · rw [← Int.mul_assoc] at h3 ⊢
    exact Int.mul_le_mul_of_nonneg_right ((le_div_iff t _).mpr h3) (by omega)
  · rw [← Int.mul_assoc] at h4 ⊢
    exact Int.mul_le_mul_of_nonneg_right ((cdv_le_iff t _).mpr h4) (by omega)
theorem held_holds (l h : Int) : lhl l h ≤ l ∧ h ≤ lhh l h := by
  unfold lhl lhh
  exact ⟨Int.ediv_mul_le _ (Int.ne_of_gt (pow_pos _)), cdv_le _⟩
theorem exact_of {a b : Int} {s : Nat} (h0 : 0 ≤ a * 2 ^ s) (h2 : b * 2 ^ s ≤ 4096) (h5 : b - a ≤ 16) : lhl (a * 2 ^ s) (b * 2 ^ s) = a * 2 ^ s ∧ lhh (a * 2 ^ s) (b * 2 ^ s) = b * 2 ^ s := by
  obtain ⟨e1, e2⟩ := held_within (l := a * 2 ^ s) (h := b * 2 ^ s) h0 h2 (Int.le_refl _) (Int.le_refl _) h5
  obtain ⟨e3, e4⟩ := held_holds (a * 2 ^ s) (b * 2 ^ s)
  omega
theorem exb_of {a b : Int} {s : Nat} (h0 : 0 ≤ a * 2 ^ s) (h2 : b * 2 ^ s ≤ 4096) (h5 : b - a ≤ 16) : exb (a * 2 ^ s) (b * 2 ^ s) = true := by
  obtain ⟨e1, e2⟩ := exact_of h0 h2 h5
  unfold exb
  simp [e1, e2]
theorem top_mul {s : Nat} (h : s ≤ 8) : ∃ k : Int, 4096 = k * 2 ^ s := by
  refine ⟨2 ^ (12 - s), ?_⟩
  rw [← Int.pow_add, show 12 - s + s = 12 by omega]
  decide
theorem lhh_le {l h : Int} (h0 : 0 ≤ l) (h2 : h ≤ 4096) : lhh l h ≤ 4096 := by
  obtain ⟨_, s2, _⟩ := stp_spec h0 h2
  obtain ⟨k, hk⟩ := top_mul s2
  unfold lhh
  have := (cdv_le_iff (m := h) (stp l h) k).mpr (by rw [← hk]; exact h2)
  rw [hk]
  exact Int.mul_le_mul_of_nonneg_right this (Int.le_of_lt (pow_pos _))
theorem lhl_nn {l h : Int} (h0 : 0 ≤ l) : 0 ≤ lhl l h := Int.mul_nonneg (Int.ediv_nonneg h0 (Int.le_of_lt (pow_pos _))) (Int.le_of_lt (pow_pos _))
theorem held_exact {l h : Int} (h0 : 0 ≤ l) (h2 : h ≤ 4096) : exb (lhl l h) (lhh l h) = true := by
  obtain ⟨s1, s2, _⟩ := stp_spec h0 h2
  exact exb_of (lhl_nn h0) (lhh_le h0 h2) s1
theorem exb_iff {l h : Int} : exb l h = true ↔ lhl l h = l ∧ lhh l h = h := by unfold exb; simp
def RG : List Nat := [114, 119, 108, 115, 110, 102, 120, 99, 111]
def rg (i : Nat) : Nat := RG.getD i 0
def sC (l : List Nat) : Str := ⟨l.toArray⟩
def pk (p : Nat → Bool) : List Nat := ((List.range 9).filter p).map rg
def rc (m : Nat) : List Nat := pk m.testBit
@[irreducible] def rs (m : Nat) : Str := sC (rc m)
theorem rs_eq (m : Nat) : rs m = sC (rc m) := by unfold rs; rfl
theorem lit_RG : (Str.ofString "rwlsnfxco") = sC RG := by decide +kernel
theorem lit_cell : (Str.ofString "rwlsn") = sC [114, 119, 108, 115, 110] := by decide +kernel
theorem lit_nil : (Str.ofString "") = sC [] := by decide +kernel
theorem signs_sC (l : List Nat) : signsD (sC l) = l.map fun c => D.str (sC [c]) := by simp [signsD, sC]
theorem in_one (c : Nat) (l : List Nat) : strIn (sC [c]) (sC l) = decide (c ∈ l) := by
  have h := StrLaws.found_one (sC l) c
  unfold strIn
  refine Eq.trans h ?_
  rw [decide_eq_decide]
  simp [sC]
theorem strsD_map (l : List Nat) : strsD (l.map fun c => D.str (sC [c])) = some (l.map fun c => sC [c]) := by
  induction l with
  | nil => rfl
  | cons c r ih => simp [strsD, ih]
theorem join_ones (l : List Nat) : Txt.join (sC []) (l.map fun c => sC [c]) = sC l := by
  unfold PySem.Txt.join
  rw [StrLaws.glued_eq_join]
  refine TL.ext_tl ?_
  rw [TL.tl_join]
  induction l with
  | nil => rfl
  | cons c r ih =>
    cases r with
    | nil => rfl
    | cons d r =>
      simp only [List.map_cons, TL.joinL] at ih ⊢
      rw [ih]
      rfl
theorem lcL_map {α : Type} {t : Tg} {c : RT} {elt : RE} {e0 : Ev.Env} {S : Store} (h : α → D) (E : α → Ev.Env) (p : α → Bool) (f : α → D) : ∀ (xs : List α), (∀ x ∈ xs, bindT S (h x) e0 t = some (E x) ∧ c (E x) S = .ok (p x) S ∧ (p x = true → elt (E x) S = .ok (f x) S)) →
    lcL t c elt e0 (xs.map h) S = .ok ((xs.filter p).map f) S
  | [], _ => rfl
  | x :: xs, hx => by
    obtain ⟨h1, h2, h3⟩ := hx x List.mem_cons_self
    have ih := lcL_map (t := t) (c := c) (elt := elt) (e0 := e0) (S := S) h E p f xs fun y hy => hx y (List.mem_cons_of_mem _ hy)
    simp only [List.map_cons, lcL, h1, h2, bind_ok]
    cases hp : p x with
    | false => simp [hp, ih]
    | true => simp [hp, h3 hp, ih]
theorem rLc_map {α : Type} {it : RA} {t : Tg} {vs : List Nat} {c : RT} {elt : RE} {e : Ev.Env} {S : Store} {h : α → D} {xs : List α} (E : α → Ev.Env) (p : α → Bool) (f : α → D) (hi : it e S = .ok (xs.map h) S) (hl : xs.length ≤ sizeLine)
    (hx : ∀ x ∈ xs, bindT S (h x) (wipeE e vs) t = some (E x) ∧ c (E x) S = .ok (p x) S ∧ (p x = true → elt (E x) S = .ok (f x) S)) : rLc frzL it t vs c elt e S = .ok (.lst ((xs.filter p).map f)) S := by
  unfold rLc
  rw [hi, bind_ok, if_pos (by rw [List.length_map]; exact hl), lcL_map h E p f xs hx]
  rfl
theorem len_small {n : Nat} (h : n ≤ 1000000) : n ≤ sizeLine := Nat.le_trans h (by decide)
def bAt (b : Int) : Int := b % 4096
def bFst (b : Int) : Int := b / 4096 % 4096
def bCnt (b : Int) : Int := b / 16777216 % 16 + 1
def bStp (b : Int) : Nat := (b / 268435456 % 16).toNat
def bMsk (b : Int) : Nat := (b / 4294967296 % 512).toNat
def bKnd (b : Int) : Int := b / 2199023255552
def tells (b : Int) : Bool := decide (bStp b ≤ 8) && ((bStp b == 0) || decide (8 < bCnt b)) && decide ((bFst b + bCnt b) * 2 ^ bStp b ≤ 4096)
def bLow (b : Int) : Int := bFst b * 2 ^ bStp b
def bHigh (b : Int) : Int := (bFst b + bCnt b) * 2 ^ bStp b
def fD (b : Int) : D := if tells b = true then .tup [.int (bLow b), .int (bHigh b), .int (bAt b), .str (rs (bMsk b)), .int (bKnd b)] else .non
theorem and_4095 (x : Int) : Builtin.bitAnd x 4095 = x % 4096 := PySem.W.kbt_mask x 12
theorem and_15 (x : Int) : Builtin.bitAnd x 15 = x % 16 := PySem.W.kbt_mask x 4
theorem and_1 (x : Int) : Builtin.bitAnd x 1 = x % 2 := PySem.W.kbt_mask x 1
theorem msk_bit {b : Int} (h : 0 ≤ b) (i : Nat) (hi : i < 9) : (bMsk b).testBit i = decide (b / 2 ^ (32 + i) % 2 = 1) := by
  obtain ⟨n, rfl⟩ := Int.eq_ofNat_of_zero_le h
  have e : bMsk (n : Int) = n / 2 ^ 32 % 2 ^ 9 := by
    unfold bMsk
    have : ((n : Int) / 4294967296 % 512) = ((n / 4294967296 % 512 : Nat) : Int) := by omega
    rw [this]
    rfl
  rw [e, Nat.testBit_mod_two_pow, Nat.testBit_div_two_pow, Nat.testBit_eq_decide_div_mod_eq]
  simp only [hi, decide_true, Bool.true_and]
  rw [decide_eq_decide]
  have : ((n : Int) / 2 ^ (32 + i) % 2) = ((n / 2 ^ (32 + i) % 2 : Nat) : Int) := by
    rw [Int.natCast_emod, Int.natCast_ediv, Int.natCast_pow]
    rfl
  rw [this, Nat.add_comm i 32]
  omega
theorem enum_RG : enumD [.str (sC RG)] = some ((List.range 9).map fun i => D.tup [.int (i : Nat), .str (sC [rg i])]) := by
  show some (List.mapIdx (fun i d => D.tup [D.int (i : Nat), d]) (signsD (sC RG))) = _
  rw [signs_sC]
  rfl
theorem pk_map (p : Nat → Bool) : ((List.range 9).filter p).map (fun i => D.str (sC [rg i])) = (pk p).map fun c => D.str (sC [c]) := by
  unfold pk
  rw [List.map_map]
  rfl
theorem pk_congr {p q : Nat → Bool} (h : ∀ i, i < 9 → p i = q i) : pk p = pk q := by
  unfold pk
  congr 1
  exact List.filter_congr fun i hi => h i (List.mem_range.mp hi)
theorem pk_len (p : Nat → Bool) : (pk p).length ≤ 9 := by
  unfold pk
  rw [List.length_map]
  exact Nat.le_trans (List.length_filter_le _ _) (by simp)
theorem joinOk_ones (l : List Nat) (h : l.length ≤ 1000000) : joinOk (sC []) (l.map fun c => sC [c]) = true := by
  unfold joinOk
  rw [decide_eq_true_eq, List.map_map]
  have e : (l.map ((fun x : Str => x.length) ∘ fun c => sC [c])).sum = l.length := by
    induction l with
    | nil => rfl
    | cons c r ih =>
      rw [List.map_cons, List.sum_cons, ih (by simp at h; omega), List.length_cons]
      show 1 + r.length = r.length + 1
      omega
  rw [e]
  show l.length + _ * 0 ≤ _
  omega
theorem joinD_ones {S : Store} (l : List Nat) (h : l.length ≤ 1000000) : joinD S (.str (sC [])) [.lst (l.map fun c => D.str (sC [c]))] = some (.str (sC l), S) := by
  unfold joinD
  simp only [seqD, asL, Option.bind_some, strsD_map, joinOk_ones l h, if_true, join_ones]
theorem rMth_join {o : RE} {as : RA} {e : Ev.Env} {S S1 : Store} {l : List Nat} (ho : o e S = .ok (.str (sC [])) S) (ha : as e S = .ok [.lst (l.map fun c => D.str (sC [c]))] S1) (h : l.length ≤ 1000000) : rMth "str" joinD o as e S = .ok (.str (sC l)) S1 := by
  unfold rMth
  rw [ho, bind_ok, if_pos (show tyM S (D.str (sC [])) = some "str" from rfl), ha, bind_ok, joinD_ones l h]
  rfl
theorem rights_in_eq {b : Int} {S : Store} (h : 0 ≤ b) : g_rights_in [.int b] S = .ok (.str (rs (bMsk b))) S := by
  have lc := rLc_map (it := rRan enumD (rCons (rCon (.str "rwlsnfxco")) rNil)) (t := .tp [1, 2]) (vs := [1, 2])
    (c := rTest (rBin eqD (rBin andD (rBin shrD (rVar 0) (rBin addD (rCon (.int 32)) (rVar 1))) (rCon (.int 1))) (rCon (.int 1)))) (elt := rVar 2)
    (e := [some (.int b), none, none]) (S := S) (h := fun i => D.tup [.int (i : Nat), .str (sC [rg i])]) (xs := List.range 9)
    (fun i => [some (.int b), some (.int (i : Nat)), some (.str (sC [rg i]))]) (bMsk b).testBit (fun i => .str (sC [rg i]))
    (by simp only [rRan_eq, rCons_eq, rCon_eq, rNil_eq, bind_ok, lit_RG, enum_RG, ofO_some]) (by simp; decide)
    (fun i hi => by
      have hi9 := List.mem_range.mp hi
      refine ⟨rfl, ?_, fun _ => rfl⟩
      rw [msk_bit h i hi9]
      have e1 : ((32 : Int) + (i : Nat)).toNat = 32 + i := by omega
      have e2 : (0 : Int) ≤ 32 + (i : Nat) := by omega
      simp [e1, e2, and_1]
      rfl)
  rw [pk_map] at lc
  unfold g_rights_in runDef m_rights_in
  rw [rs_eq]
  have m := rMth_join (o := rCon (.str "")) (as := rCons (rLc frzL (rRan enumD (rCons (rCon (.str "rwlsnfxco")) rNil)) (.tp [1, 2]) [1, 2] (rTest (rBin eqD (rBin andD (rBin shrD (rVar 0) (rBin addD (rCon (.int 32)) (rVar 1))) (rCon (.int 1))) (rCon (.int 1)))) (rVar 2)) rNil)
    (e := [some (.int b), none, none]) (S := S) (S1 := S) (l := rc (bMsk b)) (by rw [rCon_eq, lit_nil]) (by rw [rCons_eq, lc, bind_ok, rNil_eq, bind_ok]; rfl) (Nat.le_trans (pk_len _) (by decide))
  have e : List.map some [D.int b] ++ List.replicate (3 - [D.int b].length) none = [some (.int b), none, none] := rfl
  rw [e, sRet_eq, m]
  rfl
theorem p2 (s : Nat) : (2 : Int) ^ s = ((2 ^ s : Nat) : Int) := by rw [Int.natCast_pow]; rfl
theorem fields_eq {b : Int} {m : D} {S : Store} (h : 0 ≤ b) : g_fields_of [.tup [m, .int b]] S = .ok (fD b) S := by
  have e12 : (2 : Int) ^ (12 : Nat) = 4096 := by decide
  have e24 : (2 : Int) ^ (24 : Nat) = 16777216 := by decide
  have e28 : (2 : Int) ^ (28 : Nat) = 268435456 := by decide
  have e41 : (2 : Int) ^ (41 : Nat) = 2199023255552 := by decide
  have hs : b / 268435456 % 16 = ((bStp b : Nat) : Int) := by unfold bStp; omega
  have hs2 : bStp b < 16 := by unfold bStp; omega
  have f0 : 0 ≤ bFst b ∧ bFst b < 4096 := by unfold bFst; omega
  have c0 : 1 ≤ bCnt b ∧ bCnt b ≤ 16 := by unfold bCnt; omega
  have pf : powOk (bFst b + bCnt b) (bStp b) = true := by unfold powOk; simp; omega
  have fr := fun hs8 => from_eq (f := bFst b) (c := bCnt b) (s := bStp b) (S := S) hs8 (by omega) (by omega)
  have ri := rights_in_eq (b := b) (S := S) h
  unfold g_fields_of runDef m_fields_of
  have ix : ixD S (.tup [m, .int b]) (.int 1) = some (.int b) := by simp [ixD, atI, ixN]
  have x1 : b / 4096 % 4096 = bFst b := rfl
  have x2 : b / 16777216 % 16 + 1 = bCnt b := rfl
  simp [ix, and_4095, and_15, e12, e24, e28, e41, x1, x2, hs, pf]
  unfold fD tells
  by_cases c1 : 8 < bStp b
  · have c1' : (8 : Int) < (bStp b : Nat) := by omega
    have c1'' : ¬ bStp b ≤ 8 := by omega
    simp [c1', c1'']
  · have c1' : ¬ (8 : Int) < (bStp b : Nat) := by omega
    have c1'' : bStp b ≤ 8 := by omega
    have fr := fr c1''
    by_cases c2 : bStp b = 0
    · by_cases c3 : 4096 < (bFst b + bCnt b) * 2 ^ bStp b
      · have c3' : ¬ (bFst b + bCnt b) * 2 ^ bStp b ≤ 4096 := by omega
        simp [c2] at c3 c3'
        simp [c2, c3, c3']
      · have c3' : (bFst b + bCnt b) * 2 ^ bStp b ≤ 4096 := by omega
        rw [c2] at fr
        simp [c2] at c3 c3' fr
        simp [c2, c3, c3', fr, ri, bLow, bHigh, bAt, bKnd]
    · have c2' : (0 : Int) < (bStp b : Nat) := by omega
      by_cases c4 : bCnt b ≤ 8
      · have c4' : ¬ 8 < bCnt b := by omega
        simp [c1', c2, c2', c4, c4']
      · have c4' : 8 < bCnt b := by omega
        by_cases c3 : 4096 < (bFst b + bCnt b) * 2 ^ bStp b
        · have c3' : ¬ (bFst b + bCnt b) * 2 ^ bStp b ≤ 4096 := by omega
          simp [c1', c2, c2', c4, c4', c3, c3']
        · have c3' : (bFst b + bCnt b) * 2 ^ bStp b ≤ 4096 := by omega
          simp [c1', c1'', c2, c2', c4, c4', c3, c3', fr, ri, bLow, bHigh, bAt, bKnd]
theorem mskL_bits (f : Nat → Bool) : ∀ i, i < 9 → (((List.range 9).map fun i => if f i = true then 2 ^ i else 0).sum).testBit i = f i := by
  intro i hi
  have e : ((List.range 9).map fun i => if f i = true then 2 ^ i else 0).sum = (if f 0 = true then 1 else 0) + ((if f 1 = true then 2 else 0) + ((if f 2 = true then 4 else 0) + ((if f 3 = true then 8 else 0) + ((if f 4 = true then 16 else 0) + ((if f 5 = true then 32 else 0) + ((if f 6 = true then 64 else 0) + ((if f 7 = true then 128 else 0) + (if f 8 = true then 256 else 0)))))))) := by
    simp [List.range_succ, List.map_append, List.sum_append]
  rw [e]
  have d : ∀ (a0 a1 a2 a3 a4 a5 a6 a7 a8 : Bool), ∀ j : Fin 9, ((if a0 = true then 1 else 0) + ((if a1 = true then 2 else 0) + ((if a2 = true then 4 else 0) + ((if a3 = true then 8 else 0) + ((if a4 = true then 16 else 0) + ((if a5 = true then 32 else 0) + ((if a6 = true then 64 else 0) + ((if a7 = true then 128 else 0) + (if a8 = true then 256 else 0)))))))) : Nat).testBit j.val = [a0, a1, a2, a3, a4, a5, a6, a7, a8].getD j.val false := by decide +kernel
  rw [d _ _ _ _ _ _ _ _ _ ⟨i, hi⟩]
  rcases i with _ | _ | _ | _ | _ | _ | _ | _ | _ | i <;> first | rfl | omega
theorem RG_nd : ∀ i j : Fin 9, rg i.val = rg j.val → i = j := by decide
theorem mem_pk {p : Nat → Bool} {i : Nat} (hi : i < 9) : rg i ∈ pk p ↔ p i = true := by
  unfold pk
  rw [List.mem_map]
  constructor
  · rintro ⟨j, hj, e⟩
    rw [List.mem_filter, List.mem_range] at hj
    have := RG_nd ⟨j, hj.1⟩ ⟨i, hi⟩ e
    cases this
    exact hj.2
  · intro h
    exact ⟨i, List.mem_filter.mpr ⟨List.mem_range.mpr hi, h⟩, rfl⟩
theorem mem_rc {m i : Nat} (hi : i < 9) : rg i ∈ rc m ↔ m.testBit i = true := mem_pk hi
theorem inD_one {S : Store} (c : Nat) (l : List Nat) : inD S (.str (sC [c])) (.str (sC l)) = some (.bl (decide (c ∈ l))) := by
  unfold inD inB
  rw [Option.bind_some, in_one]
theorem ninD_one {S : Store} (c : Nat) (l : List Nat) : ninD S (.str (sC [c])) (.str (sC l)) = some (.bl (!decide (c ∈ l))) := by
  unfold ninD inB
  rw [Option.bind_some, in_one]
def lawM (m : Nat) : Bool := decide (((if m % 32 ≠ 0 then 1 else 0) + (if m.testBit 6 = true then 1 else 0) + (if (m.testBit 7 || m.testBit 8) = true then 1 else 0)) ≤ 1)
def cellC (c : Nat) : Bool := decide (c ∈ [114, 119, 108, 115, 110])
theorem inD_cell {S : Store} (c : Nat) : inD S (.str (sC [c])) (.str (Str.ofString "rwlsn")) = some (.bl (cellC c)) := by rw [lit_cell, inD_one]; rfl
theorem cell_any (m : Nat) : (rc m).any cellC = decide (m % 32 ≠ 0) := by
  have h1 : rc m = rc (m % 512) := pk_congr fun i hi => by
    rw [show 512 = 2 ^ 9 by rfl, Nat.testBit_mod_two_pow]
    simp [hi]
  have h2 : m % 32 = m % 512 % 32 := by omega
  rw [h1, h2]
  have d : ∀ k : Fin 512, (rc k.val).any cellC = decide (k.val % 32 ≠ 0) := by decide +kernel
  exact d ⟨m % 512, Nat.mod_lt _ (by decide)⟩
theorem allB_map' {α : Type} (f : α → Bool) (l : List α) : allB (l.map fun c => D.bl (f c)) = some (l.map f) := by
  have := allB_map (l.map f)
  rw [List.map_map] at this
  exact this
theorem lit_x : (Str.ofString "x") = sC [rg 6] := by decide +kernel
theorem lit_c : (Str.ofString "c") = sC [rg 7] := by decide +kernel
theorem lit_o : (Str.ofString "o") = sC [rg 8] := by decide +kernel
theorem mem_rs {m i : Nat} (hi : i < 9) {S : Store} : inD S (.str (sC [rg i])) (.str (rs m)) = some (.bl (m.testBit i)) := by
  rw [rs_eq, inD_one]
  congr 2
  rw [Bool.eq_iff_iff, decide_eq_true_eq, mem_rc hi]
theorem rc_len (m : Nat) : (rc m).length ≤ 9 := pk_len _
theorem are_lawful_eq {m : Nat} {S : Store} : g_are_lawful [.str (rs m)] S = .ok (.bl (lawM m)) S := by
  have lc := rLc_map (it := rIt (rVar 0)) (t := .nm 2) (vs := [2]) (c := rYes) (elt := rBin inD (rVar 2) (rCon (.str "rwlsn"))) (e := [some (.str (rs m)), none, none]) (S := S) (h := fun c => D.str (sC [c])) (xs := rc m)
    (fun c => [some (.str (rs m)), none, some (.str (sC [c]))]) (fun _ => true) (fun c => .bl (cellC c))
    (by simp [rs_eq, itemsD, signs_sC]) (len_small (Nat.le_trans (rc_len m) (by decide)))
    (fun c hc => ⟨by simp [wipeE], rfl, fun _ => by simp [inD_cell]⟩)
  rw [List.filter_eq_self.mpr (fun _ _ => rfl)] at lc
  have an : ∀ S' : Store, anyD S' [.lst ((rc m).map fun c => .bl (cellC c))] = some (.bl (decide (m % 32 ≠ 0))) := fun S' => by
    unfold anyD
    simp only [asL, Option.bind_some, allB_map']
    rw [List.any_map]
    have := cell_any m
    simp only [Function.id_comp] at this ⊢
    rw [this]
  have i6 := mem_rs (m := m) (i := 6) (by omega) (S := S)
  have i7 := mem_rs (m := m) (i := 7) (by omega) (S := S)
  have i8 := mem_rs (m := m) (i := 8) (by omega) (S := S)
  unfold g_are_lawful runDef m_are_lawful
  simp [lc, an, lit_x, lit_c, lit_o, i6, i7, i8, rMth, tyM]
  unfold lawM
  cases h7 : m.testBit 7 <;> cases h8 : m.testBit 8 <;> cases h6 : m.testBit 6 <;> by_cases h0 : m % 32 = 0 <;> simp [countL, ofP, h0, List.countP_cons, PyData.eqv]
structure Fd where
  low : Int
  high : Int
  at_ : Int
  m : Nat
  k : Int
def Fd.good (f : Fd) : Prop := 0 ≤ f.low ∧ f.low < f.high ∧ f.high ≤ 4096 ∧ exb f.low f.high = true ∧ 0 ≤ f.at_ ∧ f.at_ < 4096 ∧ f.m < 512 ∧ 0 ≤ f.k ∧ f.k < 16
def Fd.ok (f : Fd) : Prop := f.good ∧ lawM f.m = true
def Fd.D (f : Fd) : D := .tup [.int f.low, .int f.high, .int f.at_, .str (rs f.m), .int f.k]
def Fd.stp (f : Fd) : Nat := Lw.stp f.low f.high
def Fd.bits (f : Fd) : Int := f.at_ + f.low / 2 ^ f.stp * 4096 + (cnt f.low f.high f.stp - 1) * 16777216 + (f.stp : Nat) * 268435456 + (f.m : Nat) * 4294967296 + f.k * 2199023255552
theorem cnt_pos {l h : Int} {s : Nat} (h1 : l < h) : 1 ≤ cnt l h s := by
  unfold cnt
  have p := pow_pos s
  have a := Int.ediv_mul_le l (Int.ne_of_gt p)
  have b := cdv_le (h := h) s
  have c : l / 2 ^ s * 2 ^ s < cdv h s * 2 ^ s := by omega
  have := Int.lt_of_mul_lt_mul_right c (by omega)
  omega
theorem cnt_from9 {l h : Int} (h0 : 0 ≤ l) (h2 : h ≤ 4096) (hs : 0 < stp l h) : 8 < cnt l h (stp l h) := by
  obtain ⟨s1, s2, s3⟩ := stp_spec h0 h2
  have hb := s3 (stp l h - 1) (by omega)
  generalize hz : stp l h = s at *
  obtain ⟨t, rfl⟩ : ∃ t, s = t + 1 := ⟨s - 1, by omega⟩
  rw [Nat.add_sub_cancel] at hb
  unfold cnt at hb ⊢
  have e : (2 : Int) ^ (t + 1) = 2 * 2 ^ t := by rw [Int.pow_succ]; omega
  have p := pow_pos t
  have p1 := pow_pos (t + 1)
  have a1 : cdv h t ≤ 2 * cdv h (t + 1) := by
    refine (cdv_le_iff t _).mpr ?_
    have := cdv_le (h := h) (t + 1)
    rw [e] at this
    rw [show 2 * cdv h (t + 1) * 2 ^ t = cdv h (t + 1) * (2 * 2 ^ t) by rw [Int.mul_comm 2 (cdv h (t + 1)), Int.mul_assoc]]
    exact this
  have a2 : 2 * (l / 2 ^ (t + 1)) ≤ l / 2 ^ t := by
    refine (le_div_iff t _).mpr ?_
    have := Int.ediv_mul_le l (Int.ne_of_gt p1)
    rw [e] at this ⊢
    rw [show 2 * (l / (2 * 2 ^ t)) * 2 ^ t = l / (2 * 2 ^ t) * (2 * 2 ^ t) by rw [Int.mul_comm 2 (l / (2 * 2 ^ t)), Int.mul_assoc]]
    exact this
  omega
theorem Fd.good.spec {f : Fd} (h : f.good) : f.stp ≤ 8 ∧ 1 ≤ cnt f.low f.high f.stp ∧ cnt f.low f.high f.stp ≤ 16 ∧ (0 < f.stp → 8 < cnt f.low f.high f.stp) ∧ 0 ≤ f.low / 2 ^ f.stp ∧ f.low / 2 ^ f.stp < 4096 ∧ f.low / 2 ^ f.stp * 2 ^ f.stp = f.low ∧ (f.low / 2 ^ f.stp + cnt f.low f.high f.stp) * 2 ^ f.stp = f.high := by
  obtain ⟨h0, h1, h2, h3, _⟩ := h
  obtain ⟨s1, s2, s3⟩ := stp_spec h0 h2
  obtain ⟨e1, e2⟩ := exb_iff.mp h3
  have d := div_bnd f.stp h0 (by omega : f.low ≤ 4096)
  have d2 : f.low / 2 ^ f.stp ≤ f.low := Int.ediv_le_self _ h0
  refine ⟨s2, cnt_pos h1, s1, fun h => cnt_from9 h0 h2 h, d.1, by omega, e1, ?_⟩
  have : f.low / 2 ^ f.stp + cnt f.low f.high f.stp = cdv f.high f.stp := by unfold cnt; omega
  rw [this]
  exact e2
theorem Fd.good.range {f : Fd} (h : f.good) : 0 ≤ f.bits ∧ f.bits < 35184372088832 := by
  obtain ⟨a1, a2, a3, a4, a5, a6, a7, a8⟩ := h.spec
  obtain ⟨_, _, _, _, b1, b2, b3, b4, b5⟩ := h
  unfold Fd.bits
  omega
theorem Fd.good.parts {f : Fd} (h : f.good) : bAt f.bits = f.at_ ∧ bFst f.bits = f.low / 2 ^ f.stp ∧ bCnt f.bits = cnt f.low f.high f.stp ∧ bStp f.bits = f.stp ∧ bMsk f.bits = f.m ∧ bKnd f.bits = f.k := by
  obtain ⟨a1, a2, a3, a4, a5, a6, a7, a8⟩ := h.spec
  obtain ⟨_, _, _, _, b1, b2, b3, b4, b5⟩ := h
  unfold bAt bFst bCnt bStp bMsk bKnd Fd.bits
  generalize f.low / 2 ^ f.stp = x at *
  generalize cnt f.low f.high f.stp = y at *
  generalize f.stp = z at *
  refine ⟨?_, ?_, ?_, ?_, ?_, ?_⟩ <;> omega
theorem Fd.good.tells {f : Fd} (h : f.good) : Lw.tells f.bits = true := by
  obtain ⟨a1, a2, a3, a4, a5, a6, a7, a8⟩ := h.spec
  obtain ⟨p1, p2, p3, p4, p5, p6⟩ := h.parts
  unfold Lw.tells
  rw [p2, p3, p4, a8]
  by_cases z : f.stp = 0
  · simp [z, h.2.2.1]
  · simp [a1, a4 (by omega), h.2.2.1]
theorem Fd.good.low {f : Fd} (h : f.good) : bLow f.bits = f.low ∧ bHigh f.bits = f.high := by
  obtain ⟨a1, a2, a3, a4, a5, a6, a7, a8⟩ := h.spec
  obtain ⟨p1, p2, p3, p4, p5, p6⟩ := h.parts
  unfold bLow bHigh
  rw [p2, p3, p4]
  exact ⟨a7, a8⟩
def fdOf (b : Int) : Fd := ⟨bLow b, bHigh b, bAt b, bMsk b, bKnd b⟩
theorem stp_of {a c : Int} {s : Nat} (h0 : 0 ≤ a) (hs : s ≤ 8) (h1 : 1 ≤ c) (h2 : c ≤ 16) (h3 : 0 < s → 8 < c) (h4 : (a + c) * 2 ^ s ≤ 4096) : stp (a * 2 ^ s) ((a + c) * 2 ^ s) = s := by
  have p := pow_pos s
  have hl : 0 ≤ a * 2 ^ s := Int.mul_nonneg h0 (by omega)
  have hc : ∀ t, t ≤ s → cnt (a * 2 ^ s) ((a + c) * 2 ^ s) t = c * 2 ^ (s - t) := fun t ht => by
    unfold cnt
    rw [pow_split ht, ← Int.mul_assoc, ← Int.mul_assoc, cdv_mul, div_mul', ← Int.sub_mul]
    congr 1
    omega
  have l1 : stp (a * 2 ^ s) ((a + c) * 2 ^ s) ≤ s := stp_le hl h4 (by rw [hc s (Nat.le_refl _)]; simp; exact h2)
  obtain ⟨s1, _, _⟩ := stp_spec hl h4
  by_cases z : stp (a * 2 ^ s) ((a + c) * 2 ^ s) = s
  · exact z
  · exfalso
    have l2 : stp (a * 2 ^ s) ((a + c) * 2 ^ s) < s := by omega
    rw [hc _ l1] at s1
    generalize stp (a * 2 ^ s) ((a + c) * 2 ^ s) = t at *
    have e : s - t = (s - t - 1) + 1 := by omega
    rw [e, Int.pow_succ] at s1
    have p2 := pow_pos (s - t - 1)
    have c8 := h3 (by omega)
    have : 9 * (1 * 2) ≤ c * (2 ^ (s - t - 1) * 2) := Int.mul_le_mul (by omega) (by omega) (by omega) (by omega)
    omega
theorem fdOf_good {b : Int} (h : 0 ≤ b) (h2 : b < 35184372088832) (ht : tells b = true) : (fdOf b).good ∧ (fdOf b).bits = b := by
  have hs2 : bStp b < 16 := by unfold bStp; omega
  have f0 : 0 ≤ bFst b ∧ bFst b < 4096 := by unfold bFst; omega
  have c0 : 1 ≤ bCnt b ∧ bCnt b ≤ 16 := by unfold bCnt; omega
  unfold tells at ht
  simp only [Bool.and_eq_true, Bool.or_eq_true, decide_eq_true_eq, beq_iff_eq] at ht
  obtain ⟨⟨t1, t2⟩, t3⟩ := ht
  have p := pow_pos (bStp b)
  have hst := stp_of f0.1 t1 c0.1 c0.2 (by omega) t3
  have hl : 0 ≤ bFst b * 2 ^ bStp b := Int.mul_nonneg f0.1 (by omega)
  have hlt : bFst b * 2 ^ bStp b < (bFst b + bCnt b) * 2 ^ bStp b := Int.mul_lt_mul_of_pos_right (by omega) p
  have g : (fdOf b).good := ⟨hl, hlt, t3, exb_of hl t3 (by omega), by unfold fdOf bAt; simp; omega, by unfold fdOf bAt; simp; omega, by unfold fdOf bMsk; simp; omega, by unfold fdOf bKnd; simp; omega, by unfold fdOf bKnd; simp; omega⟩
  refine ⟨g, ?_⟩
  have e1 : (fdOf b).stp = bStp b := hst
  have e2 : (fdOf b).low / 2 ^ (fdOf b).stp = bFst b := by rw [e1]; exact div_mul' _ _
  have e3 : cnt (fdOf b).low (fdOf b).high (fdOf b).stp = bCnt b := by
    rw [e1]
    show cnt (bFst b * 2 ^ bStp b) ((bFst b + bCnt b) * 2 ^ bStp b) (bStp b) = bCnt b
    unfold cnt
    rw [cdv_mul, div_mul']
    omega
  unfold Fd.bits
  rw [e2, e3, e1]
  unfold fdOf bAt bFst bCnt bStp bMsk bKnd
  simp only
  omega
theorem Fd.good.inj {f g : Fd} (hf : f.good) (hg : g.good) (h : f.bits = g.bits) : f = g := by
  obtain ⟨p1, p2, p3, p4, p5, p6⟩ := hf.parts
  obtain ⟨q1, q2, q3, q4, q5, q6⟩ := hg.parts
  have a := hf.low
  have b := hg.low
  rw [h] at p1 p5 p6 a
  cases f; cases g
  simp only [Fd.mk.injEq] at *
  exact ⟨a.1.symm.trans b.1, a.2.symm.trans b.2, p1.symm.trans q1, p5.symm.trans q5, p6.symm.trans q6⟩
def asW : Ev.D → Option (Bool × Int)
  | .tup [.bl m, .int b] => if 0 ≤ b ∧ b < 35184372088832 then some (m, b) else none
  | _ => none
def isBl : Ev.D → Bool
  | .bl _ => true
  | _ => false
theorem isi_loc_bool {S : Store} {n : Nat} (h : Typed S (.loc n)) : isiD "bool" S (.loc n) = some (.bl false) := by
  obtain ⟨t, h⟩ := h
  have h2 := h
  simp only [tyD] at h2
  split at h2 <;> cases h2
  · exact isiD_of h (by decide +kernel)
  · exact isiD_of h (by decide +kernel)
theorem isi_bool {S : Store} {d : Ev.D} (h : Typed S d) : isiD "bool" S d = some (.bl (isBl d)) := by
  cases d with
  | loc n => rw [isi_loc_bool h]; rfl
  | exn c ns xs => obtain ⟨t, h⟩ := h; cases h
  | dcT ks xs => obtain ⟨t, h⟩ := h; cases h
  | _ => simp [isBl]
theorem isi_loc_tuple {S : Store} {n : Nat} (h : Typed S (.loc n)) : isiD "tuple" S (.loc n) = some (.bl false) := by
  obtain ⟨t, h⟩ := h
  have h2 := h
  simp only [tyD] at h2
  split at h2 <;> cases h2
  · exact isiD_of h (by decide +kernel)
  · exact isiD_of h (by decide +kernel)
theorem is_word_eq {S : Store} {d : Ev.D} (h : Typed S d) (hx : ∀ xs, d = .tup xs → ∀ x ∈ xs, Typed S x) : g_is_word [d] S = .ok (.bl (asW d).isSome) S := by
  unfold g_is_word runDef m_is_word
  cases d with
  | loc n => simp [isi_loc_tuple h, asW]
  | exn c ns xs => obtain ⟨t, h⟩ := h; cases h
  | dcT ks xs => obtain ⟨t, h⟩ := h; cases h
  | tup xs =>
    match xs, hx xs rfl with
    | [], _ => simp [asW]
    | [a], _ => simp [asW]
    | [a, b], hx =>
      have ha := isi_bool (hx a (by simp))
      have hb := is_whole_eq (hx b (by simp))
      cases ca : isBl a with
      | false =>
        have : asW (.tup [a, b]) = none := by cases a <;> first | rfl | simp [isBl] at ca
        rw [ca] at ha
        simp [ixD, atI, ixN, ha, this]
      | true =>
        rw [ca] at ha
        obtain ⟨m, rfl⟩ : ∃ m, a = .bl m := by cases a <;> first | exact ⟨_, rfl⟩ | simp [isBl] at ca
        cases cb : isW b with
        | false =>
          have : asW (.tup [.bl m, b]) = none := by cases b <;> first | rfl | simp [isW] at cb
          rw [cb] at hb
          simp [ixD, atI, ixN, ha, hb, this]
        | true =>
          rw [cb] at hb
          obtain ⟨i, rfl⟩ : ∃ i, b = .int i := by cases b <;> first | exact ⟨_, rfl⟩ | simp [isW] at cb
          by_cases c1 : 0 ≤ i
          · by_cases c2 : i < 35184372088832 <;> simp [ixD, atI, ixN, ha, hb, asW, c1, c2]
          · simp [ixD, atI, ixN, ha, hb, asW, c1]
    | a :: b :: c :: r, _ =>
      have e : ((r.length : Int) + 1 + 1 + 1 == 2) = false := by simp; omega
      have : asW (.tup (a :: b :: c :: r)) = none := by cases a <;> cases b <;> rfl
      simp [e, this]
  | _ => simp [asW]
theorem is_word_pair {S : Store} {m : Bool} {b : Int} (h : 0 ≤ b) (h2 : b < 35184372088832) : g_is_word [.tup [.bl m, .int b]] S = .ok (.bl true) S := by
  rw [is_word_eq ⟨_, rfl⟩ (fun xs e x hx => by
    cases e
    simp only [List.mem_cons, List.not_mem_nil, or_false] at hx
    rcases hx with rfl | rfl <;> exact ⟨_, rfl⟩)]
  simp [asW, h, h2]
def lawB (m : Bool) (b : Int) : Bool := !m || (tells b && lawM (bMsk b))
theorem is_lawful_pair {S : Store} {m : Bool} {b : Int} (h : 0 ≤ b) (h2 : b < 35184372088832) : g_is_lawful [.tup [.bl m, .int b]] S = .ok (.bl (lawB m b)) S := by
  have w := is_word_pair (S := S) (m := m) h h2
  have f := fields_eq (m := .bl m) (S := S) h
  unfold g_is_lawful runDef m_is_lawful lawB
  cases m with
  | false => simp [w, f, ixD, atI, ixN]
  | true =>
    by_cases ht : tells b = true
    · have e : fD b = (fdOf b).D := by unfold fD; rw [if_pos ht]; rfl
      rw [e] at f
      have al := are_lawful_eq (m := bMsk b) (S := S)
      have i3 : ixD S (fdOf b).D (.int 3) = some (.str (rs (bMsk b))) := rfl
      have nn : isNot S (fdOf b).D .non = some (.bl true) := rfl
      have i0 : ∀ b : Int, ixD S (.tup [.bl true, .int b]) (.int 0) = some (.bl true) := fun b => by simp [ixD, atI, ixN]
      simp [w, f, i0, nn, i3, al, ht]
    · have e : fD b = .non := by unfold fD; rw [if_neg ht]
      rw [e] at f
      have i0 : ∀ b : Int, ixD S (.tup [.bl true, .int b]) (.int 0) = some (.bl true) := fun b => by simp [ixD, atI, ixN]
      simp [w, f, i0, isNot, ht]
theorem is_lawful_not {S : Store} {d : Ev.D} (h : Typed S d) (hx : ∀ xs, d = .tup xs → ∀ x ∈ xs, Typed S x) (hn : asW d = none) : g_is_lawful [d] S = .ok (.bl false) S := by
  have w := is_word_eq h hx
  rw [hn] at w
  unfold g_is_lawful runDef m_is_lawful
  simp [w]
mutual
def bnR : PyData → Nat
  | .none => 4
  | .bool _ => 5
  | .int _ => 1921
  | .str x => 10 * x.length + 2
  | .list xs => 2 + bnRs xs
  | .tuple xs => 3 + bnRs xs
  | .dict _ => 0
def bnRs : List PyData → Nat
  | [] => 0
  | x :: xs => bnR x + 2 + bnRs xs
end
mutual
def okR : PyData → Bool
  | .none => true
  | .bool _ => true
  | .int i => decide (i.natAbs.log2 < 1920)
  | .str x => x.cps.toList.all fun c => decide (c < 1114112)
  | .list xs => okRs xs
  | .tuple xs => okRs xs
  | .dict _ => false
def okRs : List PyData → Bool
  | [] => true
  | x :: xs => okR x && okRs xs
end
theorem textFrom_le : ∀ (ts : List Str) (k : Nat) (acc : Str), (textFrom k acc ts).length ≤ acc.length + (ts.map fun t => t.length + 2).sum
  | [], k, acc => by simp [textFrom]
  | t :: ts, k, acc => by
    have ih := textFrom_le ts (k + 1)
    simp only [textFrom, List.map_cons, List.sum_cons]
    refine Nat.le_trans (ih _) ?_
    have e : (Str.ofString ", ").length = 2 := by rw [ofString_length]; rfl
    have e0 : (Str.ofString "").length = 0 := by rw [ofString_length]; rfl
    split <;> simp only [Str.length_append, e, e0] <;> omega
mutual
theorem shown_le : ∀ d : PyData, okR d = true → d.shown.length ≤ bnR d
  | .none, _ => by decide
  | .bool b, _ => by cases b <;> decide
  | .int i, h => by
    simp only [okR, decide_eq_true_eq] at h
    have := int_text_length_le (k := 1920) (by decide) h
    show (Str.ofString (toString i)).length ≤ 1921
    rw [ofString_length]
    exact this
  | .str x, h => by
    simp only [okR, List.all_eq_true, decide_eq_true_eq] at h
    exact StrLaws.reprText_len x fun c hc => Nat.lt_trans (h c hc) (by decide)
  | .list xs, h => by
    have ih := shownAll_le xs h
    show (textFrom 0 (Str.ofString "[") (PyData.shownAll xs) ++ Str.ofString "]").length ≤ 2 + bnRs xs
    have a := textFrom_le (PyData.shownAll xs) 0 (Str.ofString "[")
    have e1 : (Str.ofString "[").length = 1 := by rw [ofString_length]; rfl
    have e2 : (Str.ofString "]").length = 1 := by rw [ofString_length]; rfl
    rw [Str.length_append, e2]
    omega
  | .tuple xs, h => by
    have ih := shownAll_le xs h
    show (Str.ofString "(" ++ Str.join (Str.ofString ", ") (PyData.shownAll xs) ++ Str.ofString (if (PyData.shownAll xs).length == 1 then ",)" else ")")).length ≤ 3 + bnRs xs
    have a := StrLaws.join_length_le (Str.ofString ", ") (PyData.shownAll xs)
    have e0 : (Str.ofString ", ").length = 2 := by rw [ofString_length]; rfl
    have e1 : (Str.ofString "(").length = 1 := by rw [ofString_length]; rfl
    have e2 : (Str.ofString (if (PyData.shownAll xs).length == 1 then ",)" else ")")).length ≤ 2 := by rw [ofString_length]; split <;> decide
    rw [Str.length_append, Str.length_append, e1]
    rw [e0] at a
    have s : ((PyData.shownAll xs).map fun t => t.length + 2).sum = ((PyData.shownAll xs).map fun t => t.length).sum + (PyData.shownAll xs).length * 2 := by
      generalize PyData.shownAll xs = l
      induction l with
      | nil => rfl
      | cons t l ih => simp only [List.map_cons, List.sum_cons, List.length_cons, ih]; omega
    omega
  | .dict _, h => by cases h
theorem shownAll_le : ∀ xs : List PyData, okRs xs = true → ((PyData.shownAll xs).map fun t => t.length + 2).sum ≤ bnRs xs
  | [], _ => Nat.le_refl _
  | x :: xs, h => by
    simp only [okRs, Bool.and_eq_true] at h
    have a := shown_le x h.1
    have b := shownAll_le xs h.2
    simp only [PyData.shownAll, List.map_cons, List.sum_cons, bnRs]
    omega
end
mutual
theorem okR_show : ∀ d : PyData, okR d = true → d.showable = true ∧ d.hasDict = false
  | .none, _ => ⟨rfl, rfl⟩
  | .bool _, _ => ⟨rfl, rfl⟩
  | .int i, h => ⟨h, rfl⟩
  | .str _, _ => ⟨rfl, rfl⟩
  | .list xs, h => okRs_show xs h
  | .tuple xs, h => okRs_show xs h
  | .dict _, h => by cases h
theorem okRs_show : ∀ xs : List PyData, okRs xs = true → PyData.showableAll xs = true ∧ PyData.hasDictAll xs = false
  | [], _ => ⟨rfl, rfl⟩
  | x :: xs, h => by
    simp only [okRs, Bool.and_eq_true] at h
    have a := okR_show x h.1
    have b := okRs_show xs h.2
    simp only [PyData.showableAll, PyData.hasDictAll, a.1, b.1, a.2, b.2]
    exact ⟨rfl, rfl⟩
end
theorem reprD_of {S : Store} {d : D} {p : PyData} (h : pyD S deepN d = some p) (ho : okR p = true) (hb : bnR p ≤ 16777216) : reprD S [d] = some (.str p.shown) := by
  obtain ⟨a, b⟩ := okR_show p ho
  have c := shown_le p ho
  have sl : sizeLine = 16777216 := by decide
  simp only [reprD, h, Option.bind_some]
  rw [if_pos]
  simp only [showOk, a, b, Bool.not_false, Bool.true_and, decide_eq_true_eq]
  omega
theorem log2_lt {i : Int} {k : Nat} (h : i.natAbs < 2 ^ k) (hk : 0 < k) : i.natAbs.log2 < k := by
  by_cases z : i.natAbs = 0
  · rw [z]; simpa using hk
  · exact (Nat.log2_lt z).mpr h
theorem okR_int {i : Int} (h : -(2 ^ 200) < i) (h2 : i < 2 ^ 200) : okR (.int i) = true := by
  simp only [okR, decide_eq_true_eq]
  refine Nat.lt_trans (log2_lt (k := 200) ?_ (by decide)) (by decide)
  omega
def LW (m : Bool) (b : Int) : Prop := 0 ≤ b ∧ b < 35184372088832 ∧ (m = true → tells b = true ∧ lawM (bMsk b) = true)
theorem LW.fd {b : Int} (h : LW true b) : (fdOf b).ok ∧ (fdOf b).bits = b := by
  obtain ⟨h0, h1, h2⟩ := h
  obtain ⟨g, e⟩ := fdOf_good h0 h1 (h2 rfl).1
  exact ⟨⟨g, (h2 rfl).2⟩, e⟩
theorem LW.of_fd {f : Fd} (h : f.ok) : LW true f.bits := by
  obtain ⟨r0, r1⟩ := h.1.range
  refine ⟨r0, r1, fun _ => ⟨h.1.tells, ?_⟩⟩
  rw [h.1.parts.2.2.2.2.1]
  exact h.2
theorem LW.cases {b : Int} (h : LW true b) : ∃ f : Fd, f.ok ∧ f.bits = b := ⟨_, h.fd⟩
theorem LW.bare {m : Bool} {b : Int} (h : LW m b) : LW false b := ⟨h.1, h.2.1, fun z => by cases z⟩
theorem law_least_eq {l h : Int} {S : Store} (h0 : 0 ≤ l) (h1 : l < h) (h2 : h ≤ 4096) : g_law_least [.int l, .int h] S = .ok (.tup [.int (lhl l h), .int (lhh l h), .int (stp l h)]) S := by
  have lp := while_fnd (tc := rTest (rBin gtD (rBin subD (rBin shrD (rBin subD (rVar 1) (rCon (.int 1))) (rVar 2)) (rBin shrD (rVar 0) (rVar 2))) (rCon (.int 15)))) (body := lb1_law_least)
    (E := fun s => [some (.int l), some (.int h), some (.int (s : Nat))]) (S := S) (c := fun s => decide (16 < cnt l h s)) 8
    (fun s _ => by
      have e : (15 < (h - 1) / 2 ^ s - l / 2 ^ s) ↔ 16 < cnt l h s := by
        unfold cnt; rw [← cdv_pred (h := h) s]; omega
      simp [e]) (fun s _ => by simp [lb1_law_least]) 8 0 100 (by omega) (by have := cnt8 h0 h2; simp; exact this) (by omega)
  rw [← fstep_fnd] at lp
  obtain ⟨s1, s2, _⟩ := stp_spec h0 h2
  have b := cdv_bnd (stp l h) (by omega : 0 < h) h2
  have a := div_bnd (stp l h) h0 (by omega : l ≤ 4096)
  have p1 : powOk (l / 2 ^ stp l h) (stp l h) = true := by unfold powOk; simp; omega
  have p2 : powOk (cdv h (stp l h)) (stp l h) = true := by unfold powOk; simp; omega
  unfold g_law_least runDef m_law_least
  simp only [Int.ofNat_zero] at lp
  rw [show fstep l h 8 0 = stp l h from rfl] at lp
  simp [lp, cdv_pred, p1, p2, lhl, lhh]
theorem join_rs {m : Nat} {S : Store} : joinD S (.str (Str.ofString "")) [.lst ((rc m).map fun c => .str (sC [c]))] = some (.str (rs m), S) := by
  rw [lit_nil, joinD_ones _ (Nat.le_trans (rc_len m) (by decide)), rs_eq]
theorem made_loop {a : Int} {m : Nat} (hm : m < 512) {x0 x1 x2 x4 x5 : Option Ev.D} {S : Store} : ∃ y7 y8, forL (.tp [7, 8]) lb1_law_made ((List.range 9).map fun i => D.tup [.int (i : Nat), .str (sC [rg i])]) [x0, x1, x2, some (.str (rs m)), x4, x5, some (.int a), none, none] S = .nx [x0, x1, x2, some (.str (rs m)), x4, x5, some (.int (a + (m : Int) * 4294967296)), y7, y8] S := by
  have step : ∀ (i : Nat) (a : Int) (y7 y8 : Option Ev.D), i < 9 → lb1_law_made [x0, x1, x2, some (.str (rs m)), x4, x5, some (.int a), some (.int (i : Nat)), some (.str (sC [rg i]))] S = .nx [x0, x1, x2, some (.str (rs m)), x4, x5, some (.int (a + if m.testBit i = true then 2 ^ (32 + i) else 0)), some (.int (i : Nat)), some (.str (sC [rg i]))] S := fun i a y7 y8 hi => by
    have im := mem_rs (m := m) (i := i) hi (S := S)
    have e1 : ((32 : Int) + (i : Nat)).toNat = 32 + i := by omega
    have p : ∀ z : Int, z = 0 ∨ z = 1 → powOk z (32 + (i : Nat)) = true := fun z hz => by unfold powOk; simp; omega
    unfold lb1_law_made
    cases hb : m.testBit i with
    | true =>
      rw [hb] at im
      simp [im, p 1 (.inr rfl), e1]
    | false =>
      rw [hb] at im
      simp [im, p 0 (.inl rfl), e1]
  have gen : ∀ (l : List Nat) (a : Int) (y7 y8 : Option Ev.D), (∀ i ∈ l, i < 9) → ∃ z7 z8, forL (.tp [7, 8]) lb1_law_made (l.map fun i => D.tup [.int (i : Nat), .str (sC [rg i])]) [x0, x1, x2, some (.str (rs m)), x4, x5, some (.int a), y7, y8] S = .nx [x0, x1, x2, some (.str (rs m)), x4, x5, some (.int (a + (l.map fun i => if m.testBit i = true then (2 : Int) ^ (32 + i) else 0).sum)), z7, z8] S := by
    intro l
    induction l with
    | nil => intro a y7 y8 _; exact ⟨y7, y8, by simp [forL]⟩
    | cons i l ih =>
      intro a y7 y8 hl
      obtain ⟨z7, z8, h⟩ := ih (a + if m.testBit i = true then 2 ^ (32 + i) else 0) (some (.int (i : Nat))) (some (.str (sC [rg i]))) (fun j hj => hl j (List.mem_cons_of_mem _ hj))
      refine ⟨z7, z8, ?_⟩
      simp only [List.map_cons, forL, bindT_tp, parts_tup, Option.bind_some]
      simp [step i a y7 y8 (hl i List.mem_cons_self), h, Int.add_assoc]
  obtain ⟨z7, z8, h⟩ := gen (List.range 9) a none none (fun i hi => List.mem_range.mp hi)
  have e : ((List.range 9).map fun i => if m.testBit i = true then (2 : Int) ^ (32 + i) else 0).sum = (m : Int) * 4294967296 := by
    have d : ∀ j : Fin 512, ((List.range 9).map fun i => if j.val.testBit i = true then (2 : Int) ^ (32 + i) else 0).sum = (j.val : Int) * 4294967296 := by decide +kernel
    exact d ⟨m, hm⟩
  rw [e] at h
  exact ⟨z7, z8, h⟩
theorem law_made_eq {f : Fd} {S : Store} (h : f.good) : g_law_made [.int f.low, .int f.high, .int f.at_, .str (rs f.m), .int f.k] S = .ok (.tup [.bl true, .int f.bits]) S := by
  obtain ⟨a1, a2, a3, a4, a5, a6, a7, a8⟩ := h.spec
  obtain ⟨h0, h1, h2, h3, h4, h5, h6, h7, h8⟩ := h
  have ll := law_least_eq (S := S) h0 h1 h2
  have hst : stp f.low f.high = f.stp := rfl
  rw [hst] at ll
  have e12 : (2 : Int) ^ (12 : Nat) = 4096 := by decide
  have e24 : (2 : Int) ^ (24 : Nat) = 16777216 := by decide
  have e28 : (2 : Int) ^ (28 : Nat) = 268435456 := by decide
  have e41 : (2 : Int) ^ (41 : Nat) = 2199023255552 := by decide
  have ec : (f.high - f.low) / 2 ^ f.stp = cnt f.low f.high f.stp := by
    have e : f.high - f.low = cnt f.low f.high f.stp * 2 ^ f.stp := by
      rw [Int.add_mul] at a8
      omega
    rw [e, div_mul']
  have p1 : powOk (f.low / 2 ^ f.stp) 12 = true := by unfold powOk; simp; omega
  have p2 : powOk (cnt f.low f.high f.stp - 1) 24 = true := by unfold powOk; simp; omega
  have p3 : powOk (f.stp : Nat) 28 = true := by unfold powOk; simp; omega
  have p4 : powOk f.k 41 = true := by unfold powOk; simp; omega
  have ix : ∀ x y : Int, ixD S (.tup [.int x, .int y, .int (f.stp : Nat)]) (.int 2) = some (.int (f.stp : Nat)) := fun x y => by simp [ixD, atI, ixN]
  have en : enumD [.str (Str.ofString "rwlsnfxco")] = some ((List.range 9).map fun i => D.tup [.int (i : Nat), .str (sC [rg i])]) := by rw [lit_RG, enum_RG]
  obtain ⟨y7, y8, lp⟩ := made_loop (a := f.at_ + f.low / 2 ^ f.stp * 4096 + (cnt f.low f.high f.stp - 1) * 16777216 + (f.stp : Nat) * 268435456) h6 (x0 := some (.int f.low)) (x1 := some (.int f.high)) (x2 := some (.int f.at_)) (x4 := some (.int f.k)) (x5 := some (.int (f.stp : Nat))) (S := S)
  unfold g_law_made runDef m_law_made
  simp [ll, ix, p1, ec, p2, p3, p4, e12, e24, e28, e41, en, lp, Fd.bits]
abbrev Wd := Bool × Int
def wd (w : Wd) : Ev.D := .tup [.bl w.1, .int w.2]
abbrev Bk := List (Int × Wd)
def bkK (L : Bk) : List Key := L.map fun p => Sum.inl p.1
def bkX (L : Bk) : List Ev.D := L.map fun p => wd p.2
def fndB (L : Bk) (a : Int) : Option Wd := (L.find? fun p => decide (p.1 = a)).map (·.2)
def getB (L : Bk) (a : Int) : Wd := (fndB L a).getD (false, 0)
def putB (L : Bk) (a : Int) (w : Wd) : Bk := if (L.any fun p => decide (p.1 = a)) = true then L.map (fun p => if p.1 = a then (p.1, w) else p) else L ++ [(a, w)]
def delB (L : Bk) (a : Int) : Bk := L.filter fun p => decide (p.1 ≠ a)
theorem lk_bk (a : Int) : ∀ L : Bk, lkK (bkK L) (bkX L) (.inl a) = (fndB L a).map wd
  | [] => rfl
  | p :: L => by
    show (if (Sum.inl p.1 : Key) = Sum.inl a then some (wd p.2) else lkK (bkK L) (bkX L) (.inl a)) = _
    by_cases e : p.1 = a
    · rw [if_pos (by rw [e])]
      simp [fndB, List.find?_cons, e]
    · rw [if_neg (fun z => e (Sum.inl.inj z)), lk_bk a L]
      simp [fndB, List.find?_cons, e]
theorem has_bk (L : Bk) (a : Int) : hasK (bkK L) (.inl a) = L.any fun p => decide (p.1 = a) := by
  unfold hasK bkK
  rw [List.any_map]
  congr 1
  funext p
  simp [Function.comp]
theorem rep_bk (a : Int) (w : Wd) : ∀ L : Bk, repK (bkK L) (bkX L) (.inl a) (wd w) = bkX (L.map fun p => if p.1 = a then (p.1, w) else p)
  | [] => rfl
  | p :: L => by
    show (if (Sum.inl p.1 : Key) = Sum.inl a then wd w else wd p.2) :: repK (bkK L) (bkX L) (.inl a) (wd w) = _
    rw [rep_bk a w L]
    by_cases e : p.1 = a
    · rw [if_pos (by rw [e])]
      simp [bkX, e]
    · rw [if_neg (fun z => e (Sum.inl.inj z))]
      simp [bkX, e]
theorem put_bk (L : Bk) (a : Int) (w : Wd) : putKs (bkK L) (bkX L) (.inl a) (wd w) = (bkK (putB L a w), bkX (putB L a w)) := by
  unfold putKs putB
  rw [has_bk]
  split
  · rw [rep_bk]
    congr 1
    unfold bkK
    rw [List.map_map]
    apply List.map_congr_left
    intro p _
    simp only [Function.comp]
    split <;> rfl
  · simp [bkK, bkX]
theorem del_bk (a : Int) : ∀ L : Bk, delK (bkK L) (bkX L) (.inl a) = (bkK (delB L a), bkX (delB L a))
  | [] => rfl
  | p :: L => by
    have e0 : delK (bkK (p :: L)) (bkX (p :: L)) (.inl a) = if (Sum.inl p.1 : Key) = Sum.inl a then delK (bkK L) (bkX L) (.inl a) else (Sum.inl p.1 :: (delK (bkK L) (bkX L) (.inl a)).1, wd p.2 :: (delK (bkK L) (bkX L) (.inl a)).2) := rfl
    rw [e0, del_bk a L]
    by_cases e : p.1 = a
    · rw [if_pos (by rw [e])]
      simp [delB, e]
    · rw [if_neg (fun z => e (Sum.inl.inj z))]
      simp [delB, e, bkK, bkX]
theorem fnd_none {L : Bk} {a : Int} : fndB L a = none ↔ a ∉ L.map (·.1) := by
  unfold fndB
  rw [Option.map_eq_none_iff, List.find?_eq_none]
  simp only [decide_eq_true_eq, List.mem_map, not_exists, not_and]
theorem fnd_rep (a b : Int) (w : Wd) : ∀ L : Bk, fndB (L.map fun p => if p.1 = a then (p.1, w) else p) b = if b = a then (fndB L a).map (fun _ => w) else fndB L b
  | [] => by simp [fndB]
  | p :: L => by
    have ih := fnd_rep a b w L
    unfold fndB at ih ⊢
    rw [List.map_cons, List.find?_cons, List.find?_cons, List.find?_cons]
    by_cases e : p.1 = a
    · simp only [e, if_true]
      by_cases eb : b = a
      · subst eb
        simp
      · have n1 : ¬ a = b := fun z => eb z.symm
        simp only [n1, decide_false, if_neg eb] at ih ⊢
        exact ih
    · simp only [e, if_false, decide_false]
      by_cases eb : p.1 = b
      · have n2 : ¬ b = a := fun z => e (eb.trans z)
        simp [eb, n2]
      · simp only [eb, decide_false]
        exact ih
theorem fnd_put (L : Bk) (a b : Int) (w : Wd) : fndB (putB L a w) b = if b = a then some w else fndB L b := by
  unfold putB
  split
  · rename_i h
    rw [fnd_rep]
    split
    · obtain ⟨p, hp, e⟩ := List.any_eq_true.mp h
      cases q : fndB L a with
      | none =>
        have := fnd_none.mp q
        exact absurd (List.mem_map.mpr ⟨p, hp, by simpa using e⟩) this
      | some v => rfl
    · rfl
  · rename_i h
    have hn : ∀ p ∈ L, p.1 ≠ a := fun p hp e => h (List.any_eq_true.mpr ⟨p, hp, by simp [e]⟩)
    unfold fndB
    rw [List.find?_append]
    by_cases e : b = a
    · subst e
      have : L.find? (fun p => decide (p.1 = b)) = none := List.find?_eq_none.mpr fun p hp => by simp [hn p hp]
      rw [this]
      simp
    · rw [if_neg e]
      have : [(a, w)].find? (fun p : Int × Wd => decide (p.1 = b)) = none := by simp [Ne.symm e]
      rw [this]
      simp
theorem fnd_del (a b : Int) : ∀ L : Bk, fndB (delB L a) b = if b = a then none else fndB L b
  | [] => by simp [fndB, delB]
  | p :: L => by
    have ih := fnd_del a b L
    unfold fndB delB at ih ⊢
    by_cases e : p.1 = a
    · have z : ((p :: L).filter fun p => decide (p.1 ≠ a)) = L.filter fun p => decide (p.1 ≠ a) := by simp [e]
      rw [z, ih]
      by_cases eb : b = a
      · rw [if_pos eb, if_pos eb]
      · have n1 : ¬ p.1 = b := fun q => eb (q.symm.trans e)
        rw [if_neg eb, if_neg eb, List.find?_cons]
        simp only [n1, decide_false]
    · have z : ((p :: L).filter fun p => decide (p.1 ≠ a)) = p :: L.filter fun p => decide (p.1 ≠ a) := by simp [e]
      rw [z, List.find?_cons, List.find?_cons]
      by_cases eb : p.1 = b
      · have n2 : ¬ b = a := fun q => e (eb.trans q)
        simp [eb, n2]
      · simp only [eb, decide_false]
        exact ih
theorem get_put (L : Bk) (a b : Int) (w : Wd) : getB (putB L a w) b = if b = a then w else getB L b := by
  unfold getB
  rw [fnd_put]
  split <;> rfl
theorem get_del (L : Bk) (a b : Int) : getB (delB L a) b = if b = a then (false, 0) else getB L b := by
  unfold getB
  rw [fnd_del a b L]
  split <;> rfl
def NdB (L : Bk) : Prop := (L.map (·.1)).Nodup
theorem keys_put (L : Bk) (a : Int) (w : Wd) : (putB L a w).map (·.1) = if a ∈ L.map (·.1) then L.map (·.1) else L.map (·.1) ++ [a] := by
  unfold putB
  have e : (L.any fun p => decide (p.1 = a)) = true ↔ a ∈ L.map (·.1) := by
    rw [List.any_eq_true, List.mem_map]
    simp only [decide_eq_true_eq]
  by_cases h : a ∈ L.map (·.1)
  · rw [if_pos (e.mpr h), if_pos h, List.map_map]
    apply List.map_congr_left
    intro p _
    simp only [Function.comp]
    split <;> rfl
  · rw [if_neg (fun z => h (e.mp z)), if_neg h]
    simp
theorem nd_put {L : Bk} (h : NdB L) (a : Int) (w : Wd) : NdB (putB L a w) := by
  unfold NdB at *
  rw [keys_put]
  split
  · exact h
  · rename_i hn
    rw [List.nodup_append]
    exact ⟨h, by simp, fun x hx y hy e => by simp at hy; exact hn (hy ▸ e ▸ hx)⟩
theorem nd_del {L : Bk} (h : NdB L) (a : Int) : NdB (delB L a) := h.sublist (List.filter_sublist.map _)
theorem len_put (L : Bk) (a : Int) (w : Wd) : (putB L a w).length ≤ L.length + 1 := by
  unfold putB
  split <;> simp
theorem len_del (L : Bk) (a : Int) : (delB L a).length ≤ L.length := List.length_filter_le _ _
theorem mem_put {L : Bk} {a : Int} {w : Wd} {p : Int × Wd} (h : p ∈ putB L a w) : p = (a, w) ∨ p ∈ L := by
  unfold putB at h
  split at h
  · obtain ⟨q, hq, e⟩ := List.mem_map.mp h
    split at e
    · rename_i z
      rw [← e, z]; exact .inl rfl
    · rw [← e]; exact .inr hq
  · rcases List.mem_append.mp h with h | h
    · exact .inr h
    · simp at h; exact .inl h
theorem mem_get {L : Bk} {a : Int} {w : Wd} (h : fndB L a = some w) : (a, w) ∈ L := by
  obtain ⟨p, h1, h2⟩ := Option.map_eq_some_iff.mp h
  have m := List.mem_of_find?_eq_some h1
  have e := List.find?_some h1
  simp only [decide_eq_true_eq] at e
  rw [← e, ← h2]
  exact m
theorem keysI_bk : ∀ L : Bk, keysI (bkK L) = some (L.map (·.1))
  | [] => rfl
  | p :: L => by
    show (keysI (bkK L)).map (p.1 :: ·) = _
    rw [keysI_bk L]; rfl
theorem lt_eq : ∀ {xs ys : List Int}, xs.Pairwise (· < ·) → ys.Pairwise (· < ·) → (∀ z, z ∈ xs ↔ z ∈ ys) → xs = ys
  | [], [], _, _, _ => rfl
  | [], y :: ys, _, _, h => absurd ((h y).mpr List.mem_cons_self) (by simp)
  | x :: xs, [], _, _, h => absurd ((h x).mp List.mem_cons_self) (by simp)
  | x :: xs, y :: ys, h1, h2, h => by
    rw [List.pairwise_cons] at h1 h2
    have e : x = y := by
      rcases List.mem_cons.mp ((h x).mp List.mem_cons_self) with a | a
      · exact a
      · rcases List.mem_cons.mp ((h y).mpr List.mem_cons_self) with b | b
        · exact b.symm
        · have := h1.1 y b
          have := h2.1 x a
          omega
    subst e
    congr 1
    refine lt_eq h1.2 h2.2 fun z => ?_
    constructor
    · intro hz
      rcases List.mem_cons.mp ((h z).mp (List.mem_cons_of_mem _ hz)) with q | q
      · have := h1.1 z hz; omega
      · exact q
    · intro hz
      rcases List.mem_cons.mp ((h z).mpr (List.mem_cons_of_mem _ hz)) with q | q
      · have := h2.1 z hz; omega
      · exact q
theorem isort_lt {xs : List Int} (h : xs.Nodup) : (isortI xs).Pairwise (· < ·) := by
  have nd : (isortI xs).Nodup := (isortI_perm xs).nodup_iff.mpr h
  exact (isortI_pw xs).imp₂ (fun a b h1 h2 => by omega) nd
theorem mk_eq {L M : Bk} (hL : NdB L) (hM : NdB M) (h : ∀ a, getB L a = getB M a) : (isortI (L.map (·.1))).filter (fun a => (getB L a).1) = (isortI (M.map (·.1))).filter (fun a => (getB M a).1) := by
  have mem : ∀ (L : Bk) (z : Int), z ∈ (isortI (L.map (·.1))).filter (fun a => (getB L a).1) ↔ (getB L z).1 = true := fun L z => by
    rw [List.mem_filter, (isortI_perm _).mem_iff]
    constructor
    · exact fun q => q.2
    · intro q
      refine ⟨?_, q⟩
      apply Classical.byContradiction
      intro hn
      unfold getB at q
      rw [fnd_none.mpr hn] at q
      cases q
  refine lt_eq ((isort_lt hL).filter _) ((isort_lt hM).filter _) fun z => ?_
  rw [mem, mem, h]
structure CAt (S : Store) (c d : Nat) (L : Bk) : Prop where
  obj : S[c]? = some (.ins cl_Cells [Str.ofString "own_cells"] [.loc d])
  dic : S[d]? = some (.dK (bkK L) (bkX L))
theorem CAt.ne {S : Store} {c d : Nat} {L : Bk} (h : CAt S c d L) : c ≠ d := fun e => by
  have := h.obj
  rw [e, h.dic] at this
  cases this
theorem CAt.lt {S : Store} {c d : Nat} {L : Bk} (h : CAt S c d L) : d < S.length := (List.getElem?_eq_some_iff.mp h.dic).1
theorem CAt.set {S : Store} {c d : Nat} {L M : Bk} (h : CAt S c d L) : CAt (S.set d (.dK (bkK M) (bkX M))) c d M :=
  ⟨by rw [List.getElem?_set_ne (Ne.symm h.ne)]; exact h.obj, by rw [List.getElem?_set_self h.lt]⟩
theorem CAt.atr {S : Store} {c d : Nat} {L : Bk} (h : CAt S c d L) : atrD (isC cl_Cells) (Str.ofString "own_cells") S (.loc c) = some (.loc d) := by
  have : insAt S (.loc c) = some (cl_Cells, [Str.ofString "own_cells"], [.loc d]) := by simp only [insAt, h.obj]
  simp [atrD, this, isC]
theorem CAt.ty {S : Store} {c d : Nat} {L : Bk} (h : CAt S c d L) : tyM S (.loc d) = some "dict" := by simp only [tyM, h.dic]
theorem CAt.dct {S : Store} {c d : Nat} {L : Bk} (h : CAt S c d L) : dictAt S (.loc d) = some (bkK L, bkX L) := by simp only [dictAt, h.dic]
theorem met_eq {S S1 : Store} {c d : Nat} {L : Bk} {m : Str} {g : List Ev.D → Store → Res Ev.D} {o : RE} {as : RA} {e : Ev.Env} (h : CAt S1 c d L) (ho : o e S = .ok (.loc c) S1) (hm : m ≠ Str.ofString "own_cells") : rMet cl_Cells m g o as e S = (as e S1).bind fun xs S2 => g (.loc c :: xs) S2 := by
  unfold rMet
  rw [ho, bind_ok]
  simp only [insAt, h.obj]
  rw [if_pos ⟨trivial, by simpa using hm⟩]
theorem is_addr {S : Store} {a : Int} : g_is_address [.int a] S = .ok (.bl (decide (0 ≤ a) && decide (a < 4096))) S := by
  unfold g_is_address runDef m_is_address g_is_whole runDef m_is_whole
  by_cases c1 : 0 ≤ a <;> by_cases c2 : a < 4096 <;> simp [c1, c2]
theorem cell_eq {S : Store} {c d : Nat} {L : Bk} {a : Int} (h : CAt S c d L) (h0 : 0 ≤ a) (h1 : a < 4096) : g_Cells_cell [.loc c, .int a] S = .ok (wd (getB L a)) S := by
  have ia := is_addr (S := S) (a := a)
  have gd : getDM S (.loc d) [.int a, .tup [.bl false, .int 0]] = some (wd (getB L a), S) := by
    show ((dictAt S (.loc d)).bind fun p => (Ev.keyOf (.int a)).bind fun k => some ((lkK p.1 p.2 k).getD (.tup [.bl false, .int 0]), S)) = _
    rw [h.dct]
    simp only [Option.bind_some, Ev.keyOf, lk_bk]
    unfold getB
    cases fndB L a <;> rfl
  unfold g_Cells_cell runDef m_Cells_cell
  simp [ia, h0, h1, rMth, h.atr, h.ty, gd, ofP]
theorem eq_wd {S : Store} {w v : Wd} : eqB S (wd w) (wd v) = some (decide (w = v)) := by
  obtain ⟨a, b⟩ := w
  obtain ⟨x, y⟩ := v
  show eqB S (.tup [.bl a, .int b]) (.tup [.bl x, .int y]) = _
  rw [eqB_tt]
  have q : (b == y) = decide (b = y) := by rw [Bool.eq_iff_iff]; simp
  cases a <;> cases x <;> simp [PyData.eqvAll, PyData.eqv, q]
def layB (L : Bk) (a : Int) (w : Wd) : Bk := if w = (false, 0) then delB L a else putB L a w
theorem get_lay (L : Bk) (a b : Int) (w : Wd) : getB (layB L a w) b = if b = a then w else getB L b := by
  unfold layB
  split
  · rename_i h; rw [get_del, h]
  · exact get_put L a b w
theorem nd_lay {L : Bk} (h : NdB L) (a : Int) (w : Wd) : NdB (layB L a w) := by
  unfold layB
  split
  · exact nd_del h a
  · exact nd_put h a w
theorem len_lay (L : Bk) (a : Int) (w : Wd) : (layB L a w).length ≤ L.length + 1 := by
  unfold layB
  split
  · have := len_del L a; omega
  · exact len_put L a w
theorem set_same {S : Store} {d : Nat} {o : MO} (h : S[d]? = some o) : S.set d o = S := by
  obtain ⟨h1, h2⟩ := List.getElem?_eq_some_iff.mp h
  rw [← h2]; exact List.set_getElem_self h1
theorem put_eq' {S : Store} {c d : Nat} {L : Bk} {a : Int} {w : Wd} (h : CAt S c d L) (hl : L.length < 100000) : g_Cells_put [.loc c, .int a, wd w] S = .ok .non (S.set d (.dK (bkK (layB L a w)) (bkX (layB L a w)))) := by
  have e : eqB S (wd w) (.tup [.bl false, .int 0]) = some (decide (w = (false, 0))) := eq_wd (v := (false, 0))
  have bl : (bkK L).length < sizeLine := by rw [sizeLine_eq]; simp [bkK]; omega
  unfold g_Cells_put runDef m_Cells_put
  by_cases z : w = (false, 0)
  · have ly : layB L a w = delB L a := by simp only [layB, if_pos z]
    rw [ly]
    have pp : ∃ y, popDM S (.loc d) [.int a, .non] = some (y, S.set d (.dK (bkK (delB L a)) (bkX (delB L a)))) := by
      cases q : fndB L a with
      | none =>
        have dl : delB L a = L := by
          unfold delB
          rw [List.filter_eq_self]
          intro p hp
          have := fnd_none.mp q
          simp only [ne_eq, decide_not, Bool.not_eq_true', decide_eq_false_iff_not]
          exact fun z => this (List.mem_map.mpr ⟨p, hp, z⟩)
        rw [dl, set_same h.dic]
        exact ⟨.non, by simp only [popDM, h.dic, Ev.keyOf, Option.bind_some, lk_bk, q, Option.map_none]⟩
      | some v =>
        refine ⟨wd v, ?_⟩
        simp only [popDM, h.dic, Ev.keyOf, Option.bind_some, lk_bk, q, Option.map_some, del_bk]
    obtain ⟨y, pp⟩ := pp
    rw [decide_eq_true z] at e
    simp [-eqB_tt, e, rMth, h.atr, h.ty, pp, ofP]
  · have ly : layB L a w = putB L a w := by simp only [layB, if_neg z]
    rw [ly]
    have pp : putD S (.loc d) (.int a) (wd w) = some (S.set d (.dK (bkK (putB L a w)) (bkX (putB L a w)))) := by
      simp only [putD, h.dic, Ev.keyOf, Option.bind_some, if_pos bl, put_bk]
    rw [decide_eq_false z] at e
    simp [-eqB_tt, e, h.atr, pp]
theorem put_eq {S : Store} {c d : Nat} {L : Bk} {a : Int} {w : Wd} (h : CAt S c d L) (hl : L.length < 1000) : g_Cells_put [.loc c, .int a, wd w] S = .ok .non (S.set d (.dK (bkK (layB L a w)) (bkX (layB L a w)))) := put_eq' h (by omega)
def hasR (c : Nat) (b : Int) : Bool := decide (c ∈ rc (bMsk b))
def fltW (w : Wd) (off : Int) (c : Nat) : String :=
  if w.1 = false then "mark" else if bKnd w.2 ≠ 0 then "seal" else if hasR c w.2 = false then "right" else
  if bLow w.2 ≤ bAt w.2 + off ∧ bAt w.2 + off < bHigh w.2 then "" else "bounds"
theorem ninR {S : Store} {c : Nat} {b : Int} : ninD S (.str (sC [c])) (.str (rs (bMsk b))) = some (.bl (!hasR c b)) := by rw [rs_eq, ninD_one]; rfl
theorem off_ok {S : Store} {off : Int} (h0 : -8 ≤ off) (h1 : off ≤ 15) : g_look_at_offset [.int off] S = .ok .non S := by
  unfold g_look_at_offset runDef m_look_at_offset g_is_whole runDef m_is_whole
  simp [h0, h1]
theorem fD_of {w : Wd} (h : LW w.1 w.2) (hm : w.1 = true) : fD w.2 = .tup [.int (bLow w.2), .int (bHigh w.2), .int (bAt w.2), .str (rs (bMsk w.2)), .int (bKnd w.2)] := by
  unfold fD
  rw [if_pos (h.2.2 hm).1]
theorem addr_by {S : Store} {w : Wd} {off : Int} {c : Nat} (h : LW w.1 w.2) (h0 : -8 ≤ off) (h1 : off ≤ 15) :
    g_address_by [wd w, .int off, .str (sC [c]), .bl false] S = if fltW w off c = "" then .ok (.int (bAt w.2 + off)) S else .err ⟨cl_Fault, [Str.ofString "word"], [.str (Str.ofString (fltW w off c))]⟩ S := by
  have lo := off_ok (S := S) h0 h1
  have fe : g_fields_of [wd w] S = .ok (fD w.2) S := fields_eq h.1
  have i0 : ixD S (wd w) (.int 0) = some (.bl w.1) := by simp [wd, ixD, atI, ixN]
  have nr := ninR (S := S) (c := c) (b := w.2)
  unfold g_address_by runDef m_address_by fltW
  cases hm : w.1 with
  | false =>
    rw [hm] at i0
    simp [lo, i0]
  | true =>
    rw [hm] at i0
    rw [fD_of h hm] at fe
    by_cases k : bKnd w.2 = 0
    · cases hr : hasR c w.2 with
      | false =>
        rw [hr] at nr
        simp [lo, i0, fe, k, nr]
      | true =>
        rw [hr] at nr
        by_cases b1 : bLow w.2 ≤ bAt w.2 + off
        · by_cases b2 : bAt w.2 + off < bHigh w.2
          · simp [lo, i0, fe, k, nr, b1, b2]
          · simp [lo, i0, fe, k, nr, b1, b2]
        · simp [lo, i0, fe, k, nr, b1]
    · simp [lo, i0, fe, k]
theorem litsC : (Str.ofString "r" = sC [114] ∧ Str.ofString "w" = sC [119] ∧ Str.ofString "l" = sC [108]) ∧ (Str.ofString "s" = sC [115] ∧ Str.ofString "n" = sC [110] ∧ Str.ofString "f" = sC [102]) := by decide +kernel
theorem flt_none {w : Wd} {off : Int} {c : Nat} (h : fltW w off c = "") : w.1 = true ∧ bKnd w.2 = 0 ∧ hasR c w.2 = true ∧ bLow w.2 ≤ bAt w.2 + off ∧ bAt w.2 + off < bHigh w.2 := by
  unfold fltW at h
  split at h
  · exact absurd h (by decide)
  · rename_i h1
    split at h
    · exact absurd h (by decide)
    · rename_i h2
      split at h
      · exact absurd h (by decide)
      · rename_i h3
        split at h
        · rename_i h4
          exact ⟨by simpa using h1, by simpa using h2, by simpa using h3, h4.1, h4.2⟩
        · exact absurd h (by decide)
theorem addr_range {w : Wd} {off : Int} {c : Nat} (hw : LW w.1 w.2) (h : fltW w off c = "") : 0 ≤ bAt w.2 + off ∧ bAt w.2 + off < 4096 := by
  obtain ⟨h1, h2, h3, h4, h5⟩ := flt_none h
  have tl := (hw.2.2 h1).1
  have hh : bHigh w.2 ≤ 4096 := by
    unfold tells at tl
    simp only [Bool.and_eq_true, decide_eq_true_eq] at tl
    exact tl.2
  have hl : 0 ≤ bLow w.2 := by
    unfold bLow
    exact Int.mul_nonneg (by unfold bFst; omega) (Int.le_of_lt (Int.pow_pos (by decide)))
  omega
def fltS (w v : Wd) : String := if v.1 = true ∧ hasR 115 w.2 = false then "store" else if v.1 = true ∧ hasR 102 v.2 = false ∧ hasR 110 w.2 = false then "near" else ""
theorem stored_eq {S : Store} {w v : Wd} (hw : LW w.1 w.2) (hm : w.1 = true) (hv : LW v.1 v.2) : g_look_at_stored [wd w, wd v] S = if fltS w v = "" then .ok .non S else .err ⟨cl_Fault, [Str.ofString "word"], [.str (Str.ofString (fltS w v))]⟩ S := by
  obtain ⟨⟨l1, l2, l3⟩, l4, l5, l6⟩ := litsC
  have fe : g_fields_of [wd w] S = .ok (fD w.2) S := fields_eq hw.1
  have fv : g_fields_of [wd v] S = .ok (fD v.2) S := fields_eq hv.1
  rw [fD_of hw hm] at fe
  have i3 : ∀ b : Int, ixD S (.tup [.int (bLow b), .int (bHigh b), .int (bAt b), .str (rs (bMsk b)), .int (bKnd b)]) (.int 3) = some (.str (rs (bMsk b))) := fun b => by simp [ixD, atI, ixN]
  have i0 : ixD S (wd v) (.int 0) = some (.bl v.1) := by simp [wd, ixD, atI, ixN]
  have ns := ninR (S := S) (c := 115) (b := w.2)
  have nn := ninR (S := S) (c := 110) (b := w.2)
  have nf := ninR (S := S) (c := 102) (b := v.2)
  unfold g_look_at_stored runDef m_look_at_stored fltS
  cases hb : v.1 with
  | false =>
    rw [hb] at i0
    simp [fe, i3, i0]
  | true =>
    rw [hb] at i0
    rw [fD_of hv hb] at fv
    cases h1 : hasR 115 w.2 <;> cases h2 : hasR 102 v.2 <;> cases h3 : hasR 110 w.2 <;> rw [h1] at ns <;> rw [h2] at nf <;> rw [h3] at nn <;> simp [fe, fv, i3, i0, l4, l5, l6, ns, nf, nn]
theorem store_eq {S : Store} {c d : Nat} {L : Bk} {w v : Wd} {off : Int} (h : CAt S c d L) (hl : L.length < 1000) (hw : LW w.1 w.2) (hv : LW v.1 v.2) (h0 : -8 ≤ off) (h1 : off ≤ 15) :
    g_Cells_store [.loc c, wd w, .int off, wd v] S = if fltW w off 119 = "" then (if fltS w v = "" then .ok .non (S.set d (.dK (bkK (layB L (bAt w.2 + off) v)) (bkX (layB L (bAt w.2 + off) v)))) else .err ⟨cl_Fault, [Str.ofString "word"], [.str (Str.ofString (fltS w v))]⟩ S) else .err ⟨cl_Fault, [Str.ofString "word"], [.str (Str.ofString (fltW w off 119))]⟩ S := by
  obtain ⟨⟨l1, l2, l3⟩, l4, l5, l6⟩ := litsC
  have ab := addr_by (S := S) (c := 119) hw h0 h1
  unfold g_Cells_store runDef m_Cells_store
  by_cases f : fltW w off 119 = ""
  · rw [if_pos f] at ab ⊢
    obtain ⟨m1, _⟩ := flt_none f
    have se := stored_eq (S := S) hw m1 hv
    have pe := put_eq (a := bAt w.2 + off) (w := v) h hl
    have me := met_eq (S := S) (S1 := S) (m := Str.ofString "put") (g := g_Cells_put) (o := rVar 0) (as := rCons (rVar 4) (rCons (rVar 3) rNil)) (e := [some (.loc c), some (wd w), some (.int off), some (wd v), some (.int (bAt w.2 + off))]) h (by simp) (by decide +kernel)
    by_cases g : fltS w v = ""
    · rw [if_pos g] at se ⊢
      simp [l2, ab, se, me, pe]
    · rw [if_neg g] at se ⊢
      simp [l2, ab, se]
  · rw [if_neg f] at ab ⊢
    simp [l2, ab]
def pkW (v : Wd) (n : Int) : Wd := (false, v.2 - v.2 % 268435456 + n % 268435456)
theorem poke_eq {S : Store} {c d : Nat} {L : Bk} {w : Wd} {off n : Int} (h : CAt S c d L) (hl : L.length < 1000) (hw : LW w.1 w.2) (h0 : -8 ≤ off) (h1 : off ≤ 15) :
    g_Cells_poke [.loc c, wd w, .int off, .int n] S = if fltW w off 119 = "" then .ok .non (S.set d (.dK (bkK (layB L (bAt w.2 + off) (pkW (getB L (bAt w.2 + off)) n))) (bkX (layB L (bAt w.2 + off) (pkW (getB L (bAt w.2 + off)) n))))) else .err ⟨cl_Fault, [Str.ofString "word"], [.str (Str.ofString (fltW w off 119))]⟩ S := by
  obtain ⟨⟨l1, l2, l3⟩, l4, l5, l6⟩ := litsC
  have ab := addr_by (S := S) (c := 119) hw h0 h1
  unfold g_Cells_poke runDef m_Cells_poke
  have me := met_eq (S := S) (S1 := S) (m := Str.ofString "put_lowest") (g := g_Cells_put_lowest) (o := rVar 0) (as := rCons (rCallK g_address_by [.p 0, .p 1, .p 2, .c (.bl false)] (rCons (rVar 1) (rCons (rVar 2) (rCons (rCon (.str "w")) rNil))) rNil) (rCons (rVar 3) rNil)) (e := [some (.loc c), some (wd w), some (.int off), some (.int n)]) h (by simp) (by decide +kernel)
  rw [l2] at me
  by_cases f : fltW w off 119 = ""
  · rw [if_pos f] at ab ⊢
    obtain ⟨z1, z2⟩ := addr_range hw f
    have ce := cell_eq h z1 z2
    have pl : g_Cells_put_lowest [.loc c, .int (bAt w.2 + off), .int n] S = .ok .non (S.set d (.dK (bkK (layB L (bAt w.2 + off) (pkW (getB L (bAt w.2 + off)) n))) (bkX (layB L (bAt w.2 + off) (pkW (getB L (bAt w.2 + off)) n))))) := by
      have i1 : ixD S (wd (getB L (bAt w.2 + off))) (.int 1) = some (.int (getB L (bAt w.2 + off)).2) := by simp [wd, ixD, atI, ixN]
      have m1 := met_eq (S := S) (S1 := S) (m := Str.ofString "cell") (g := g_Cells_cell) (o := rVar 0) (as := rCons (rVar 1) rNil) (e := [some (.loc c), some (.int (bAt w.2 + off)), some (.int n), none]) h (by simp) (by decide +kernel)
      have m2 := met_eq (S := S) (S1 := S) (m := Str.ofString "put") (g := g_Cells_put) (o := rVar 0) (as := rCons (rVar 1) (rCons (rTup (rCons (rCon (.bl false)) (rCons (rBin addD (rBin subD (rVar 3) (rBin modD (rVar 3) (rCon (.int 268435456)))) (rBin modD (rVar 2) (rCon (.int 268435456)))) rNil))) rNil)) (e := [some (.loc c), some (.int (bAt w.2 + off)), some (.int n), some (.int (getB L (bAt w.2 + off)).2)]) h (by simp) (by decide +kernel)
      have pe := put_eq (a := bAt w.2 + off) (w := pkW (getB L (bAt w.2 + off)) n) h hl
      have ew : wd (pkW (getB L (bAt w.2 + off)) n) = .tup [.bl false, .int ((getB L (bAt w.2 + off)).2 - (getB L (bAt w.2 + off)).2 % 268435456 + n % 268435456)] := rfl
      rw [ew] at pe
      unfold g_Cells_put_lowest runDef m_Cells_put_lowest
      simp [m1, ce, i1, m2, pe]
    simp [l2, me, ab, pl]
  · rw [if_neg f] at ab ⊢
    simp [l2, me, ab]
def noA : Exn := ⟨cl_NoAddress, [], []⟩
def noW : Exn := ⟨cl_NoWord, [], []⟩
def noO : Exn := ⟨cl_NoOffset, [], []⟩
def isA : Ev.D → Bool
  | .int i => decide (0 ≤ i) && decide (i < 4096)
  | _ => false
def isO : Ev.D → Bool
  | .int i => decide (-8 ≤ i) && decide (i ≤ 15)
  | _ => false
section
variable {S : Store} {c d : Nat} {L : Bk} {t u w : Ev.D}
theorem addr_no (h : Typed S t) (hn : isA t = false) : g_is_address [t] S = .ok (.bl false) S := by
  have iw := is_whole_eq h
  unfold g_is_address runDef m_is_address
  cases hw : isW t with
  | false => rw [hw] at iw; simp [iw]
  | true =>
    rw [hw] at iw
    obtain ⟨i, rfl⟩ : ∃ i, t = .int i := by cases t <;> first | exact ⟨_, rfl⟩ | simp [isW] at hw
    have hn' : (decide (0 ≤ i) && decide (i < 4096)) = false := hn
    by_cases h0 : 0 ≤ i
    · have h1 : ¬ i < 4096 := by
        intro z
        simp [h0, z] at hn'
      simp [iw, h0, h1]
    · simp [iw, h0]
theorem cell_no (h : Typed S t) (hn : isA t = false) : g_Cells_cell [.loc c, t] S = .err noA S := by
  have a := addr_no h hn
  unfold g_Cells_cell runDef m_Cells_cell
  simp [a, noA]
theorem lay_no (h : Typed S t) (hn : isA t = false) : g_Cells_lay [.loc c, t, w] S = .err noA S := by
  have a := addr_no h hn
  unfold g_Cells_lay runDef m_Cells_lay
  simp [a, noA]
theorem lay_now {i : Int} (h0 : 0 ≤ i) (h1 : i < 4096) (hv : g_is_lawful [w] S = .ok (.bl false) S) : g_Cells_lay [.loc c, .int i, w] S = .err noW S := by
  have a := is_addr (S := S) (a := i)
  unfold g_Cells_lay runDef m_Cells_lay
  simp [a, h0, h1, hv, noW]
theorem off_no (h : Typed S t) (hn : isO t = false) : g_look_at_offset [t] S = .err noO S := by
  have iw := is_whole_eq h
  unfold g_look_at_offset runDef m_look_at_offset
  cases hw : isW t with
  | false => rw [hw] at iw; simp [iw, noO]
  | true =>
    rw [hw] at iw
    obtain ⟨i, rfl⟩ : ∃ i, t = .int i := by cases t <;> first | exact ⟨_, rfl⟩ | simp [isW] at hw
    have hn' : (decide (-8 ≤ i) && decide (i ≤ 15)) = false := hn
    by_cases h0 : -8 ≤ i
    · have h1 : ¬ i ≤ 15 := by
        intro z
        simp [h0, z] at hn'
      simp [iw, h0, h1, noO]
    · simp [iw, h0, noO]
theorem by_no {r f : Ev.D} (h : Typed S t) (hn : isO t = false) : g_address_by [w, t, r, f] S = .err noO S := by
  have o := off_no h hn
  unfold g_address_by runDef m_address_by
  simp [o]
theorem load_no (q : CAt S c d L) (h : Typed S t) (hn : isO t = false) : g_Cells_load [.loc c, w, t] S = .err noO S := by
  have o := by_no (w := w) (r := .str (Str.ofString "r")) (f := .bl false) h hn
  have me := met_eq (S := S) (S1 := S) (m := Str.ofString "cell") (g := g_Cells_cell) (o := rVar 0) (as := rCons (rCallK g_address_by [.p 0, .p 1, .p 2, .c (.bl false)] (rCons (rVar 1) (rCons (rVar 2) (rCons (rCon (.str (Str.ofString "r"))) rNil))) rNil) rNil) (e := [some (.loc c), some w, some t, none]) q (by simp) (by decide +kernel)
  unfold g_Cells_load runDef m_Cells_load
  simp [me, o]
theorem store_no {v : Ev.D} (h : Typed S t) (hn : isO t = false) : g_Cells_store [.loc c, w, t, v] S = .err noO S := by
  have o := by_no (w := w) (r := .str (Str.ofString "w")) (f := .bl false) h hn
  unfold g_Cells_store runDef m_Cells_store
  simp [o]
theorem poke_no {v : Ev.D} (q : CAt S c d L) (h : Typed S t) (hn : isO t = false) : g_Cells_poke [.loc c, w, t, v] S = .err noO S := by
  have o := by_no (w := w) (r := .str (Str.ofString "w")) (f := .bl false) h hn
  have me := met_eq (S := S) (S1 := S) (m := Str.ofString "put_lowest") (g := g_Cells_put_lowest) (o := rVar 0) (as := rCons (rCallK g_address_by [.p 0, .p 1, .p 2, .c (.bl false)] (rCons (rVar 1) (rCons (rVar 2) (rCons (rCon (.str (Str.ofString "w"))) rNil))) rNil) (rCons (rVar 3) rNil)) (e := [some (.loc c), some w, some t, some v]) q (by simp) (by decide +kernel)
  unfold g_Cells_poke runDef m_Cells_poke
  simp [me, o]
theorem clear_no (h : Typed S t) (h2 : Typed S u) (hn : bnd t u = none) : g_Cells_clear [.loc c, t, u] S = .err noB S := by
  have o := look_eq h h2
  rw [hn] at o
  unfold g_Cells_clear runDef m_Cells_clear
  simp at o
  simp [o]
theorem marked_no (h : Typed S t) (h2 : Typed S u) (hn : bnd t u = none) : g_Cells_marked [.loc c, t, u] S = .err noB S := by
  have o := look_eq h h2
  rw [hn] at o
  unfold g_Cells_marked runDef m_Cells_marked
  simp at o
  simp [o]
end
section
variable {S : Store} {c d : Nat} {L : Bk} {t w : Ev.D}
theorem met_C {m : String} {g : List Ev.D → Store → Res Ev.D} {S0 S' : Store} {o : RE} {as : RA} {e : Ev.Env} {xs : List Ev.D} (h : CAt S c d L) (hm : Str.ofString m ≠ Str.ofString "own_cells") (ho : o e S0 = .ok (.loc c) S) (ha : as e S = .ok xs S') : (rMet cl_Cells (Str.ofString m) g o as) e S0 = g (.loc c :: xs) S' := by
  rw [met_eq h ho hm, ha]; rfl
theorem metD_C {m : String} {g : List Ev.D → Store → Res Ev.D} {is : List Int} {S0 S' : Store} {o : RE} {as : RA} {e : Ev.Env} {xs : List Ev.D} (h : CAt S c d L) (hm : Str.ofString m ≠ Str.ofString "own_cells") (ho : o e S0 = .ok (.loc c) S) (ha : as e S = .ok xs S') : (rMetD cl_Cells (Str.ofString m) g is o as) e S0 = g (.loc c :: (xs ++ is.map Ev.D.int)) S' := by
  have i : insAt S (.loc c) = some (cl_Cells, [Str.ofString "own_cells"], [.loc d]) := by simp only [insAt, h.obj]
  have nm : ¬ Str.ofString m ∈ [Str.ofString "own_cells"] := by simp only [List.mem_singleton]; exact hm
  unfold rMetD
  rw [ho, bind_ok]
  simp [i, nm, ha]
end
def bodyS : RS := (sIf (rTest (rBin eqD (rVar 1) (rCon (.int 0))))
    (sExp (rMet cl_Cells "cell" g_Cells_cell (rVar 0) (rCons (rVar 2) rNil)))
    (sIf (rTest (rBin eqD (rVar 1) (rCon (.int 1))))
    (sExp (rMet cl_Cells "lay" g_Cells_lay (rVar 0) (rCons (rVar 2) (rCons (rVar 3) rNil))))
    (sIf (rTest (rBin eqD (rVar 1) (rCon (.int 2))))
    (sExp (rMet cl_Cells "lay" g_Cells_lay (rVar 0) (rCons (rCon (.int 5)) (rCons (rVar 2) rNil))))
    (sIf (rTest (rBin eqD (rVar 1) (rCon (.int 3))))
    (sExp (rMet cl_Cells "load" g_Cells_load (rVar 0) (rCons (rVar 3) (rCons (rVar 2) rNil))))
    (sIf (rTest (rBin eqD (rVar 1) (rCon (.int 4))))
    (sExp (rMet cl_Cells "store" g_Cells_store (rVar 0) (rCons (rVar 3) (rCons (rVar 2) (rCons (rTup (rCons (rCon (.bl false)) (rCons (rCon (.int 0)) rNil))) rNil)))))
    (sIf (rTest (rBin eqD (rVar 1) (rCon (.int 5))))
    (sExp (rMet cl_Cells "poke" g_Cells_poke (rVar 0) (rCons (rVar 3) (rCons (rVar 2) (rCons (rCon (.int 0)) rNil)))))
    (sIf (rTest (rBin eqD (rVar 1) (rCon (.int 6))))
    (sExp (rMet cl_Cells "clear" g_Cells_clear (rVar 0) (rCons (rVar 2) (rCons (rCon (.int 4)) rNil))))
    (sIf (rTest (rBin eqD (rVar 1) (rCon (.int 7))))
    (sExp (rMetD cl_Cells "marked" g_Cells_marked [] (rVar 0) (rCons (rVar 2) (rCons (rCon (.int 4)) rNil))))
    (sIf (rTest (rBin eqD (rVar 1) (rCon (.int 8))))
    (sExp (rMet cl_Cells "clear" g_Cells_clear (rVar 0) (rCons (rCon (.int 0)) (rCons (rVar 2) rNil))))
    (sIf (rTest (rBin eqD (rVar 1) (rCon (.int 9))))
    (sExp (rMetD cl_Cells "marked" g_Cells_marked [] (rVar 0) (rCons (rCon (.int 0)) (rCons (rVar 2) rNil))))
    (sIf (rTest (rBin eqD (rVar 1) (rCon (.int 10))))
    (sExp (rMet cl_Cells "clear" g_Cells_clear (rVar 0) (rCons (rBin ixD (rVar 2) (rCon (.int 0))) (rCons (rBin ixD (rVar 2) (rCon (.int 1))) rNil))))
    (sIf (rTest (rBin eqD (rVar 1) (rCon (.int 11))))
    (sExp (rMetD cl_Cells "marked" g_Cells_marked [] (rVar 0) (rCons (rBin ixD (rVar 2) (rCon (.int 0))) (rCons (rBin ixD (rVar 2) (rCon (.int 1))) rNil))))
    (sExp (rMet cl_Cells "lay" g_Cells_lay (rVar 0) (rCons (rVar 2) (rCons (rCon .non) rNil))))))))))))))))
def tailS : RS := (sSeq (sSet 6 (rLst (rCons (rUn (isiQ kq_NoAddress) (rVar 4)) (rCons (rUn (isiQ kq_NoWord) (rVar 4)) (rCons (rUn (isiQ kq_NoOffset) (rVar 4)) rNil)))))
    (sSeq (sSet 6 (rBin addD (rVar 6) (rLst (rCons (rUn (isiQ kq_NoBounds) (rVar 4)) (rCons (rUn (isiQ kq_Fault) (rVar 4)) rNil)))))
    (sRet (rLc frzL (rRan ran1 (rCons (rCon (.int 5)) rNil)) (.nm 7) [7] (rTruth (rBin ixD (rVar 6) (rVar 7))) (rVar 7)))))
theorem said_is : m_law_said = sSeq (sSet 4 (rCon .non)) (sSeq (sTryAs sub_ReachError 5 bodyS (sSet 4 (rVar 5))) tailS) := rfl
theorem tail_A {a0 a1 a2 a3 : Option Ev.D} {S : Store} : tailS [a0, a1, a2, a3, some (.exn cl_NoAddress [] []), none, none, none] S = .rt (.lst [.int 0]) S := by kernel_rfl
theorem tail_W {a0 a1 a2 a3 : Option Ev.D} {S : Store} : tailS [a0, a1, a2, a3, some (.exn cl_NoWord [] []), none, none, none] S = .rt (.lst [.int 1]) S := by kernel_rfl
theorem tail_O {a0 a1 a2 a3 : Option Ev.D} {S : Store} : tailS [a0, a1, a2, a3, some (.exn cl_NoOffset [] []), none, none, none] S = .rt (.lst [.int 2]) S := by kernel_rfl
theorem tail_B {a0 a1 a2 a3 : Option Ev.D} {S : Store} : tailS [a0, a1, a2, a3, some (.exn cl_NoBounds [] []), none, none, none] S = .rt (.lst [.int 3]) S := by kernel_rfl
theorem said_er {S : Store} {c : Nat} {k : Int} {t w : Ev.D} {x : Nat} {i : Int} (hs : sub_ReachError x = some true) (ht : ∀ a0 a1 a2 a3 : Option Ev.D, tailS [a0, a1, a2, a3, some (.exn x [] []), none, none, none] S = .rt (.lst [.int i]) S)
    (hb : bodyS [some (.loc c), some (.int k), some t, some w, some .non, none, none, none] S = .er ⟨x, [], []⟩ [some (.loc c), some (.int k), some t, some w, some .non, none, none, none] S) : g_law_said [.loc c, .int k, t, w] S = .ok (.lst [.int i]) S := by
  unfold g_law_said runDef
  rw [said_is]
  simp [hb, catchAs, hs, Fl.clr, ht]
section
variable {S : Store} {c d : Nat} {L : Bk} {t w : Ev.D}
theorem said_0 (q : CAt S c d L) (ht : Typed S t) (hn : isA t = false) : g_law_said [.loc c, .int 0, t, w] S = .ok (.lst [.int 0]) S := by
  have me := met_C (S0 := S) (S' := S) (m := "cell") (g := g_Cells_cell) (o := rVar 0) (as := rCons (rVar 2) rNil) (e := [some (.loc c), some (.int 0), some t, some w, some .non, none, none, none]) (xs := [t]) q (by decide +kernel) (by simp) (by simp)
  have er := cell_no (c := c) ht hn
  exact said_er rfl (fun _ _ _ _ => tail_A) (by simp [bodyS, me, er, noA])
theorem said_1 (q : CAt S c d L) (ht : Typed S t) (hn : isA t = false) : g_law_said [.loc c, .int 1, t, w] S = .ok (.lst [.int 0]) S := by
  have me := met_C (S0 := S) (S' := S) (m := "lay") (g := g_Cells_lay) (o := rVar 0) (as := rCons (rVar 2) (rCons (rVar 3) rNil)) (e := [some (.loc c), some (.int 1), some t, some w, some .non, none, none, none]) (xs := [t, w]) q (by decide +kernel) (by simp) (by simp)
  have er := lay_no (c := c) (w := w) ht hn
  exact said_er rfl (fun _ _ _ _ => tail_A) (by simp [bodyS, me, er, noA])
theorem said_3 (q : CAt S c d L) (ht : Typed S t) (hn : isO t = false) : g_law_said [.loc c, .int 3, t, w] S = .ok (.lst [.int 2]) S := by
  have me := met_C (S0 := S) (S' := S) (m := "load") (g := g_Cells_load) (o := rVar 0) (as := rCons (rVar 3) (rCons (rVar 2) rNil)) (e := [some (.loc c), some (.int 3), some t, some w, some .non, none, none, none]) (xs := [w, t]) q (by decide +kernel) (by simp) (by simp)
  have er := load_no (w := w) q ht hn
  exact said_er rfl (fun _ _ _ _ => tail_O) (by simp [bodyS, me, er, noO])
theorem said_4 (q : CAt S c d L) (ht : Typed S t) (hn : isO t = false) : g_law_said [.loc c, .int 4, t, w] S = .ok (.lst [.int 2]) S := by
  have me := met_C (S0 := S) (S' := S) (m := "store") (g := g_Cells_store) (o := rVar 0) (as := rCons (rVar 3) (rCons (rVar 2) (rCons (rTup (rCons (rCon (.bl false)) (rCons (rCon (.int 0)) rNil))) rNil))) (e := [some (.loc c), some (.int 4), some t, some w, some .non, none, none, none]) (xs := [w, t, .tup [.bl false, .int 0]]) q (by decide +kernel) (by simp) (by simp)
  have er := store_no (c := c) (w := w) (v := .tup [.bl false, .int 0]) ht hn
  exact said_er rfl (fun _ _ _ _ => tail_O) (by simp [bodyS, me, er, noO])
theorem said_5 (q : CAt S c d L) (ht : Typed S t) (hn : isO t = false) : g_law_said [.loc c, .int 5, t, w] S = .ok (.lst [.int 2]) S := by
  have me := met_C (S0 := S) (S' := S) (m := "poke") (g := g_Cells_poke) (o := rVar 0) (as := rCons (rVar 3) (rCons (rVar 2) (rCons (rCon (.int 0)) rNil))) (e := [some (.loc c), some (.int 5), some t, some w, some .non, none, none, none]) (xs := [w, t, .int 0]) q (by decide +kernel) (by simp) (by simp)
  have er := poke_no (w := w) (v := .int 0) q ht hn
  exact said_er rfl (fun _ _ _ _ => tail_O) (by simp [bodyS, me, er, noO])
theorem said_6 (q : CAt S c d L) (ht : Typed S t) (hn : bnd t (.int 4) = none) : g_law_said [.loc c, .int 6, t, w] S = .ok (.lst [.int 3]) S := by
  have me := met_C (S0 := S) (S' := S) (m := "clear") (g := g_Cells_clear) (o := rVar 0) (as := rCons (rVar 2) (rCons (rCon (.int 4)) rNil)) (e := [some (.loc c), some (.int 6), some t, some w, some .non, none, none, none]) (xs := [t, .int 4]) q (by decide +kernel) (by simp) (by simp)
  have er := clear_no (c := c) ht ⟨_, rfl⟩ hn
  exact said_er rfl (fun _ _ _ _ => tail_B) (by simp [bodyS, me, er, noB])
theorem said_7 (q : CAt S c d L) (ht : Typed S t) (hn : bnd t (.int 4) = none) : g_law_said [.loc c, .int 7, t, w] S = .ok (.lst [.int 3]) S := by
  have me := metD_C (S0 := S) (S' := S) (m := "marked") (g := g_Cells_marked) (is := []) (o := rVar 0) (as := rCons (rVar 2) (rCons (rCon (.int 4)) rNil)) (e := [some (.loc c), some (.int 7), some t, some w, some .non, none, none, none]) (xs := [t, .int 4]) q (by decide +kernel) (by simp) (by simp)
  have er := marked_no (c := c) ht ⟨_, rfl⟩ hn
  exact said_er rfl (fun _ _ _ _ => tail_B) (by simp [bodyS, me, er, noB])
theorem said_8 (q : CAt S c d L) (ht : Typed S t) (hn : bnd (.int 0) t = none) : g_law_said [.loc c, .int 8, t, w] S = .ok (.lst [.int 3]) S := by
  have me := met_C (S0 := S) (S' := S) (m := "clear") (g := g_Cells_clear) (o := rVar 0) (as := rCons (rCon (.int 0)) (rCons (rVar 2) rNil)) (e := [some (.loc c), some (.int 8), some t, some w, some .non, none, none, none]) (xs := [.int 0, t]) q (by decide +kernel) (by simp) (by simp)
  have er := clear_no (c := c) ⟨_, rfl⟩ ht hn
  exact said_er rfl (fun _ _ _ _ => tail_B) (by simp [bodyS, me, er, noB])
theorem said_9 (q : CAt S c d L) (ht : Typed S t) (hn : bnd (.int 0) t = none) : g_law_said [.loc c, .int 9, t, w] S = .ok (.lst [.int 3]) S := by
  have me := metD_C (S0 := S) (S' := S) (m := "marked") (g := g_Cells_marked) (is := []) (o := rVar 0) (as := rCons (rCon (.int 0)) (rCons (rVar 2) rNil)) (e := [some (.loc c), some (.int 9), some t, some w, some .non, none, none, none]) (xs := [.int 0, t]) q (by decide +kernel) (by simp) (by simp)
  have er := marked_no (c := c) ⟨_, rfl⟩ ht hn
  exact said_er rfl (fun _ _ _ _ => tail_B) (by simp [bodyS, me, er, noB])
theorem said_12 (q : CAt S c d L) (ht : Typed S t) (hn : isA t = false) : g_law_said [.loc c, .int 12, t, w] S = .ok (.lst [.int 0]) S := by
  have me := met_C (S0 := S) (S' := S) (m := "lay") (g := g_Cells_lay) (o := rVar 0) (as := rCons (rVar 2) (rCons (rCon .non) rNil)) (e := [some (.loc c), some (.int 12), some t, some w, some .non, none, none, none]) (xs := [t, .non]) q (by decide +kernel) (by simp) (by simp)
  have er := lay_no (c := c) (w := .non) ht hn
  exact said_er rfl (fun _ _ _ _ => tail_A) (by simp [bodyS, me, er, noA])
theorem said_2 (q : CAt S c d L) (hv : g_is_lawful [t] S = .ok (.bl false) S) : g_law_said [.loc c, .int 2, t, w] S = .ok (.lst [.int 1]) S := by
  have me := met_C (S0 := S) (S' := S) (m := "lay") (g := g_Cells_lay) (o := rVar 0) (as := rCons (rCon (.int 5)) (rCons (rVar 2) rNil)) (e := [some (.loc c), some (.int 2), some t, some w, some .non, none, none, none]) (xs := [.int 5, t]) q (by decide +kernel) (by simp) (by simp)
  have er := lay_now (c := c) (i := 5) (by decide) (by decide) hv
  exact said_er rfl (fun _ _ _ _ => tail_W) (by simp [bodyS, me, er, noW])
theorem said_12w (q : CAt S c d L) {i : Int} (h0 : 0 ≤ i) (h1 : i < 4096) (hv : g_is_lawful [.non] S = .ok (.bl false) S) : g_law_said [.loc c, .int 12, .int i, w] S = .ok (.lst [.int 1]) S := by
  have me := met_C (S0 := S) (S' := S) (m := "lay") (g := g_Cells_lay) (o := rVar 0) (as := rCons (rVar 2) (rCons (rCon .non) rNil)) (e := [some (.loc c), some (.int 12), some (.int i), some w, some .non, none, none, none]) (xs := [.int i, .non]) q (by decide +kernel) (by simp) (by simp)
  have er := lay_now (c := c) (i := i) h0 h1 hv
  exact said_er rfl (fun _ _ _ _ => tail_W) (by simp [bodyS, me, er, noW])
theorem said_10 (q : CAt S c d L) {i j : Int} (hn : bnd (.int i) (.int j) = none) : g_law_said [.loc c, .int 10, .tup [.int i, .int j], w] S = .ok (.lst [.int 3]) S := by
  have i0 : ixD S (.tup [.int i, .int j]) (.int 0) = some (.int i) := rfl
  have i1 : ixD S (.tup [.int i, .int j]) (.int 1) = some (.int j) := rfl
  have me := met_C (S0 := S) (S' := S) (m := "clear") (g := g_Cells_clear) (o := rVar 0) (as := rCons (rBin ixD (rVar 2) (rCon (.int 0))) (rCons (rBin ixD (rVar 2) (rCon (.int 1))) rNil)) (e := [some (.loc c), some (.int 10), some (.tup [.int i, .int j]), some w, some .non, none, none, none]) (xs := [.int i, .int j]) q (by decide +kernel) (by simp) (by simp [i0, i1])
  have er := clear_no (c := c) (S := S) (t := .int i) (u := .int j) ⟨_, rfl⟩ ⟨_, rfl⟩ hn
  exact said_er rfl (fun _ _ _ _ => tail_B) (by simp [bodyS, me, er, noB])
theorem said_11 (q : CAt S c d L) {i j : Int} (hn : bnd (.int i) (.int j) = none) : g_law_said [.loc c, .int 11, .tup [.int i, .int j], w] S = .ok (.lst [.int 3]) S := by
  have i0 : ixD S (.tup [.int i, .int j]) (.int 0) = some (.int i) := rfl
  have i1 : ixD S (.tup [.int i, .int j]) (.int 1) = some (.int j) := rfl
  have me := metD_C (S0 := S) (S' := S) (m := "marked") (g := g_Cells_marked) (is := []) (o := rVar 0) (as := rCons (rBin ixD (rVar 2) (rCon (.int 0))) (rCons (rBin ixD (rVar 2) (rCon (.int 1))) rNil)) (e := [some (.loc c), some (.int 11), some (.tup [.int i, .int j]), some w, some .non, none, none, none]) (xs := [.int i, .int j]) q (by decide +kernel) (by simp) (by simp [i0, i1])
  have er := marked_no (c := c) (S := S) (t := .int i) (u := .int j) ⟨_, rfl⟩ ⟨_, rfl⟩ hn
  exact said_er rfl (fun _ _ _ _ => tail_B) (by simp [bodyS, me, er, noB])
end
section
variable {S : Store} {c d : Nat} {L : Bk} {t w : Ev.D} {x2 x3 x5 x6 : Option Ev.D}
theorem odd1 (q : CAt S c d L) (ht : Typed S t) (hA : isA t = false) (hB : bnd t (.int 4) = none) : lb1_law_odd_so [some (.loc c), some w, x2, x3, some t, x5, x6] S = .nx [some (.loc c), some w, x2, x3, some t, x5, x6] S := by
  have a0 := said_0 (w := w) q ht hA
  have a1 := said_1 (w := w) q ht hA
  have a6 := said_6 (w := w) q ht hB
  have a7 := said_7 (w := w) q ht hB
  unfold lb1_law_odd_so
  simp [a0, a1, a6, a7, PyData.eqvAll, PyData.eqv]
theorem odd2 (q : CAt S c d L) (ht : Typed S t) (hB : bnd (.int 0) t = none) : lb2_law_odd_so [some (.loc c), some w, x2, x3, some t, x5, x6] S = .nx [some (.loc c), some w, x2, x3, some t, x5, x6] S := by
  have a8 := said_8 (w := w) q ht hB
  have a9 := said_9 (w := w) q ht hB
  unfold lb2_law_odd_so
  simp [a8, a9, PyData.eqvAll, PyData.eqv]
theorem odd3 (q : CAt S c d L) {i j : Int} (hB : bnd (.int i) (.int j) = none) : lb3_law_odd_so [some (.loc c), some w, x2, x3, some (.tup [.int i, .int j]), x5, x6] S = .nx [some (.loc c), some w, x2, x3, some (.tup [.int i, .int j]), x5, x6] S := by
  have a0 := said_10 (w := w) q hB
  have a1 := said_11 (w := w) q hB
  unfold lb3_law_odd_so
  simp [a0, a1, PyData.eqvAll, PyData.eqv]
theorem odd4 (q : CAt S c d L) (hv : g_is_lawful [t] S = .ok (.bl false) S) : lb4_law_odd_so [some (.loc c), some w, x2, x3, some t, x5, x6] S = .nx [some (.loc c), some w, x2, x3, some t, x5, x6] S := by
  have a := said_2 (w := w) q hv
  unfold lb4_law_odd_so
  simp [a, PyData.eqvAll, PyData.eqv]
theorem odd5 (q : CAt S c d L) (ht : Typed S t) (hO : isO t = false) : lb5_law_odd_so [some (.loc c), some w, x2, x3, some t, x5, x6] S = .nx [some (.loc c), some w, x2, x3, some t, x5, x6] S := by
  have a3 := said_3 (w := w) q ht hO
  have a4 := said_4 (w := w) q ht hO
  have a5 := said_5 (w := w) q ht hO
  have lc := rLc_map (it := rIt (rTup (rCons (rCon (.int 3)) (rCons (rCon (.int 4)) (rCons (rCon (.int 5)) rNil))))) (t := .nm 6) (vs := [6]) (c := rYes) (elt := rCall g_law_said (rCons (rVar 0) (rCons (rVar 6) (rCons (rVar 4) (rCons (rVar 1) rNil)))))
    (e := [some (.loc c), some w, x2, x3, some t, x5, x6]) (S := S) (h := fun i : Int => .int i) (xs := [3, 4, 5]) (fun i => [some (.loc c), some w, x2, x3, some t, x5, some (.int i)]) (fun _ => true) (fun _ => .lst [.int 2])
    (by simp) (len_small (by simp)) (fun i hi => ⟨by simp [wipeE], rfl, fun _ => by
      simp only [List.mem_cons, List.not_mem_nil, or_false] at hi
      rcases hi with rfl | rfl | rfl <;> simp [a3, a4, a5]⟩)
  rw [List.filter_eq_self.mpr (fun _ _ => rfl)] at lc
  have ml : mulL S (.lst [.lst [.int 2]]) (.int 3) = some (.lst [.lst [.int 2], .lst [.int 2], .lst [.int 2]]) := by kernel_rfl
  have ne : neD S (.lst [.lst [.int 2], .lst [.int 2], .lst [.int 2]]) (.lst [.lst [.int 2], .lst [.int 2], .lst [.int 2]]) = some (.bl false) := by kernel_rfl
  unfold lb5_law_odd_so
  simp only [sIf_eq, rTest_eq, rBin_eq, lc, List.map_cons, List.map_nil, bind_ok, rLst_eq, rCons_eq, rCon_eq, rNil_eq, ml, ofO_some, ne]
  rfl
theorem bn_ws : ∀ ws : List Wd, bnRs (ws.map fun w => PyData.tuple [.bool w.1, .int w.2]) ≤ 1940 * ws.length
  | [] => Nat.le_refl _
  | w :: ws => by
    have := bn_ws ws
    simp only [List.map_cons, bnRs, bnR, List.length_cons]
    omega
theorem ok_ws : ∀ ws : List Wd, (∀ w ∈ ws, 0 ≤ w.2 ∧ w.2 < 35184372088832) → okRs (ws.map fun w => PyData.tuple [.bool w.1, .int w.2]) = true
  | [], _ => rfl
  | w :: ws, h => by
    have ih := ok_ws ws fun v hv => h v (List.mem_cons_of_mem _ hv)
    obtain ⟨h0, h1⟩ := h w List.mem_cons_self
    have lg : w.2.natAbs.log2 < 1920 := by
      have := log2_lt (i := w.2) (k := 46) (by omega) (by omega)
      omega
    simp only [List.map_cons, okRs, okR, ih, lg, decide_true, Bool.and_self]
theorem py_ws : ∀ ws : List Wd, pyAll (pyD S 59) (ws.map wd) = some (ws.map fun w => PyData.tuple [.bool w.1, .int w.2])
  | [] => rfl
  | w :: ws => by
    have ih := py_ws ws
    simp only [List.map_cons, pyAll, ih]
    rfl
theorem repr_ws {ws : List Wd} (hl : ws.length ≤ 1000) (h : ∀ w ∈ ws, 0 ≤ w.2 ∧ w.2 < 35184372088832) : reprD S [.lst (ws.map wd)] = some (.str (PyData.list (ws.map fun w => PyData.tuple [.bool w.1, .int w.2])).shown) := by
  refine reprD_of ?_ (ok_ws ws h) ?_
  · unfold deepN
    simp only [pyD, py_ws]
    rfl
  · have := bn_ws ws
    show 2 + bnRs _ ≤ _
    omega
end
section
variable {e e' e2 : Ev.Env} {S S1 S2 S3 : Store} {a b : RE} {as : RA} {c : Nat} {d x y : Ev.D} {xs ys : List Ev.D} {k k2 : Bool} {i j : Int} {ta tb : RT} {sa sb : RS} {fl : Fl}
theorem o_var {n : Nat} (h : e[n]? = some (some d)) : (rVar n) e S = .ok d S := by rw [rVar_eq, h]
theorem o_con : (rCon d) e S = .ok d S := rCon_eq d
theorem o_nil : rNil e S = .ok [] S := rNil_eq
theorem o_cons (h1 : a e S = .ok x S1) (h2 : as e S1 = .ok xs S2) : (rCons a as) e S = .ok (x :: xs) S2 := by rw [rCons_eq, h1, bind_ok, h2, bind_ok]
theorem o_lst (h : as e S = .ok xs S1) : (rLst as) e S = .ok (.lst xs) S1 := by rw [rLst_eq, h, bind_ok]
theorem o_tup (h : as e S = .ok xs S1) : (rTup as) e S = .ok (.tup xs) S1 := by rw [rTup_eq, h, bind_ok]
theorem o_bin {f : Store → Ev.D → Ev.D → Option Ev.D} (h1 : a e S = .ok x S1) (h2 : b e S1 = .ok y S2) (hf : f S2 x y = some d) : (rBin f a b) e S = .ok d S2 := by rw [rBin_eq, h1, bind_ok, h2, bind_ok, hf, ofO_some]
theorem o_cal {f : Store → List Ev.D → Option Ev.D} (h1 : as e S = .ok xs S1) (hf : f S1 xs = some d) : (rCal f as) e S = .ok d S1 := by rw [rCal_eq, h1, bind_ok, hf, ofO_some]
theorem o_call {g : List Ev.D → Store → Res Ev.D} {r : Res Ev.D} (h1 : as e S = .ok xs S1) (hg : g xs S1 = r) : (rCall g as) e S = r := by rw [rCall_eq, h1, bind_ok, hg]
theorem o_ran {f : List Ev.D → Option (List Ev.D)} (h1 : as e S = .ok xs S1) (hf : f xs = some ys) : (rRan f as) e S = .ok ys S1 := by rw [rRan_eq, h1, bind_ok, hf, ofO_some]
theorem o_test (h : a e S = .ok (.bl k) S1) : (rTest a) e S = .ok k S1 := by rw [rTest_eq, h, bind_ok]; rfl
theorem o_truth (h : a e S = .ok (.bl k) S1) : (rTruth a) e S = .ok k S1 := by rw [rTruth_eq, h, bind_ok]; rfl
theorem o_not (h : ta e S = .ok k S1) : (rNotT ta) e S = .ok (!k) S1 := by rw [rNotT_eq, h, bind_ok]
theorem o_or_no (ha : ta e S = .ok false S1) (hb : tb e S1 = .ok k S2) : (rOrT ta tb) e S = .ok k S2 := by rw [rOrT_eq, ha, bind_ok, if_neg (by decide), hb]
theorem o_and_no (ha : ta e S = .ok false S1) : (rAndT ta tb) e S = .ok false S1 := by rw [rAndT_eq, ha, bind_ok, if_neg (by decide)]
theorem o_and_yes (ha : ta e S = .ok true S1) (hb : tb e S1 = .ok k S2) : (rAndT ta tb) e S = .ok k S2 := by rw [rAndT_eq, ha, bind_ok, if_pos rfl, hb]
theorem o_and {k k2 : Bool} (ha : ta e S = .ok k S1) (hb : k = true → tb e S1 = .ok k2 S1) : (rAndT ta tb) e S = .ok (k && k2) S1 := by
  cases k
  · exact o_and_no ha
  · exact o_and_yes ha (hb rfl)
theorem s_set {n : Nat} (h : a e S = .ok d S1) : (sSet n a) e S = .nx (e.set n (some d)) S1 := by rw [sSet_eq, h, fl_ok]
theorem s_exp (h : a e S = .ok d S1) : (sExp a) e S = .nx e S1 := by rw [sExp_eq, h, fl_ok]
theorem s_ret (h : a e S = .ok d S1) : (sRet a) e S = .rt d S1 := by rw [sRet_eq, h, fl_ok]
theorem s_seq (h : sa e S = .nx e' S1) (h2 : sb e' S1 = fl) : (sSeq sa sb) e S = fl := by rw [sSeq_eq, h, then_nx, h2]
theorem s_no (h : ta e S = .ok false S1) (h2 : sb e S1 = fl) : (sIf ta sa sb) e S = fl := by rw [sIf_eq, h, fl_ok, if_neg (by decide), h2]
theorem s_nil : sNil e S = .nx e S := rfl
theorem s_for {it : RA} {t : Tg} (h : it e S = .ok xs S1) (h2 : forL t sa xs e S1 = fl) : (sFor it t sa) e S = fl := by rw [sFor_eq, h, fl_ok, h2]
theorem add_of : addD S (.int i) (.int j) = some (.int (i + j)) := rfl
theorem sub_of : subD S (.int i) (.int j) = some (.int (i - j)) := rfl
theorem for_cons {n : Nat} (h : sa (e.set n (some d)) S = .nx e' S1) : forL (.nm n) sa (d :: xs) e S = forL (.nm n) sa xs e' S1 := by
  show (sa (e.set n (some d)) S).andThen (forL (.nm n) sa xs) = _
  rw [h, then_nx]
end
theorem for_odd {body : RS} {S : Store} {a0 a1 a2 a3 a5 a6 : Option Ev.D} : ∀ (ds : List Ev.D) (x4 : Option Ev.D), (∀ d ∈ ds, body [a0, a1, a2, a3, some d, a5, a6] S = .nx [a0, a1, a2, a3, some d, a5, a6] S) →
    ∃ y4, forL (.nm 4) body ds [a0, a1, a2, a3, x4, a5, a6] S = .nx [a0, a1, a2, a3, y4, a5, a6] S
  | [], x4, _ => ⟨x4, rfl⟩
  | d :: ds, x4, h => by
    obtain ⟨y4, q⟩ := for_odd ds (some d) fun d hd => h d (List.mem_cons_of_mem _ hd)
    exact ⟨y4, (for_cons (e := [a0, a1, a2, a3, x4, a5, a6]) (h d List.mem_cons_self)).trans q⟩
def odA : List Ev.D := [.non, .bl true, .int (-1), .int 4096, .int 100000000000000000000, .str (Str.ofString "1"), .tup [.int 1], .lst [.int 1]]
def odB : List Ev.D := [.non, .bl true, .int (-1), .int 0, .int 4097, .int 100000000000000000000, .str (Str.ofString "4"), .tup [.int 4], .lst [.int 4]]
def odP : List Ev.D := [.tup [.int 5, .int 4], .tup [.int 4, .int 4], .tup [.int 4096, .int 4096], .tup [.int 4095, .int 4097]]
def odW : List Ev.D := [.non, .int 5, .tup [.bl true, .int 35184372088832], .tup [.bl true, .int 2415919104], .tup [.int 1, .int 5], .tup [.bl false, .int (-1)], .lst [.bl false, .int 0]]
def odX : Ev.D := .tup [.bl true, .int 279172874240]
def odO : List Ev.D := [.non, .bl true, .int (-9), .int 16, .str (Str.ofString "0"), .tup [.int 0]]
theorem law_bad {S : Store} {t : Ev.D} (h : t ∈ odW ++ [odX]) : g_is_lawful [t] S = .ok (.bl false) S := by
  simp only [odW, odX, List.cons_append, List.nil_append, List.mem_cons, List.not_mem_nil, or_false] at h
  have ty : ∀ i : Int, Typed S (.int i) := fun i => ⟨_, rfl⟩
  have tb : ∀ b : Bool, Typed S (.bl b) := fun b => ⟨_, rfl⟩
  rcases h with rfl | rfl | rfl | rfl | rfl | rfl | rfl | rfl
  · exact is_lawful_not ⟨_, rfl⟩ (fun xs e => by cases e) rfl
  · exact is_lawful_not ⟨_, rfl⟩ (fun xs e => by cases e) rfl
  · exact is_lawful_not ⟨_, rfl⟩ (fun xs e x hx => by cases e; simp only [List.mem_cons, List.not_mem_nil, or_false] at hx; rcases hx with rfl | rfl; exact tb _; exact ty _) (by decide +kernel)
  · have q := is_lawful_pair (S := S) (m := true) (b := 2415919104) (by decide) (by decide)
    rw [show lawB true 2415919104 = false by decide +kernel] at q
    exact q
  · exact is_lawful_not ⟨_, rfl⟩ (fun xs e x hx => by cases e; simp only [List.mem_cons, List.not_mem_nil, or_false] at hx; rcases hx with rfl | rfl; exact ty _; exact ty _) rfl
  · exact is_lawful_not ⟨_, rfl⟩ (fun xs e x hx => by cases e; simp only [List.mem_cons, List.not_mem_nil, or_false] at hx; rcases hx with rfl | rfl; exact tb _; exact ty _) (by decide +kernel)
  · exact is_lawful_not ⟨_, rfl⟩ (fun xs e => by cases e) rfl
  · have q := is_lawful_pair (S := S) (m := true) (b := 279172874240) (by decide) (by decide)
    rw [show lawB true 279172874240 = false by decide +kernel] at q
    exact q
section
variable {S : Store} {c d : Nat} {L : Bk} {w : Ev.D}
theorem sixty {e : Ev.Env} (q : CAt S c d L) (e0 : e[0]? = some (some (.loc c))) (el : e.length = 7) :
    (rLc frzL (rRan ran1 (rCons (rCon (.int 64)) rNil)) (.nm 3) [3] rYes (rMet cl_Cells (Str.ofString "cell") g_Cells_cell (rVar 0) (rCons (rVar 3) rNil))) e S = .ok (.lst (((List.range 64).map fun i : Nat => getB L (i : Nat)).map wd)) S := by
  have rr : ran1 [.int 64] = some ((List.range 64).map fun i : Nat => Ev.D.int (i : Nat)) := by kernel_rfl
  have lc := rLc_map (it := rRan ran1 (rCons (rCon (.int 64)) rNil)) (t := .nm 3) (vs := [3]) (c := rYes) (elt := rMet cl_Cells (Str.ofString "cell") g_Cells_cell (rVar 0) (rCons (rVar 3) rNil))
    (e := e) (S := S) (h := fun i : Nat => .int (i : Nat)) (xs := List.range 64) (fun i => (e.set 3 none).set 3 (some (.int (i : Nat)))) (fun _ => true) (fun i => wd (getB L (i : Nat)))
    (o_ran (o_cons o_con o_nil) rr) (len_small (by simp)) (fun i hi => ⟨by simp [wipeE], rfl, fun _ => by
      have hi' := List.mem_range.mp hi
      have z0 : ((e.set 3 none).set 3 (some (.int (i : Nat))))[0]? = some (some (.loc c)) := by rw [List.getElem?_set_ne (by decide), List.getElem?_set_ne (by decide)]; exact e0
      have z3 : ((e.set 3 none).set 3 (some (.int (i : Nat))))[3]? = some (some (.int (i : Nat))) := List.getElem?_set_self (by rw [List.length_set]; omega)
      exact (met_C (m := "cell") q (by decide +kernel) (o_var z0) (o_cons (o_var z3) o_nil)).trans (cell_eq q (by omega) (by omega))⟩)
  rw [List.filter_eq_self.mpr (fun _ _ => rfl)] at lc
  rw [lc, List.map_map]
  rfl
theorem odd_eq (q : CAt S c d L) (hL : ∀ a, 0 ≤ (getB L a).2 ∧ (getB L a).2 < 35184372088832) : g_law_odd_so [.loc c, w] S = .ok (.bl true) S := by
  have rp := repr_ws (S := S) (ws := (List.range 64).map fun i : Nat => getB L (i : Nat)) (by simp) (fun v hv => by obtain ⟨i, _, rfl⟩ := List.mem_map.mp hv; exact hL _)
  generalize (PyData.list (((List.range 64).map fun i : Nat => getB L (i : Nat)).map fun w => PyData.tuple [.bool w.1, .int w.2])).shown = X at rp
  obtain ⟨y1, f1⟩ := for_odd (body := lb1_law_odd_so) (S := S) (a0 := some (.loc c)) (a1 := some w) (a2 := some (.str X)) (a3 := none) (a5 := none) (a6 := none) odA none (fun t ht => by
    simp only [odA, List.mem_cons, List.not_mem_nil, or_false] at ht
    rcases ht with rfl | rfl | rfl | rfl | rfl | rfl | rfl | rfl <;> exact odd1 q ⟨_, rfl⟩ (by first | rfl | decide +kernel) (by first | rfl | decide +kernel))
  obtain ⟨y2, f2⟩ := for_odd (body := lb2_law_odd_so) (S := S) (a0 := some (.loc c)) (a1 := some w) (a2 := some (.str X)) (a3 := none) (a5 := none) (a6 := none) odB y1 (fun t ht => by
    simp only [odB, List.mem_cons, List.not_mem_nil, or_false] at ht
    rcases ht with rfl | rfl | rfl | rfl | rfl | rfl | rfl | rfl | rfl <;> exact odd2 q ⟨_, rfl⟩ (by first | rfl | decide +kernel))
  obtain ⟨y3, f3⟩ := for_odd (body := lb3_law_odd_so) (S := S) (a0 := some (.loc c)) (a1 := some w) (a2 := some (.str X)) (a3 := none) (a5 := none) (a6 := none) odP y2 (fun t ht => by
    simp only [odP, List.mem_cons, List.not_mem_nil, or_false] at ht
    rcases ht with rfl | rfl | rfl | rfl <;> exact odd3 q (by first | rfl | decide +kernel))
  obtain ⟨y4, f4⟩ := for_odd (body := lb4_law_odd_so) (S := S) (a0 := some (.loc c)) (a1 := some w) (a2 := some (.str X)) (a3 := none) (a5 := some (.lst odW)) (a6 := none) (odW ++ [odX]) y3 (fun t ht => odd4 q (law_bad ht))
  obtain ⟨y5, f5⟩ := for_odd (body := lb5_law_odd_so) (S := S) (a0 := some (.loc c)) (a1 := some w) (a2 := some (.str X)) (a3 := none) (a5 := some (.lst odW)) (a6 := none) odO y4 (fun t ht => by
    simp only [odO, List.mem_cons, List.not_mem_nil, or_false] at ht
    rcases ht with rfl | rfl | rfl | rfl | rfl | rfl <;> exact odd5 q ⟨_, rfl⟩ (by first | rfl | decide +kernel))
  have lc := rLc_map (it := rIt (rLst (rCons (rUn negD (rCon (.int 1))) (rCons (rCon .non) (rCons (rCon (.int 5)) rNil))))) (t := .nm 4) (vs := [4]) (c := rYes) (elt := rCall g_law_said (rCons (rVar 0) (rCons (rCon (.int 12)) (rCons (rVar 4) (rCons (rVar 1) rNil)))))
    (e := [some (.loc c), some w, some (.str X), none, y3, none, none]) (S := S) (h := fun p : Ev.D × Int => p.1) (xs := [(.int (-1), 0), (.non, 0), (.int 5, 1)]) (fun p => [some (.loc c), some w, some (.str X), none, some p.1, none, none]) (fun _ => true) (fun p => .lst [.int p.2])
    (by simp) (len_small (by simp)) (fun p hp => ⟨by simp [wipeE], rfl, fun _ => by
      simp only [List.mem_cons, List.not_mem_nil, or_false] at hp
      rcases hp with rfl | rfl | rfl
      · exact o_call (o_cons (o_var rfl) (o_cons o_con (o_cons (o_var rfl) (o_cons (o_var rfl) o_nil)))) (said_12 q ⟨_, rfl⟩ rfl)
      · exact o_call (o_cons (o_var rfl) (o_cons o_con (o_cons (o_var rfl) (o_cons (o_var rfl) o_nil)))) (said_12 q ⟨_, rfl⟩ rfl)
      · exact o_call (o_cons (o_var rfl) (o_cons o_con (o_cons (o_var rfl) (o_cons (o_var rfl) o_nil)))) (said_12w q (by decide) (by decide) (law_bad (by simp [odW])))⟩)
  rw [List.filter_eq_self.mpr (fun _ _ => rfl)] at lc
  have ne : neD S (.lst [.lst [.int 0], .lst [.int 0], .lst [.int 1]]) (.lst [.lst [.int 0], .lst [.int 0], .lst [.int 1]]) = some (.bl false) := by kernel_rfl
  have eqq : eqD S (.str X) (.str X) = some (.bl true) := by
    unfold eqD eqB
    simp [pyD, PyData.eqv]
  have h : m_law_odd_so [some (.loc c), some w, none, none, none, none, none] S = .rt (.bl true) S := by
    unfold m_law_odd_so
    refine s_seq (s_set (o_cal (o_cons (sixty q rfl rfl) o_nil) rp)) (s_seq (s_for (xs := odA) (S1 := S) (by kernel_rfl) f1) (s_seq (s_for (xs := odB) (S1 := S) (by kernel_rfl) f2) (s_seq (s_for (xs := odP) (S1 := S) (by kernel_rfl) f3)
      (s_seq (s_no (o_test (o_bin lc (o_lst (o_cons (o_lst (o_cons (o_con (d := .int 0)) o_nil)) (o_cons (o_lst (o_cons (o_con (d := .int 0)) o_nil)) (o_cons (o_lst (o_cons (o_con (d := .int 1)) o_nil)) o_nil)))) ne)) s_nil)
      (s_seq (s_set (d := .lst odW) (S1 := S) (by kernel_rfl)) (s_seq (s_for (xs := odW ++ [odX]) (S1 := S) (by kernel_rfl) f4) (s_seq (s_for (xs := odO) (S1 := S) (by kernel_rfl) f5) (s_ret (o_bin (o_cal (o_cons (sixty q rfl rfl) o_nil) rp) (o_var rfl) eqq)))))))))
  unfold g_law_odd_so runDef
  show ((m_law_odd_so [some (.loc c), some w, none, none, none, none, none] S).res) = _
  rw [h]; rfl
end
def clrB (L : Bk) (a : Int) : Nat → Bk
  | 0 => L
  | n + 1 => clrB (delB L a) (a + 1) n
section
variable {S : Store} {c d : Nat} {L : Bk}
theorem look_ok {a b : Int} (h0 : 0 ≤ a) (h1 : a < b) (h2 : b ≤ 4096) : g_look_at_bounds [.int a, .int b] S = .ok .non S := by
  unfold g_look_at_bounds runDef m_look_at_bounds g_is_whole runDef m_is_whole
  simp [h0, h1, h2]
theorem clr_turn {x1 x2 : Option Ev.D} {a : Int} (h : CAt S c d L) : lb1_Cells_clear [some (.loc c), x1, x2, some (.int a)] S = .nx [some (.loc c), x1, x2, some (.int a)] (S.set d (.dK (bkK (delB L a)) (bkX (delB L a)))) := by
  obtain ⟨y, pp⟩ : ∃ y, popDM S (.loc d) [.int a, .non] = some (y, S.set d (.dK (bkK (delB L a)) (bkX (delB L a)))) := by
    cases q : fndB L a with
    | none =>
      have dl : delB L a = L := by
        unfold delB
        rw [List.filter_eq_self]
        intro p hp
        have := fnd_none.mp q
        simp only [ne_eq, decide_not, Bool.not_eq_true', decide_eq_false_iff_not]
        exact fun z => this (List.mem_map.mpr ⟨p, hp, z⟩)
      rw [dl, set_same h.dic]
      exact ⟨.non, by simp only [popDM, h.dic, Ev.keyOf, Option.bind_some, lk_bk, q, Option.map_none]⟩
    | some v => exact ⟨wd v, by simp only [popDM, h.dic, Ev.keyOf, Option.bind_some, lk_bk, q, Option.map_some, del_bk]⟩
  unfold lb1_Cells_clear
  simp [rMth, h.atr, h.ty, pp, ofP]
theorem clr_loop {x1 x2 : Option Ev.D} {c d : Nat} : ∀ (n : Nat) (a : Int) (S : Store) (L : Bk) (x3 : Option Ev.D), CAt S c d L →
    ∃ y3, forL (.nm 3) lb1_Cells_clear (rangeD a n) [some (.loc c), x1, x2, x3] S = .nx [some (.loc c), x1, x2, y3] (S.set d (.dK (bkK (clrB L a n)) (bkX (clrB L a n))))
  | 0, a, S, L, x3, h => ⟨x3, by
    have e : rangeD a 0 = [] := rfl
    rw [e]
    show Fl.nx _ S = _
    have e2 : clrB L a 0 = L := rfl
    rw [e2, set_same h.dic]⟩
  | n + 1, a, S, L, x3, h => by
    have e : rangeD a (n + 1) = .int a :: rangeD (a + 1) n := by
      unfold rangeD
      rw [List.range_succ_eq_map, List.map_cons, List.map_map]
      simp only [Int.natCast_zero, Int.add_zero, List.cons.injEq, true_and]
      apply List.map_congr_left
      intro i _
      simp only [Function.comp]
      congr 1
      push_cast
      omega
    obtain ⟨y3, q⟩ := clr_loop (x1 := x1) (x2 := x2) n (a + 1) _ (delB L a) (some (.int a)) (h.set (M := delB L a))
    refine ⟨y3, ?_⟩
    rw [e]
    show (lb1_Cells_clear [some (.loc c), x1, x2, some (.int a)] S).andThen (forL (.nm 3) lb1_Cells_clear (rangeD (a + 1) n)) = _
    rw [clr_turn h]
    show forL (.nm 3) lb1_Cells_clear (rangeD (a + 1) n) _ _ = _
    rw [q, List.set_set]
    rfl
theorem clear_eq {a b : Int} (h : CAt S c d L) (h0 : 0 ≤ a) (h1 : a < b) (h2 : b ≤ 4096) : g_Cells_clear [.loc c, .int a, .int b] S = .ok .non (S.set d (.dK (bkK (clrB L a (b - a).toNat)) (bkX (clrB L a (b - a).toNat)))) := by
  have lk := look_ok (S := S) h0 h1 h2
  obtain ⟨y3, q⟩ := clr_loop (x1 := some (.int a)) (x2 := some (.int b)) (b - a).toNat a S L none h
  have r2 : -(2 ^ 62) ≤ a ∧ a < 2 ^ 62 ∧ -(2 ^ 62) ≤ b ∧ b < 2 ^ 62 := by omega
  have r3 : ran2 [.int a, .int b] = some (rangeD a (b - a).toNat) := by rw [ran2_int, if_pos r2]
  unfold g_Cells_clear runDef m_Cells_clear
  simp [lk, r3, q, -ran2_int]
end
theorem get_clrB : ∀ (k : Nat) (L : Bk) (a b : Int), getB (clrB L a k) b = if a ≤ b ∧ b < a + k then (false, 0) else getB L b
  | 0, L, a, b => by
    rw [if_neg (by omega)]; rfl
  | k + 1, L, a, b => by
    show getB (clrB (delB L a) (a + 1) k) b = _
    rw [get_clrB k, get_del]
    by_cases h : b = a
    · subst h
      rw [if_neg (by omega), if_pos rfl, if_pos ⟨by omega, by omega⟩]
    · rw [if_neg h]
      by_cases h2 : a + 1 ≤ b ∧ b < a + 1 + k
      · rw [if_pos h2, if_pos ⟨by omega, by omega⟩]
      · rw [if_neg h2, if_neg (by omega)]
theorem clrB_nd : ∀ (k : Nat) {L : Bk} (a : Int), NdB L → NdB (clrB L a k)
  | 0, _, _, h => h
  | k + 1, _, a, h => clrB_nd k (a + 1) (nd_del h a)
theorem clrB_mem : ∀ (k : Nat) {L : Bk} (a : Int) {p : Int × Wd}, p ∈ clrB L a k → p ∈ L
  | 0, _, _, _, h => h
  | k + 1, _, a, _, h => (List.mem_filter.mp (clrB_mem k (a + 1) h)).1
@[simp] theorem sPutA_eq {e : Ev.Env} {S : Store} (ok : Nat → Bool) (f : Str) (a o : RE) : sPutA ok f a o e S = (a e S).fl e fun v S1 => (o e S1).fl e fun x S2 => match putA ok f S2 x v with | some S3 => .nx e S3 | none => .bad := rfl
theorem isC_self (k : Nat) : isC k k = true := by simp [isC]
section
variable {S0 T : Store}
theorem getA (i : Nat) : (S0 ++ T)[S0.length + i]? = T[i]? := by rw [List.getElem?_append_right (by omega)]; congr 1; omega
theorem getA0 : (S0 ++ T)[S0.length]? = T[0]? := getA 0
theorem setA (i : Nat) (o : MO) : (S0 ++ T).set (S0.length + i) o = S0 ++ T.set i o := by rw [List.set_append_right _ _ (by omega)]; congr 1; congr 1; omega
theorem setA0 (o : MO) : (S0 ++ T).set S0.length o = S0 ++ T.set 0 o := setA 0 o
theorem putA0 {c : Nat} {ns : List Str} {xs : List Ev.D} {f : Str} {v : Ev.D} (h : ns.length < 1000) : putA (isC c) f (S0 ++ (.ins c ns xs :: T)) (.loc S0.length) v = some (S0 ++ (.ins c (putP f v ns xs).1 (putP f v ns xs).2 :: T)) := by
  have e : (S0 ++ (MO.ins c ns xs :: T))[S0.length]? = some (.ins c ns xs) := getA0
  have z : isC c c = true ∧ ns.length < 1000 := ⟨isC_self _, h⟩
  simp only [putA, e, if_pos z, setA0, List.set_cons_zero]
end
section
variable {S : Store}
theorem mk_cells {e : Ev.Env} : rMake cl_Cells g_Cells_init rNil e S = .ok (.loc S.length) (S ++ [.ins cl_Cells [Str.ofString "own_cells"] [.loc (S.length + 1)], .dK [] []]) := by
  have pt : ∀ v : Ev.D, putP (Str.ofString "own_cells") v [] [] = ([Str.ofString "own_cells"], [v]) := fun v => by kernel_rfl
  unfold rMake g_Cells_init runDef m_Cells_init
  simp [putA0, madeR, rDct0M, List.append_assoc, pt]
theorem cells_twin {q d : Nat} {B : Bk} (h : CAt S q d B) : g_Cells_twin [.loc q] S = .ok (.loc S.length) (S ++ [.ins cl_Cells [Str.ofString "own_cells"] [.loc (S.length + 2)], .dK [] [], .dK (bkK B) (bkX B)]) := by
  have pt : ∀ v x : Ev.D, putP (Str.ofString "own_cells") v [Str.ofString "own_cells"] [x] = ([Str.ofString "own_cells"], [v]) := fun v x => by kernel_rfl
  have k : ∀ {i : Nat} {o : MO} {T : Store}, S[i]? = some o → (S ++ T)[i]? = some o := fun e => by rw [List.getElem?_append_left (List.getElem?_eq_some_iff.mp e).1]; exact e
  have h2 : ∀ T, CAt (S ++ T) q d B := fun T => ⟨k h.obj, k h.dic⟩
  have dr : ∀ T, dictR (S ++ T) (.loc d) = some (bkK B, bkX B) := fun T => (h2 T).dct
  unfold g_Cells_twin runDef m_Cells_twin
  simp [mk_cells, (h2 _).atr, rDictM, dr, putA0, pt, List.append_assoc]
end
def BAt (S : Store) (x : Ev.D) (M : Bk) : Prop := dictAt S x = some (bkK M, bkX M) ∧ tyM S x = some "dict"
theorem BAt.loc {S : Store} {b : Nat} {M : Bk} (h : S[b]? = some (.dK (bkK M) (bkX M))) : BAt S (.loc b) M := ⟨by simp only [dictAt, h], by simp only [tyM, h]⟩
theorem BAt.dct {S : Store} {M : Bk} : BAt S (.dct (bkK M) (bkX M)) M := ⟨rfl, rfl⟩
section
variable {S : Store} {x : Ev.D} {M : Bk} {a : Int}
theorem BAt.get (h : BAt S x M) (a : Int) : getDM S x [.int a, .tup [.bl false, .int 0]] = some (wd (getB M a), S) := by
  have e : getDM S x [.int a, .tup [.bl false, .int 0]] = ((dictAt S x).bind fun p => (Ev.keyOf (.int a)).bind fun k => some ((lkK p.1 p.2 k).getD (.tup [.bl false, .int 0]), S)) := rfl
  rw [e, h.1]
  simp only [Option.bind_some, Ev.keyOf, lk_bk]
  unfold getB
  cases fndB M a <;> rfl
theorem BAt.dix (h : BAt S x M) (hm : a ∈ M.map (·.1)) : dixD S x (.int a) = some (wd (getB M a)) := by
  unfold dixD
  rw [h.1]
  simp only [Option.bind_some, Ev.keyOf, lk_bk]
  cases q : fndB M a with
  | none => exact absurd hm (fnd_none.mp q)
  | some w => unfold getB; rw [q]; rfl
theorem BAt.sort (h : BAt S x M) (hl : M.length < 64) : sortX S [x] = some (.lst ((isortI (M.map (·.1))).map Ev.D.int)) := by
  simp only [sortX, h.1, keysI_bk]
  rw [if_pos (by simpa using hl)]
end
theorem isort_mem {M : Bk} {a : Int} : a ∈ isortI (M.map (·.1)) ↔ a ∈ M.map (·.1) := (isortI_perm _).mem_iff
theorem isort_len {M : Bk} : (isortI (M.map (·.1))).length = M.length := by rw [(isortI_perm _).length_eq, List.length_map]
theorem put_book {S : Store} {b : Nat} {M : Bk} {a : Int} {w : Wd} (h : S[b]? = some (.dK (bkK M) (bkX M))) (hl : M.length < 1000) : putD S (.loc b) (.int a) (wd w) = some (S.set b (.dK (bkK (putB M a w)) (bkX (putB M a w)))) := by
  have bl : (bkK M).length < sizeLine := by rw [sizeLine_eq]; simp [bkK]; omega
  simp only [putD, h, Ev.keyOf, Option.bind_some, if_pos bl, put_bk]
def mkL (L : Bk) (lo hi : Int) : List Int := (isortI (L.map (·.1))).filter fun a => decide (lo ≤ a) && (decide (a < hi) && (getB L a).1)
theorem marked_eq {S : Store} {c d : Nat} {L : Bk} {lo hi : Int} (h : CAt S c d L) (hl : L.length < 64) (h0 : 0 ≤ lo) (h1 : lo < hi) (h2 : hi ≤ 4096) :
    g_Cells_marked [.loc c, .int lo, .int hi] S = .ok (.loc S.length) (S ++ [.lst ((mkL L lo hi).map Ev.D.int)]) := by
  have bo := look_ok (S := S) h0 h1 h2
  have bk := BAt.loc h.dic
  have so := bk.sort hl
  have at_ := h.atr
  unfold g_Cells_marked runDef m_Cells_marked
  have lc := rLc_map (S := S) (it := rIt (rCal sortX (rCons (rUn (atrD (isC cl_Cells) "own_cells") (rVar 0)) rNil))) (t := .nm 3) (vs := [3])
    (c := rAndT (rTest (rChain (rVar 1) (rLink leD (rVar 3) (rLast ltD (rVar 2))))) (rTruth (rBin ixD (rBin dixD (rUn (atrD (isC cl_Cells) "own_cells") (rVar 0)) (rVar 3)) (rCon (.int 0)))))
    (elt := rVar 3) (e := [some (.loc c), some (.int lo), some (.int hi), none]) (h := Ev.D.int) (xs := isortI (L.map (·.1)))
    (fun a => [some (.loc c), some (.int lo), some (.int hi), some (.int a)]) (fun a => decide (lo ≤ a) && (decide (a < hi) && (getB L a).1)) Ev.D.int
    (by simp [at_, so]) (by rw [isort_len]; exact len_small (by omega))
    (fun a ha => by
      have dx := bk.dix (isort_mem.mp ha)
      have j0 : ∀ (v : Wd), ixD S (wd v) (.int 0) = some (.bl v.1) := fun v => by simp [wd, ixD, atI, ixN]
      refine ⟨by simp [wipeE], ?_, fun _ => by simp⟩
      by_cases r0 : lo ≤ a
      · by_cases r1 : a < hi
        · simp [r0, r1, at_, dx, j0]
        · simp [r0, r1]
      · simp [r0])
  have lm : (rLc mutL (rIt (rCal sortX (rCons (rUn (atrD (isC cl_Cells) "own_cells") (rVar 0)) rNil))) (.nm 3) [3] (rAndT (rTest (rChain (rVar 1) (rLink leD (rVar 3) (rLast ltD (rVar 2))))) (rTruth (rBin ixD (rBin dixD (rUn (atrD (isC cl_Cells) "own_cells") (rVar 0)) (rVar 3)) (rCon (.int 0))))) (rVar 3)) [some (.loc c), some (.int lo), some (.int hi), none] S = .ok (.loc S.length) (S ++ [.lst ((mkL L lo hi).map Ev.D.int)]) := by
    have e : ∀ (fin : List Ev.D → Store → Res Ev.D) it t vs c elt e S, rLc fin it t vs c elt e S = (it e S).bind fun ds S1 => if ds.length ≤ sizeLine then (lcL t c elt (wipeE e vs) ds S1).calm.bind fin else .bad := fun _ _ _ _ _ _ _ _ => rfl
    rw [e] at lc ⊢
    cases q1 : (rIt (rCal sortX (rCons (rUn (atrD (isC cl_Cells) "own_cells") (rVar 0)) rNil))) [some (.loc c), some (.int lo), some (.int hi), none] S with
    | bad => rw [q1] at lc; cases lc
    | err y Sy => rw [q1] at lc; cases lc
    | ok ds S1 =>
      rw [q1] at lc
      simp only [bind_ok] at lc ⊢
      split at lc
      · rename_i z
        rw [if_pos z]
        cases q2 : lcL (.nm 3) (rAndT (rTest (rChain (rVar 1) (rLink leD (rVar 3) (rLast ltD (rVar 2))))) (rTruth (rBin ixD (rBin dixD (rUn (atrD (isC cl_Cells) "own_cells") (rVar 0)) (rVar 3)) (rCon (.int 0))))) (rVar 3) (wipeE [some (.loc c), some (.int lo), some (.int hi), none] [3]) ds S1 with
        | bad => rw [q2] at lc; cases lc
        | err y Sy => rw [q2] at lc; cases lc
        | ok ys S2 =>
          rw [q2] at lc
          simp only [Res.calm, bind_ok, frzL] at lc ⊢
          cases lc
          rfl
      · cases lc
  simp [bo, lm]
theorem sub_len : ∀ (xs ys : List Int), xs.Nodup → (∀ x ∈ xs, x ∈ ys) → xs.length ≤ ys.length
  | [], _, _, _ => Nat.zero_le _
  | x :: xs, ys, hn, h => by
    obtain ⟨h1, h2⟩ := List.nodup_cons.mp hn
    have hx := h x List.mem_cons_self
    have ih := sub_len xs (ys.erase x) h2 fun z hz => by
      have ne : z ≠ x := fun e => h1 (e ▸ hz)
      exact (List.mem_erase_of_ne ne).mpr (h z (List.mem_cons_of_mem _ hz))
    rw [List.length_erase_of_mem hx] at ih
    have : 0 < ys.length := List.length_pos_of_mem hx
    rw [List.length_cons]
    omega
def Nz (L : Bk) : Prop := ∀ p ∈ L, p.2 ≠ ((false, 0) : Wd)
theorem fnd_mem {L : Bk} (n : NdB L) {p : Int × Wd} (h : p ∈ L) : fndB L p.1 = some p.2 := by
  cases q : fndB L p.1 with
  | none => exact absurd (List.mem_map.mpr ⟨p, h, rfl⟩) (fnd_none.mp q)
  | some w =>
    have m := mem_get q
    have : ∀ {l : Bk}, (l.map (·.1)).Nodup → p ∈ l → (p.1, w) ∈ l → w = p.2 := by
      intro l
      induction l with
      | nil => intro _ h _; cases h
      | cons a l ih =>
        intro hn h1 h2
        simp only [List.map_cons, List.nodup_cons] at hn
        rcases List.mem_cons.mp h1 with e1 | h1
        · rcases List.mem_cons.mp h2 with e2 | h2
          · rw [← e2] at e1; rw [e1]
          · exact absurd (List.mem_map.mpr ⟨(p.1, w), h2, by rw [e1]⟩) hn.1
        · rcases List.mem_cons.mp h2 with e2 | h2
          · exact absurd (List.mem_map.mpr ⟨p, h1, by rw [← e2]⟩) hn.1
          · exact ih hn.2 h1 h2
    rw [this n h m]
theorem hits_bk {S : Store} (M : Bk) : ∀ L : Bk, ∃ b, hitsD S (bkK M, bkX M) (bkK L) (bkX L) = some b ∧ (b = true ↔ ∀ p ∈ L, fndB M p.1 = some p.2)
  | [] => ⟨true, rfl, by simp⟩
  | p :: L => by
    obtain ⟨b, h1, h2⟩ := hits_bk (S := S) M L
    have e : hitsD S (bkK M, bkX M) (bkK (p :: L)) (bkX (p :: L)) = match lkK (bkK M) (bkX M) (.inl p.1) with
      | none => some false
      | some y => (eqB S (wd p.2) y).bind fun e => (hitsD S (bkK M, bkX M) (bkK L) (bkX L)).bind fun b => some (e && b) := rfl
    rw [e, lk_bk]
    cases q : fndB M p.1 with
    | none => exact ⟨false, rfl, by simp [q]⟩
    | some w =>
      refine ⟨decide (p.2 = w) && b, ?_, ?_⟩
      · simp only [Option.map_some, eq_wd, Option.bind_some, h1]
      · rw [Bool.and_eq_true, decide_eq_true_eq, h2]
        constructor
        · rintro ⟨e1, e2⟩ z hz
          rcases List.mem_cons.mp hz with rfl | hz
          · rw [q, e1]
          · exact e2 z hz
        · intro h
          have h0 := h p List.mem_cons_self
          rw [q] at h0
          exact ⟨(Option.some.inj h0).symm, fun z hz => h z (List.mem_cons_of_mem _ hz)⟩
theorem keq_bk {S : Store} {x y : Ev.D} {L M : Bk} (hx : dictAt S x = some (bkK L, bkX L)) (hy : dictAt S y = some (bkK M, bkX M)) (n1 : NdB L) (n2 : NdB M) (z1 : Nz L) (z2 : Nz M) : ∃ r, eqKB S x y = some r ∧ (r = true ↔ ∀ a, getB L a = getB M a) := by
  have len : ∀ B : Bk, (bkK B).length = B.length := fun B => by simp [bkK]
  have nz : ∀ {B : Bk}, NdB B → Nz B → ∀ a, a ∈ B.map (·.1) ↔ getB B a ≠ (false, 0) := fun {B} nB zB a => by
    constructor
    · intro h
      obtain ⟨p, hp, rfl⟩ := List.mem_map.mp h
      have := fnd_mem nB hp
      unfold getB
      rw [this]
      exact zB p hp
    · intro h
      cases q : fndB B a with
      | none => exact absurd (by unfold getB; rw [q]; rfl) h
      | some w => exact List.mem_map.mpr ⟨(a, w), mem_get q, rfl⟩
  unfold eqKB
  rw [hx, hy]
  simp only [Option.bind_some, len]
  obtain ⟨b, h1, h2⟩ := hits_bk (S := S) M L
  by_cases hl : L.length = M.length
  · rw [if_pos hl]
    refine ⟨b, h1, h2.trans ⟨fun h a => ?_, fun h p hp => ?_⟩⟩
    · by_cases ha : a ∈ L.map (·.1)
      · obtain ⟨p, hp, rfl⟩ := List.mem_map.mp ha
        unfold getB
        rw [fnd_mem n1 hp, h p hp]
      · have hm : a ∉ M.map (·.1) := fun z => by
          have q := sub_len (a :: L.map (fun p => p.1)) (M.map (fun p => p.1)) (List.nodup_cons.mpr ⟨ha, show (L.map (fun p : Int × Wd => p.1)).Nodup from n1⟩) fun w hw => by
            rcases List.mem_cons.mp hw with rfl | hw
            · exact z
            · obtain ⟨p, hp, rfl⟩ := List.mem_map.mp hw
              exact List.mem_map.mpr ⟨(p.1, p.2), mem_get (h p hp), rfl⟩
          simp only [List.length_cons, List.length_map] at q
          omega
        unfold getB
        rw [fnd_none.mpr ha, fnd_none.mpr hm]
    · have e1 := fnd_mem n1 hp
      have e2 : getB L p.1 = p.2 := by unfold getB; rw [e1]; rfl
      have e3 := h p.1
      rw [e2] at e3
      cases q : fndB M p.1 with
      | none =>
        have : getB M p.1 = (false, 0) := by unfold getB; rw [q]; rfl
        rw [this] at e3
        exact absurd e3 (z1 p hp)
      | some w =>
        have : getB M p.1 = w := by unfold getB; rw [q]; rfl
        rw [this] at e3
        rw [e3]
  · rw [if_neg hl]
    refine ⟨false, rfl, by simp, fun h => ?_⟩
    refine absurd (Nat.le_antisymm ?_ ?_) hl
    · have := sub_len (L.map (fun p => p.1)) (M.map (fun p => p.1)) (show (L.map (fun p : Int × Wd => p.1)).Nodup from n1) fun a ha => (nz n2 z2 a).mpr (by rw [← h a]; exact (nz n1 z1 a).mp ha)
      simpa using this
    · have := sub_len (M.map (fun p => p.1)) (L.map (fun p => p.1)) (show (M.map (fun p : Int × Wd => p.1)).Nodup from n2) fun a ha => (nz n1 z1 a).mpr (by rw [h a]; exact (nz n2 z2 a).mp ha)
      simpa using this
theorem ceq_eq {S : Store} {c d c2 d2 : Nat} {L M : Bk} (h1 : CAt S c d L) (h2 : CAt S c2 d2 M) (n1 : NdB L) (n2 : NdB M) (z1 : Nz L) (z2 : Nz M) :
    ∃ r, g_Cells_eq [.loc c, .loc c2] S = .ok (.bl r) S ∧ (r = true ↔ ∀ a, getB L a = getB M a) := by
  obtain ⟨r, ek, hr⟩ := keq_bk h1.dct h2.dct n1 n2 z1 z2
  have i2 : insAt S (.loc c2) = some (cl_Cells, [Str.ofString "own_cells"], [.loc d2]) := by simp only [insAt, h2.obj]
  have is : isiO ko_Cells kq_Cells S (.loc c2) = some (.bl true) := by
    unfold isiO
    rw [i2]
    rfl
  refine ⟨r, ?_, hr⟩
  unfold g_Cells_eq runDef m_Cells_eq
  simp [is, h1.atr, h2.atr, eqKD, ek]
theorem eqO_C {S : Store} {c d c2 d2 : Nat} {L M : Bk} {ne : Bool} (h1 : CAt S c d L) (h2 : CAt S c2 d2 M) (n1 : NdB L) (n2 : NdB M) (z1 : Nz L) (z2 : Nz M) :
    ∃ r, eqO cl_Cells g_Cells_eq ne S (.loc c) (.loc c2) = some (.bl (r != ne), S) ∧ (r = true ↔ ∀ a, getB L a = getB M a) := by
  obtain ⟨r, g, hr⟩ := ceq_eq h1 h2 n1 n2 z1 z2
  have i1 : insAt S (.loc c) = some (cl_Cells, [Str.ofString "own_cells"], [.loc d]) := by simp only [insAt, h1.obj]
  have i2 : insAt S (.loc c2) = some (cl_Cells, [Str.ofString "own_cells"], [.loc d2]) := by simp only [insAt, h2.obj]
  refine ⟨r, ?_, hr⟩
  unfold eqO
  rw [i1, i2]
  simp [g]
theorem eqT_C {S : Store} {c d : Nat} {L : Bk} {x : Str} (h1 : CAt S c d L) : eqOT cl_Cells g_Cells_eq S (.loc c) (.str x) = some (.bl false, S) := by
  have i1 : insAt S (.loc c) = some (cl_Cells, [Str.ofString "own_cells"], [.loc d]) := by simp only [insAt, h1.obj]
  have is : isiO ko_Cells kq_Cells S (.str x) = some (.bl false) := rfl
  have g : g_Cells_eq [.loc c, .str x] S = .ok (.bl false) S := by
    unfold g_Cells_eq runDef m_Cells_eq
    simp [is]
  unfold eqOT
  rw [i1]
  simp [g]
theorem lcL_draw {Inv : Store → Prop} {t : Tg} {c : RT} {elt : RE} {e0 : Ev.Env} (h : Nat → D) (E : Nat → Ev.Env) (f : Nat → D) : ∀ (xs : List Nat) (S : Store), xs.Nodup → Inv S →
    (∀ x ∈ xs, ∀ S, Inv S → bindT S (h x) e0 t = some (E x) ∧ (∃ k S', c (E x) S = .ok k S' ∧ Inv S') ∧ elt (E x) S = .ok (f x) S) →
    ∃ p S', lcL t c elt e0 (xs.map h) S = .ok ((xs.filter p).map f) S' ∧ Inv S'
  | [], S, _, i, _ => ⟨fun _ => true, S, rfl, i⟩
  | x :: xs, S, nd, i, hx => by
    obtain ⟨h1, ⟨k, S1, h2, i1⟩, _⟩ := hx x List.mem_cons_self S i
    obtain ⟨p, S2, h4, i2⟩ := lcL_draw h E f xs S1 (List.nodup_cons.mp nd).2 i1 fun y hy => hx y (List.mem_cons_of_mem _ hy)
    have hn := (List.nodup_cons.mp nd).1
    have fc : xs.filter (fun y => if y = x then k else p y) = xs.filter p := List.filter_congr fun y hy => by
      have : y ≠ x := fun e => hn (e ▸ hy)
      simp [this]
    refine ⟨fun y => if y = x then k else p y, S2, ?_, i2⟩
    have h3 := (hx x List.mem_cons_self S1 i1).2.2
    simp only [List.map_cons, lcL, h1, h2, bind_ok, List.filter_cons, if_true, fc]
    cases k with
    | true => simp [h3, h4]
    | false => simp [h4]
def PoolF (T S : Store) (n : Nat) : Prop := PoolAt S n ∧ S.length = T.length ∧ ∀ k, k ≠ n → S[k]? = T[k]?
theorem PoolAt.f {S : Store} {n : Nat} (h : PoolAt S n) : PoolF S S n := ⟨h, rfl, fun _ _ => rfl⟩
theorem take_okF {T S : Store} {n : Nat} (many : Int) (h : PoolF T S n) (hm : 0 < many) (hm2 : many < 18446744073709551616) : ∃ r S', g_law_take [.loc n, .int many] S = .ok (.int r) S' ∧ 0 ≤ r ∧ r < many ∧ PoolF T S' n ∧ ∃ o, S' = S.set n o := by
  obtain ⟨r, S1, t1, a1, b1, p1, o, e⟩ := take_ok many h.1 hm hm2
  refine ⟨r, S1, t1, a1, b1, ⟨p1, ?_, fun k hk => ?_⟩, o, e⟩
  · rw [e, List.length_set, h.2.1]
  · rw [e, List.getElem?_set_ne (Ne.symm hk)]; exact h.2.2 k hk
variable {T : Store}
theorem lit_6 : (Str.ofString "rwlsnf") = sC ((List.range 6).map rg) := by decide +kernel
theorem six_rs (p : Nat → Bool) : ∃ m, m < 64 ∧ ((List.range 6).filter p).map rg = rc m := by
  refine ⟨((List.range 9).map fun i => if (fun i => decide (i < 6) && p i) i = true then 2 ^ i else 0).sum, ?_, ?_⟩
  · have : ∀ a0 a1 a2 a3 a4 a5 : Bool, ((if a0 = true then 1 else 0) + ((if a1 = true then 2 else 0) + ((if a2 = true then 4 else 0) + ((if a3 = true then 8 else 0) + ((if a4 = true then 16 else 0) + (if a5 = true then 32 else 0))))) : Nat) < 64 := by decide
    have := this (p 0) (p 1) (p 2) (p 3) (p 4) (p 5)
    simp [List.range_succ, List.map_append, List.sum_append]
    try omega
  · unfold rc
    rw [pk_congr fun i hi => mskL_bits (fun i => decide (i < 6) && p i) i hi]
    unfold pk
    congr 1
theorem law64 {m : Nat} (h : m < 64) : lawM m = true := by
  have d : ∀ j : Fin 64, lawM j.val = true := by decide +kernel
  exact d ⟨m, h⟩
theorem rights_six {S : Store} {n : Nat} {x1 : Option D} (hp : PoolF T S n) : ∃ m S', m < 64 ∧ PoolF T S' n ∧ rLc frzL (rIt (rCon (.str "rwlsnf"))) (.nm 2) [2] (rTest (rBin gtD (rCall g_law_take (rCons (rVar 0) (rCons (rCon (.int 3)) rNil))) (rCon (.int 0)))) (rVar 2) [some (.loc n), x1, none] S = .ok (.lst ((rc m).map fun c => .str (sC [c]))) S' := by
  obtain ⟨p, S1, h1, p1⟩ := lcL_draw (Inv := fun S => PoolF T S n) (t := .nm 2) (c := rTest (rBin gtD (rCall g_law_take (rCons (rVar 0) (rCons (rCon (.int 3)) rNil))) (rCon (.int 0)))) (elt := rVar 2) (e0 := [some (.loc n), x1, none])
    (fun i => .str (sC [rg i])) (fun i => [some (.loc n), x1, some (.str (sC [rg i]))]) (fun i => .str (sC [rg i])) (List.range 6) S (by decide) hp (fun i hi S hS => by
      obtain ⟨r, S1, t1, a1, b1, p1, _⟩ := take_okF 3 hS (by omega) (by omega)
      exact ⟨by simp, ⟨decide (0 < r), S1, by simp [t1], p1⟩, by simp⟩)
  obtain ⟨m, hm, e⟩ := six_rs p
  refine ⟨m, S1, hm, p1, ?_⟩
  rw [← e, List.map_map]
  unfold rLc
  have it : rIt (rCon (.str "rwlsnf")) [some (.loc n), x1, none] S = .ok ((List.range 6).map fun i => D.str (sC [rg i])) S := by
    simp only [rIt_eq, rCon_eq, bind_ok, lit_6, itemsD, signs_sC, List.map_map, ofO_some]
    rfl
  have w : wipeE [some (.loc n), x1, none] [2] = [some (.loc n), x1, none] := rfl
  rw [it, bind_ok, if_pos (len_small (by simp)), w, h1]
  rfl
theorem rs_lits : (Str.ofString "x" = rs 64 ∧ Str.ofString "fx" = rs 96) ∧ (Str.ofString "c" = rs 128 ∧ Str.ofString "o" = rs 256 ∧ Str.ofString "fco" = rs 416 ∧ Str.ofString "co" = rs 384 ∧ Str.ofString "fo" = rs 288 ∧ Str.ofString "fc" = rs 160) ∧ (Str.ofString "" = rs 0 ∧ Str.ofString "f" = rs 32) ∧ (Str.ofString "rwlsf" = rs 47 ∧ Str.ofString "rwlsn" = rs 31 ∧ Str.ofString "rwlsnf" = rs 63) := by
  simp only [rs_eq]
  decide +kernel
theorem law_rights_ok {S : Store} {n : Nat} (hp : PoolF T S n) : ∃ m S', g_law_rights [.loc n] S = .ok (.str (rs m)) S' ∧ PoolF T S' n ∧ m < 512 ∧ lawM m = true := by
  obtain ⟨r, S1, t1, a1, b1, p1, _⟩ := take_okF 8 hp (by omega) (by omega)
  obtain ⟨⟨l1, l2⟩, ⟨l3, l4, l5, l6, l7, l8⟩, ⟨l9, l10⟩, l11, l12, l13⟩ := rs_lits
  by_cases c0 : r = 0
  · obtain ⟨q, S2, t2, a2, b2, p2, _⟩ := take_okF 2 p1 (by omega) (by omega)
    obtain ⟨d, hd, hm⟩ := atI_mem (xs := [D.str (Str.ofString "x"), .str (Str.ofString "fx")]) a2 (by simpa using b2)
    obtain ⟨m, rfl, m0, m1⟩ : ∃ m, d = .str (rs m) ∧ m < 512 ∧ lawM m = true := by
      simp only [List.mem_cons, List.not_mem_nil, or_false] at hm
      rcases hm with rfl | rfl
      · exact ⟨64, by rw [l1], by decide, by decide⟩
      · exact ⟨96, by rw [l2], by decide, by decide⟩
    refine ⟨m, S2, ?_, p2, m0, m1⟩
    unfold g_law_rights runDef m_law_rights
    simp [t1, c0, t2, ixD, hd]
  by_cases c1 : r = 1
  · first
    | (obtain ⟨q, S2, t2, a2, b2, p2, _⟩ := take_okF 6 p1 (by omega) (by omega)
       obtain ⟨d, hd, hm⟩ := atI_mem (xs := [D.str (Str.ofString "c"), .str (Str.ofString "o"), .str (Str.ofString "fco"), .str (Str.ofString "co"), .str (Str.ofString "fo"), .str (Str.ofString "fc")]) a2 (by simpa using b2)
       obtain ⟨m, rfl, m0, m1⟩ : ∃ m, d = .str (rs m) ∧ m < 512 ∧ lawM m = true := by
         simp only [List.mem_cons, List.not_mem_nil, or_false] at hm
         rcases hm with rfl | rfl | rfl | rfl | rfl | rfl
         · exact ⟨128, by rw [l3], by decide, by decide⟩
         · exact ⟨256, by rw [l4], by decide, by decide⟩
         · exact ⟨416, by rw [l5], by decide, by decide⟩
         · exact ⟨384, by rw [l6], by decide, by decide⟩
         · exact ⟨288, by rw [l7], by decide, by decide⟩
         · exact ⟨160, by rw [l8], by decide, by decide⟩
       refine ⟨m, S2, ?_, p2, m0, m1⟩
       unfold g_law_rights runDef m_law_rights
       simp [t1, c1, t2, ixD, hd]
       done)
    | (obtain ⟨q, S2, t2, a2, b2, p2, _⟩ := take_okF 5 p1 (by omega) (by omega)
       obtain ⟨d, hd, hm⟩ := atI_mem (xs := [D.str (Str.ofString "c"), .str (Str.ofString "o"), .str (Str.ofString "fco"), .str (Str.ofString "co"), .str (Str.ofString "fo")]) a2 (by simpa using b2)
       obtain ⟨m, rfl, m0, m1⟩ : ∃ m, d = .str (rs m) ∧ m < 512 ∧ lawM m = true := by
         simp only [List.mem_cons, List.not_mem_nil, or_false] at hm
         rcases hm with rfl | rfl | rfl | rfl | rfl
         · exact ⟨128, by rw [l3], by decide, by decide⟩
         · exact ⟨256, by rw [l4], by decide, by decide⟩
         · exact ⟨416, by rw [l5], by decide, by decide⟩
         · exact ⟨384, by rw [l6], by decide, by decide⟩
         · exact ⟨288, by rw [l7], by decide, by decide⟩
       refine ⟨m, S2, ?_, p2, m0, m1⟩
       unfold g_law_rights runDef m_law_rights
       simp [t1, c1, t2, ixD, hd])
  by_cases c2 : r = 2
  · obtain ⟨q, S2, t2, a2, b2, p2, _⟩ := take_okF 2 p1 (by omega) (by omega)
    obtain ⟨d, hd, hm⟩ := atI_mem (xs := [D.str (Str.ofString ""), .str (Str.ofString "f")]) a2 (by simpa using b2)
    obtain ⟨m, rfl, m0, m1⟩ : ∃ m, d = .str (rs m) ∧ m < 512 ∧ lawM m = true := by
      simp only [List.mem_cons, List.not_mem_nil, or_false] at hm
      rcases hm with rfl | rfl
      · exact ⟨0, by rw [l9], by decide, by decide⟩
      · exact ⟨32, by rw [l10], by decide, by decide⟩
    refine ⟨m, S2, ?_, p2, m0, m1⟩
    unfold g_law_rights runDef m_law_rights
    simp [t1, c2, t2, ixD, hd]
  by_cases c3 : r < 5
  · obtain ⟨q, S2, t2, a2, b2, p2, _⟩ := take_okF 3 p1 (by omega) (by omega)
    obtain ⟨d, hd, hm⟩ := atI_mem (xs := [D.str (Str.ofString "rwlsf"), .str (Str.ofString "rwlsn"), .str (Str.ofString "rwlsnf")]) a2 (by simpa using b2)
    obtain ⟨m, rfl, m0, m1⟩ : ∃ m, d = .str (rs m) ∧ m < 512 ∧ lawM m = true := by
      simp only [List.mem_cons, List.not_mem_nil, or_false] at hm
      rcases hm with rfl | rfl | rfl
      · exact ⟨47, by rw [l11], by decide, by decide⟩
      · exact ⟨31, by rw [l12], by decide, by decide⟩
      · exact ⟨63, by rw [l13], by decide, by decide⟩
    refine ⟨m, S2, ?_, p2, m0, m1⟩
    unfold g_law_rights runDef m_law_rights
    simp [t1, c0, c1, c2, c3, t2, ixD, hd]
  · obtain ⟨m, S2, hm, p2, lc⟩ := rights_six (x1 := some (.int r)) p1
    refine ⟨m, S2, ?_, p2, by omega, law64 hm⟩
    unfold g_law_rights runDef m_law_rights
    simp [t1, c0, c1, c2, c3, lc, rMth, tyM, join_rs, ofP]
theorem law_bounds_ok {S : Store} {n : Nat} (hp : PoolF T S n) : ∃ l h S', g_law_bounds [.loc n] S = .ok (.tup [.int l, .int h]) S' ∧ PoolF T S' n ∧ 0 ≤ l ∧ l < h ∧ h ≤ 4096 ∧ exb l h = true := by
  obtain ⟨r0, S0, t0, a0, b0, p0, _⟩ := take_okF 4096 hp (by omega) (by omega)
  obtain ⟨r1, S1, t1, a1, b1, p1, _⟩ := take_okF 96 p0 (by omega) (by omega)
  obtain ⟨r2, S2, t2, a2, b2, p2, _⟩ := take_okF 7 p1 (by omega) (by omega)
  obtain ⟨d, hd, hm⟩ := atI_mem (xs := [D.int 0, .int 1, .int 16, .int 2048, .int 4095, .int r0, .int r1]) a2 (by simpa using b2)
  obtain ⟨l, rfl, l0, l1⟩ : ∃ l, d = .int l ∧ 0 ≤ l ∧ l < 4096 := by
    simp only [List.mem_cons, List.not_mem_nil, or_false] at hm
    rcases hm with rfl | rfl | rfl | rfl | rfl | rfl | rfl <;> exact ⟨_, rfl, by omega, by omega⟩
  obtain ⟨r3, S3, t3, a3, b3, p3, _⟩ := take_okF 64 p2 (by omega) (by omega)
  obtain ⟨r4, S4, t4, a4, b4, p4, _⟩ := take_okF 4096 p3 (by omega) (by omega)
  obtain ⟨r5, S5, t5, a5, b5, p5, _⟩ := take_okF 8 p4 (by omega) (by omega)
  obtain ⟨d2, hd2, hm2⟩ := atI_mem (xs := [D.int 1, .int 2, .int 16, .int 17, .int 32, .int 33, .int (1 + r3), .int (1 + r4)]) a5 (by simpa using b5)
  obtain ⟨k, rfl, k0⟩ : ∃ l, d2 = .int l ∧ 1 ≤ l := by
    simp only [List.mem_cons, List.not_mem_nil, or_false] at hm2
    rcases hm2 with rfl | rfl | rfl | rfl | rfl | rfl | rfl | rfl <;> exact ⟨_, rfl, by omega⟩
  generalize hh : (if l + k < 4096 then l + k else 4096) = h
  have h0 : l < h ∧ h ≤ 4096 := by rw [← hh]; split <;> omega
  have ll := law_least_eq (S := S5) l0 h0.1 h0.2
  have hd' := held_holds l h
  refine ⟨lhl l h, lhh l h, S5, ?_, p5, lhl_nn l0, by omega, lhh_le l0 h0.2, held_exact l0 h0.2⟩
  unfold g_law_bounds runDef m_law_bounds
  simp [t0, t1, t2, ixD, hd, t3, t4, t5, hd2, hh, ll]
theorem law_word_ok {S : Store} {n : Nat} (hp : PoolF T S n) : ∃ m b S', g_law_word [.loc n] S = .ok (.tup [.bl m, .int b]) S' ∧ PoolF T S' n ∧ LW m b := by
  obtain ⟨r0, S0, t0, a0, b0, p0, _⟩ := take_okF 5 hp (by omega) (by omega)
  have pw : powOk 2 45 = true := by decide
  by_cases c0 : r0 = 0
  · obtain ⟨r1, S1, t1, a1, b1, p1, _⟩ := take_okF 35184372088832 p0 (by omega) (by omega)
    obtain ⟨r2, S2, t2, a2, b2, p2, _⟩ := take_okF 5 p1 (by omega) (by omega)
    obtain ⟨d, hd, hm⟩ := atI_mem (xs := [D.int 0, .int 1, .int 4095, .int 35184372088831, .int r1]) a2 (by simpa using b2)
    obtain ⟨b, rfl, b0, b1⟩ : ∃ l, d = .int l ∧ 0 ≤ l ∧ l < 35184372088832 := by
      simp only [List.mem_cons, List.not_mem_nil, or_false] at hm
      rcases hm with rfl | rfl | rfl | rfl | rfl <;> exact ⟨_, rfl, by omega, by omega⟩
    refine ⟨false, b, S2, ?_, p2, b0, b1, fun z => by cases z⟩
    unfold g_law_word runDef m_law_word
    simp [t0, c0, pw, t1, t2, ixD, hd]
  · obtain ⟨l, h, S1, t1, p1, l0, l1, l2, l3⟩ := law_bounds_ok p0
    obtain ⟨m, S2, t2, p2, m0, m1⟩ := law_rights_ok p1
    have i7 := mem_rs (m := m) (i := 7) (by omega) (S := S2)
    have i8 := mem_rs (m := m) (i := 8) (by omega) (S := S2)
    rw [← lit_c] at i7
    rw [← lit_o] at i8
    -- the bounds behind the look at c and o
    have bo : ∃ l' h' S3, PoolF T S3 n ∧ 0 ≤ l' ∧ l' < h' ∧ h' ≤ 4096 ∧ exb l' h' = true ∧ ∀ k : RS, (((sIf (rAndT (rOrT (rTest (rBin inD (rCon (.str "c")) (rVar 3))) (rTest (rBin inD (rCon (.str "o")) (rVar 3)))) (rTest (rBin gtD (rCall g_law_take (rCons (rVar 0) (rCons (rCon (.int 3)) rNil))) (rCon (.int 0)))))
        (sAsg (.tp [1, 2]) (rBin ixD (rLst (rCons (rTup (rCons (rCon (.int 3)) (rCons (rCon (.int 16)) rNil))) (rCons (rTup (rCons (rCon (.int 3)) (rCons (rCon (.int 4)) rNil))) (rCons (rTup (rCons (rCon (.int 5)) (rCons (rCon (.int 9)) rNil))) (rCons (rTup (rCons (rCon (.int 0)) (rCons (rCon (.int 16)) rNil))) (rCons (rTup (rCons (rCon (.int 2)) (rCons (rCon (.int 5)) rNil))) rNil)))))) (rCall g_law_take (rCons (rVar 0) (rCons (rCon (.int 5)) rNil)))))
        sNil) [some (.loc n), some (.int l), some (.int h), some (.str (rs m)), none, none, none] S2).andThen k) = k [some (.loc n), some (.int l'), some (.int h'), some (.str (rs m)), none, none, none] S3 := by
      by_cases hco : (m.testBit 7 || m.testBit 8) = true
      · obtain ⟨r3, S3, t3, a3, b3, p3, _⟩ := take_okF 3 p2 (by omega) (by omega)
        by_cases c3 : 0 < r3
        · obtain ⟨r4, S4, t4, a4, b4, p4, _⟩ := take_okF 5 p3 (by omega) (by omega)
          obtain ⟨d, hd, hm⟩ := atI_mem (xs := [D.tup [.int 3, .int 16], .tup [.int 3, .int 4], .tup [.int 5, .int 9], .tup [.int 0, .int 16], .tup [.int 2, .int 5]]) a4 (by simpa using b4)
          obtain ⟨l', h', rfl, q0, q1, q2, q3⟩ : ∃ l' h' : Int, d = .tup [.int l', .int h'] ∧ 0 ≤ l' ∧ l' < h' ∧ h' ≤ 4096 ∧ exb l' h' = true := by
            simp only [List.mem_cons, List.not_mem_nil, or_false] at hm
            rcases hm with rfl | rfl | rfl | rfl | rfl <;> exact ⟨_, _, rfl, by decide, by decide, by decide, by decide⟩
          refine ⟨l', h', S4, p4, q0, q1, q2, q3, fun k => ?_⟩
          cases h7 : m.testBit 7 with
          | true =>
            rw [h7] at i7
            simp [i7, t3, c3, t4, ixD, hd]
          | false =>
            rw [h7] at i7 hco
            simp at hco
            rw [hco] at i8
            simp [i7, i8, t3, c3, t4, ixD, hd]
        · refine ⟨l, h, S3, p3, l0, l1, l2, l3, fun k => ?_⟩
          cases h7 : m.testBit 7 with
          | true =>
            rw [h7] at i7
            simp [i7, t3, c3]
          | false =>
            rw [h7] at i7 hco
            simp at hco
            rw [hco] at i8
            simp [i7, i8, t3, c3]
      · simp at hco
        rw [hco.1] at i7
        rw [hco.2] at i8
        exact ⟨l, h, S2, p2, l0, l1, l2, l3, fun k => by simp [i7, i8]⟩
    obtain ⟨l', h', S3, p3, q0, q1, q2, q3, bo⟩ := bo
    obtain ⟨r5, S5, t5, a5, b5, p5, _⟩ := take_okF (h' - l') p3 (by omega) (by omega)
    obtain ⟨r6, S6, t6, a6, b6, p6, _⟩ := take_okF 4096 p5 (by omega) (by omega)
    obtain ⟨r7, S7, t7, a7, b7, p7, _⟩ := take_okF 5 p6 (by omega) (by omega)
    obtain ⟨d2, hd2, hm2⟩ := atI_mem (xs := [D.int l', .int (h' - 1), .int (h' % 4096), .int (l' + r5), .int r6]) a7 (by simpa using b7)
    obtain ⟨at_, rfl, at0, at1⟩ : ∃ l, d2 = .int l ∧ 0 ≤ l ∧ l < 4096 := by
      simp only [List.mem_cons, List.not_mem_nil, or_false] at hm2
      rcases hm2 with rfl | rfl | rfl | rfl | rfl <;> exact ⟨_, rfl, by omega, by omega⟩
    obtain ⟨r8, S8, t8, a8, b8, p8, _⟩ := take_okF 16 p7 (by omega) (by omega)
    obtain ⟨r9, S9, t9, a9, b9, p9, _⟩ := take_okF 9 p8 (by omega) (by omega)
    obtain ⟨d3, hd3, hm3⟩ := atI_mem (xs := [D.int 0, .int 0, .int 0, .int 1, .int 2, .int 3, .int 4, .int 15, .int r8]) a9 (by simpa using b9)
    obtain ⟨k, rfl, k0, k1⟩ : ∃ l, d3 = .int l ∧ 0 ≤ l ∧ l < 16 := by
      simp only [List.mem_cons, List.not_mem_nil, or_false] at hm3
      rcases hm3 with rfl | rfl | rfl | rfl | rfl | rfl | rfl | rfl | rfl <;> exact ⟨_, rfl, by omega, by omega⟩
    have ok : Fd.ok ⟨l', h', at_, m, k⟩ := ⟨⟨q0, q1, q2, q3, at0, at1, m0, k0, k1⟩, m1⟩
    have mk := law_made_eq (S := S9) ok.1
    have lw := LW.of_fd ok
    generalize Fd.bits ⟨l', h', at_, m, k⟩ = B at *
    simp only at mk
    obtain ⟨r10, S10, t10, a10, b10, p10, _⟩ := take_okF 5 p9 (by omega) (by omega)
    obtain ⟨d4, hd4, hm4⟩ := atI_mem (xs := [D.tup [.bl true, .int B], .tup [.bl true, .int B], .tup [.bl true, .int B], .tup [.bl true, .int B], .tup [.bl false, .int B]]) a10 (by simpa using b10)
    obtain ⟨mm, rfl, lw'⟩ : ∃ mm, d4 = .tup [.bl mm, .int B] ∧ LW mm B := by
      simp only [List.mem_cons, List.not_mem_nil, or_false] at hm4
      rcases hm4 with rfl | rfl | rfl | rfl | rfl
      · exact ⟨_, rfl, lw⟩
      · exact ⟨_, rfl, lw⟩
      · exact ⟨_, rfl, lw⟩
      · exact ⟨_, rfl, lw⟩
      · exact ⟨_, rfl, lw.bare⟩
    refine ⟨mm, B, S10, ?_, p10, lw'⟩
    have ix1 : ∀ S : Store, ixD S (.tup [.bl true, .int B]) (.int 1) = some (.int B) := fun S => by simp [ixD, atI, ixN]
    have ixl : ∀ (S : Store) (xs : List D) (i : Int), ixD S (.lst xs) (.int i) = atI xs i := fun S xs i => by simp [ixD]
    unfold g_law_word runDef m_law_word
    rw [sSeq_eq]
    simp only [sIf_eq, rTest_eq, rBin_eq, rCall_eq, rCons_eq, rNil_eq, rVar_eq, rCon_eq, bind_ok, List.map_cons, List.map_nil, List.length_cons, List.length_nil]
    simp [t0, c0, t1, t2, -sIf_eq]
    rw [bo]
    simp [t5, t6, t7, ixl, hd2, t8, t9, hd3, mk, ix1, t10, hd4]
structure Both (S : Store) (n c d b : Nat) (L M : Bk) (k : Nat) : Prop where
  pool : PoolAt S n
  cat : CAt S c d L
  book : S[b]? = some (.dK (bkK M) (bkX M))
  ap : n ≠ c ∧ n ≠ d ∧ n ≠ b ∧ c ≠ b ∧ d ≠ b
  same : ∀ a, getB L a = getB M a
  ndL : NdB L
  ndM : NdB M
  lenL : L.length ≤ k
  lenM : M.length ≤ k
  bits : ∀ a, 0 ≤ (getB M a).2 ∧ (getB M a).2 < 35184372088832
  rgL : ∀ p ∈ L, 0 ≤ p.1 ∧ p.1 < 4096
  rgM : ∀ p ∈ M, 0 ≤ p.1 ∧ p.1 < 4096
  nz : Nz L
theorem nz_lay {L : Bk} (h : Nz L) (a : Int) (w : Wd) : Nz (layB L a w) := fun p hp => by
  unfold layB at hp
  split at hp
  · exact h p (List.mem_filter.mp hp).1
  · rename_i hw
    rcases mem_put hp with rfl | q
    · exact hw
    · exact h p q
theorem rg_put {L : Bk} {a : Int} {w : Wd} (h : ∀ p ∈ L, 0 ≤ p.1 ∧ p.1 < 4096) (ha : 0 ≤ a ∧ a < 4096) : ∀ p ∈ putB L a w, 0 ≤ p.1 ∧ p.1 < 4096 := fun p hp => by
  rcases mem_put hp with rfl | q
  · exact ha
  · exact h p q
theorem rg_lay {L : Bk} {a : Int} {w : Wd} (h : ∀ p ∈ L, 0 ≤ p.1 ∧ p.1 < 4096) (ha : 0 ≤ a ∧ a < 4096) : ∀ p ∈ layB L a w, 0 ≤ p.1 ∧ p.1 < 4096 := fun p hp => by
  unfold layB at hp
  split at hp
  · exact h p (List.mem_filter.mp hp).1
  · exact rg_put h ha p hp
theorem Both.frame {S S' : Store} {n c d b k : Nat} {L M : Bk} (h : Both S n c d b L M k) (hf : PoolF S S' n) : Both S' n c d b L M k := by
  obtain ⟨p, hl, fr⟩ := hf
  obtain ⟨a1, a2, a3, a4, a5⟩ := h.ap
  exact ⟨p, ⟨by rw [fr c (Ne.symm a1)]; exact h.cat.obj, by rw [fr d (Ne.symm a2)]; exact h.cat.dic⟩, by rw [fr b (Ne.symm a3)]; exact h.book, h.ap, h.same, h.ndL, h.ndM, h.lenL, h.lenM, h.bits, h.rgL, h.rgM, h.nz⟩
theorem repr_wd {S : Store} {w : Wd} (h : 0 ≤ w.2 ∧ w.2 < 35184372088832 * 2) : reprD S [wd w] = some (.str (PyData.tuple [.bool w.1, .int w.2]).shown) := by
  have p : pyD S deepN (wd w) = some (.tuple [.bool w.1, .int w.2]) := rfl
  refine reprD_of p ?_ ?_
  · have := okR_int (i := w.2) (by omega) (by omega)
    simp only [okR, okRs] at this ⊢
    simp [this]
  · simp [bnR, bnRs]
theorem Both.cells2 {S : Store} {n c d b k : Nat} {L M N : Bk} (h : Both S n c d b L M k) (a : Int) (ha : 0 ≤ a ∧ a < 4096) (w : Wd) (rN : ∀ p ∈ N, 0 ≤ p.1 ∧ p.1 < 4096) (hw : 0 ≤ w.2 ∧ w.2 < 35184372088832) (nN : NdB N) (lN : N.length ≤ k + 1) (gN : ∀ z, getB N z = if z = a then w else getB M z) :
    Both ((S.set d (.dK (bkK (layB L a w)) (bkX (layB L a w)))).set b (.dK (bkK N) (bkX N))) n c d b (layB L a w) N (k + 1) := by
  obtain ⟨a1, a2, a3, a4, a5⟩ := h.ap
  have hb : b < S.length := (List.getElem?_eq_some_iff.mp h.book).1
  have s1 := h.cat.set (M := layB L a w)
  refine ⟨?_, ⟨by rw [List.getElem?_set_ne (Ne.symm a4)]; exact s1.obj, by rw [List.getElem?_set_ne (Ne.symm a5)]; exact s1.dic⟩, by rw [List.getElem?_set_self (by rw [List.length_set]; exact hb)], h.ap, fun z => ?_, nd_lay h.ndL a w, nN, ?_, lN, fun z => ?_, rg_lay h.rgL ha, rN, nz_lay h.nz a w⟩
  · obtain ⟨x, y, q, r⟩ := h.pool
    exact ⟨x, y, by rw [List.getElem?_set_ne (Ne.symm a3), List.getElem?_set_ne (Ne.symm a2)]; exact q, r⟩
  · rw [get_lay, gN, h.same]
  · have := len_lay L a w; have := h.lenL; omega
  · rw [gN]
    split
    · exact hw
    · exact h.bits z
theorem lay_eq {S : Store} {c d : Nat} {L : Bk} {a : Int} {w : Wd} (h : CAt S c d L) (hl : L.length < 1000) (a0 : 0 ≤ a) (a1 : a < 4096) (hw : LW w.1 w.2) :
    g_Cells_lay [.loc c, .int a, wd w] S = .ok .non (S.set d (.dK (bkK (layB L a w)) (bkX (layB L a w)))) := by
  have ia := is_addr (S := S) (a := a)
  have il : g_is_lawful [wd w] S = .ok (.bl (lawB w.1 w.2)) S := is_lawful_pair hw.1 hw.2.1
  have lb : lawB w.1 w.2 = true := by
    unfold lawB
    cases hm : w.1 with
    | false => rfl
    | true => rw [(hw.2.2 hm).1, (hw.2.2 hm).2]; rfl
  have pe := put_eq (a := a) (w := w) h hl
  have me := met_eq (S := S) (S1 := S) (m := Str.ofString "put") (g := g_Cells_put) (o := rVar 0) (as := rCons (rVar 1) (rCons (rVar 2) rNil)) (e := [some (.loc c), some (.int a), some (wd w)]) h (by simp) (by decide +kernel)
  rw [lb] at il
  unfold g_Cells_lay runDef m_Cells_lay
  simp [ia, a0, a1, il, me, pe]
theorem book_dix {S : Store} {b : Nat} {M : Bk} {a : Int} {w : Wd} (h : S[b]? = some (.dK (bkK M) (bkX M))) (hf : fndB M a = some w) : dixD S (.loc b) (.int a) = some (wd w) := by
  unfold dixD
  have dc : dictAt S (.loc b) = some (bkK M, bkX M) := by simp only [dictAt, h]
  rw [dc]
  simp only [Option.bind_some, Ev.keyOf, lk_bk, hf, Option.map_some]
theorem s_put {a o i : RE} {e : Ev.Env} {S S1 S2 S3 S4 : Store} {v x y : Ev.D} (ha : a e S = .ok v S1) (ho : o e S1 = .ok x S2) (hi : i e S2 = .ok y S3) (hp : putD S3 x y v = some S4) : sPutD a o i e S = .nx e S4 := by
  rw [sPutD_eq, ha, fl_ok, ho, fl_ok, hi, fl_ok, hp]
theorem laid_turn {S : Store} {n c d b k : Nat} {L M : Bk} {x3 x4 : Option Ev.D} (h : Both S n c d b L M k) (hk : k < 900) :
    ∃ S' L' M' y4, lb1_law_laid [some (.loc n), some (.loc c), some (.loc b), x3, x4] S = .nx [some (.loc n), some (.loc c), some (.loc b), x3, y4] S' ∧ Both S' n c d b L' M' (k + 1) ∧ S'.length = S.length ∧ ∀ j, j ≠ n → j ≠ d → j ≠ b → S'[j]? = S[j]? := by
  obtain ⟨r0, S0, t0, a0, b0, p0, _⟩ := take_okF 64 h.pool.f (by omega) (by omega)
  obtain ⟨r1, S1, t1, a1, b1, p1, _⟩ := take_okF 4096 p0 (by omega) (by omega)
  obtain ⟨r2, S2, t2, a2, b2, p2, _⟩ := take_okF 4 p1 (by omega) (by omega)
  obtain ⟨a, hx, s0, s1⟩ : ∃ a, ixD S2 (.lst [.int r0, .int r1, .int 0, .int 4095]) (.int r2) = some (.int a) ∧ 0 ≤ a ∧ a < 4096 := by
    have : r2 = 0 ∨ r2 = 1 ∨ r2 = 2 ∨ r2 = 3 := by omega
    rcases this with rfl | rfl | rfl | rfl
    · exact ⟨r0, rfl, by omega, by omega⟩
    · exact ⟨r1, rfl, by omega, by omega⟩
    · exact ⟨0, rfl, by omega, by omega⟩
    · exact ⟨4095, rfl, by omega, by omega⟩
  obtain ⟨m0, w0, S3, t3, p3, lw⟩ := law_word_ok p2
  obtain ⟨r4, S4, t4, a4, b4, p4, _⟩ := take_okF 4 p3 (by omega) (by omega)
  have ew : (.tup [.bl m0, .int w0] : Ev.D) = wd (m0, w0) := rfl
  rw [ew] at t3
  obtain ⟨w, hw, lww⟩ : ∃ w : Wd, ixD S4 (.lst [wd (m0, w0), .tup [.bl false, .int 0]]) (.int (if decide (r4 = 0) = true then 1 else 0)) = some (wd w) ∧ LW w.1 w.2 := by
    by_cases z : r4 = 0
    · exact ⟨(false, 0), by simp [z, ixD, atI, ixN, wd], ⟨by decide, by decide, by simp⟩⟩
    · exact ⟨(m0, w0), by simp [z, ixD, atI, ixN], lw⟩
  have h4 := h.frame p4
  have hlM : M.length < 1000 := by have := h.lenM; omega
  have hlL : L.length < 1000 := by have := h.lenL; omega
  have pb := put_book (a := a) (w := w) h4.book hlM
  obtain ⟨q1, q2, q3, q4, q5⟩ := h4.ap
  have hb : b < S4.length := (List.getElem?_eq_some_iff.mp h4.book).1
  have bo := h4.cells2 (N := putB M a w) a ⟨s0, s1⟩ w (rg_put h4.rgM ⟨s0, s1⟩) ⟨lww.1, lww.2.1⟩ (nd_put h4.ndM a _) (by have := len_put M a w; have := h4.lenM; omega) (fun z => get_put M a z _)
  have cs : CAt (S4.set b (.dK (bkK (putB M a w)) (bkX (putB M a w)))) c d L := ⟨by rw [List.getElem?_set_ne (Ne.symm q4)]; exact h4.cat.obj, by rw [List.getElem?_set_ne (Ne.symm q5)]; exact h4.cat.dic⟩
  have ly := lay_eq (w := w) cs hlL s0 s1 lww
  rw [List.set_comm _ _ q5] at bo
  have dx := book_dix (S := S4.set b (.dK (bkK (putB M a w)) (bkX (putB M a w)))) (M := putB M a w) (a := a) (w := w) (List.getElem?_set_self hb) (by rw [fnd_put, if_pos rfl])
  have fr : ∀ j, j ≠ n → j ≠ d → j ≠ b → ((S4.set b (.dK (bkK (putB M a w)) (bkX (putB M a w)))).set d (.dK (bkK (layB L a w)) (bkX (layB L a w))))[j]? = S[j]? := fun j j1 j2 j3 => by
    rw [List.getElem?_set_ne (Ne.symm j2), List.getElem?_set_ne (Ne.symm j3)]
    exact p4.2.2 j j1
  have ln : ((S4.set b (.dK (bkK (putB M a w)) (bkX (putB M a w)))).set d (.dK (bkK (layB L a w)) (bkX (layB L a w)))).length = S.length := by
    rw [List.length_set, List.length_set]; exact p4.2.1
  refine ⟨_, _, _, some (.int a), ?_, bo, ln, fr⟩
  have eq4 : eqD S4 (.int r4) (.int 0) = some (.bl (decide (r4 = 0))) := by
    unfold eqD
    rw [eqB_ii, Option.bind_some]
    have : (r4 == 0) = decide (r4 = 0) := by rw [Bool.eq_iff_iff]; simp
    rw [this]
  have it : intD S4 [.bl (decide (r4 = 0))] = some (.int (if decide (r4 = 0) = true then 1 else 0)) := by cases decide (r4 = 0) <;> rfl
  have nn : isNot (((S4.set b (.dK (bkK (putB M a w)) (bkX (putB M a w)))).set d (.dK (bkK (layB L a w)) (bkX (layB L a w))))) .non .non = some (.bl false) := rfl
  unfold lb1_law_laid
  refine s_seq (s_set (o_bin (o_lst (o_cons (o_call (o_cons (o_var rfl) (o_cons (o_con (d := .int 64)) o_nil)) t0) (o_cons (o_call (o_cons (o_var rfl) (o_cons (o_con (d := .int 4096)) o_nil)) t1) (o_cons (o_con (d := .int 0)) (o_cons (o_con (d := .int 4095)) o_nil))))) (o_call (o_cons (o_var rfl) (o_cons (o_con (d := .int 4)) o_nil)) t2) hx))
    (s_seq (e' := [some (.loc n), some (.loc c), some (.loc b), x3, some (.int a)]) (S1 := S4.set b (.dK (bkK (putB M a w)) (bkX (putB M a w)))) ?pd
    (s_no (o_test (o_bin ((met_C (m := "lay") cs (by decide +kernel) (o_var rfl) (o_cons (o_var rfl) (o_cons (o_bin (o_var rfl) (o_var rfl) dx) o_nil))).trans ly) (o_con (d := .non)) nn)) s_nil))
  case pd =>
    have v1 : (rBin ixD (rLst (rCons (rCall g_law_word (rCons (rVar 0) rNil)) (rCons (rTup (rCons (rCon (.bl false)) (rCons (rCon (.int 0)) rNil))) rNil))) (rCal intD (rCons (rBin eqD (rCall g_law_take (rCons (rVar 0) (rCons (rCon (.int 4)) rNil))) (rCon (.int 0))) rNil))) [some (.loc n), some (.loc c), some (.loc b), x3, some (.int a)] S2 = .ok (wd w) S4 :=
      o_bin (o_lst (o_cons (o_call (o_cons (o_var rfl) o_nil) t3) (o_cons (o_tup (o_cons (o_con (d := .bl false)) (o_cons (o_con (d := .int 0)) o_nil))) o_nil))) (o_cal (o_cons (o_bin (o_call (o_cons (o_var rfl) (o_cons (o_con (d := .int 4)) o_nil)) t4) (o_con (d := .int 0)) eq4) o_nil) it) hw
    exact s_put (e := [some (.loc n), some (.loc c), some (.loc b), x3, some (.int a)]) v1 (o_var rfl) (o_var rfl) pb
theorem laid_loop {n c d b : Nat} : ∀ (ds : List Ev.D) {S : Store} {L M : Bk} {k : Nat} (x3 x4 : Option Ev.D), Both S n c d b L M k → k + ds.length < 900 →
    ∃ S' L' M' y3 y4, forL (.nm 3) lb1_law_laid ds [some (.loc n), some (.loc c), some (.loc b), x3, x4] S = .nx [some (.loc n), some (.loc c), some (.loc b), y3, y4] S' ∧ Both S' n c d b L' M' (k + ds.length) ∧ S'.length = S.length ∧ ∀ j, j ≠ n → j ≠ d → j ≠ b → S'[j]? = S[j]?
  | [], S, L, M, k, x3, x4, h, _ => ⟨S, L, M, x3, x4, rfl, h, rfl, fun _ _ _ _ => rfl⟩
  | x :: ds, S, L, M, k, x3, x4, h, hk => by
    rw [List.length_cons] at hk
    obtain ⟨S1, L1, M1, y4, t1, h1, l1, f1⟩ := laid_turn (x3 := some x) (x4 := x4) h (by omega)
    obtain ⟨S2, L2, M2, z3, z4, t2, h2, l2, f2⟩ := laid_loop ds (some x) y4 h1 (by omega)
    refine ⟨S2, L2, M2, z3, z4, (for_cons (e := [some (.loc n), some (.loc c), some (.loc b), x3, x4]) t1).trans t2, by rw [List.length_cons, show k + (ds.length + 1) = k + 1 + ds.length by omega]; exact h2, l2.trans l1, fun j j1 j2 j3 => (f2 j j1 j2 j3).trans (f1 j j1 j2 j3)⟩
theorem laid_eq {S : Store} {n c d b k : Nat} {L M : Bk} (h : Both S n c d b L M k) (hk : k < 800) :
    ∃ S' L' M', g_law_laid [.loc n, .loc c, .loc b] S = .ok (.bl true) S' ∧ Both S' n c d b L' M' (k + 8) ∧ S'.length = S.length ∧ ∀ j, j ≠ n → j ≠ d → j ≠ b → S'[j]? = S[j]? := by
  obtain ⟨S', L', M', y3, y4, t, h', l', f'⟩ := laid_loop (rangeD 0 8) none none h (by simp [rangeD]; omega)
  refine ⟨S', L', M', ?_, by simpa [rangeD] using h', l', f'⟩
  have rr : ran1 [.int 8] = some (rangeD 0 8) := by kernel_rfl
  have z : m_law_laid [some (.loc n), some (.loc c), some (.loc b), none, none] S = .rt (.bl true) S' := by
    unfold m_law_laid
    exact s_seq (s_for (o_ran (o_cons (o_con (d := .int 8)) o_nil) rr) t) (s_ret (o_con (d := .bl true)))
  unfold g_law_laid runDef
  show ((m_law_laid [some (.loc n), some (.loc c), some (.loc b), none, none] S).res) = _
  rw [z]; rfl
theorem eq_ints {S : Store} (xs : List Int) : eqB S (.lst (xs.map Ev.D.int)) (.lst (xs.map Ev.D.int)) = some true := by
  rw [eqB_ll]
  have e : pyAll (pyD S 59) (xs.map Ev.D.int) = some (xs.map PyData.int) := by
    induction xs with
    | nil => rfl
    | cons x xs ih => simp only [List.map_cons, pyAll, ih]; rfl
  rw [e]
  simp only [Option.bind_some]
  congr 1
  clear e
  induction xs with
  | nil => rfl
  | cons x xs ih => simp [PyData.eqvAll, PyData.eqv, ih]
theorem eq_at {S : Store} {p : Nat} {xs : List Ev.D} (h : S[p]? = some (.lst xs)) (d : Ev.D) : eqB S (.loc p) d = eqB S (.lst xs) d := by
  simp only [eqB, deepN, pyD, h]
theorem same_eq {S : Store} {c d : Nat} {x : Ev.D} {L M : Bk} (hC : CAt S c d L) (hM : ∀ T, BAt (S ++ T) x M) (nL : NdB L) (nM : NdB M) (lL : L.length < 64) (lM : M.length < 64) (rL : ∀ p ∈ L, 0 ≤ p.1 ∧ p.1 < 4096) (rM : ∀ p ∈ M, 0 ≤ p.1 ∧ p.1 < 4096)
    (sm : ∀ a, getB L a = getB M a) (bits : ∀ a, 0 ≤ (getB M a).2 ∧ (getB M a).2 < 35184372088832) : ∃ T, g_law_same [.loc c, x] S = .ok (.bl true) (S ++ [T]) := by
  have h0 : BAt S x M := by have := hM []; rwa [List.append_nil] at this
  have so := h0.sort lM
  obtain ⟨e1, S1, f, y, rfl, hS1⟩ := forL_inv (t := .nm 2) (body := lb1_law_same) (fun e S' => ∃ y, e = [some (.loc c), some x, y] ∧ S' = S) ((isortI (M.map (·.1))).map Ev.D.int ++ [.int 0, .int 1, .int 4095]) (e := [some (.loc c), some x, none]) (S := S)
    (fun t ht e S' ⟨y, he, hS⟩ => by
      subst he hS
      obtain ⟨a, rfl, a0, a1⟩ : ∃ a, t = .int a ∧ 0 ≤ a ∧ a < 4096 := by
        rcases List.mem_append.mp ht with ht | ht
        · obtain ⟨a, ha, rfl⟩ := List.mem_map.mp ht
          obtain ⟨p, hp, rfl⟩ := List.mem_map.mp (isort_mem.mp ha)
          exact ⟨_, rfl, rM p hp⟩
        · simp only [List.mem_cons, List.not_mem_nil, or_false] at ht
          rcases ht with rfl | rfl | rfl <;> exact ⟨_, rfl, by decide, by decide⟩
      refine ⟨[some (.loc c), some x, some (.int a)], rfl, _, S', ?_, some (.int a), rfl, rfl⟩
      have ce := cell_eq hC a0 a1
      have gb := h0.get a
      rw [sm] at ce
      have rp := repr_wd (S := S') (w := getB M a) (by have := bits a; omega)
      have nes : neD S' (.str (PyData.tuple [.bool (getB M a).1, .int (getB M a).2]).shown) (.str (PyData.tuple [.bool (getB M a).1, .int (getB M a).2]).shown) = some (.bl false) := by
        unfold neD eqB; simp [pyD, PyData.eqv]
      have gm : (rMth "dict" getDM (rVar 1) (rCons (rVar 2) (rCons (rTup (rCons (rCon (.bl false)) (rCons (rCon (.int 0)) rNil))) rNil))) [some (.loc c), some x, some (.int a)] S' = .ok (wd (getB M a)) S' := by
        simp [rMth, h0.2, gb, ofP]
      unfold lb1_law_same
      exact s_no (o_test (o_bin (o_cal (o_cons ((met_C (m := "cell") hC (by decide +kernel) (o_var rfl) (o_cons (o_var rfl) o_nil)).trans ce) o_nil) rp) (o_cal (o_cons gm o_nil) rp) nes)) s_nil) ⟨none, rfl, rfl⟩
  rw [hS1] at f
  have ma := marked_eq hC lL (lo := 0) (hi := 4096) (by decide) (by decide) (by decide)
  have mk : mkL L 0 4096 = (isortI (M.map (·.1))).filter fun a => (getB M a).1 := by
    rw [← mk_eq nL nM sm]
    unfold mkL
    refine List.filter_congr fun a ha => ?_
    obtain ⟨p, hp, rfl⟩ := List.mem_map.mp (isort_mem.mp ha)
    obtain ⟨r0, r1⟩ := rL p hp
    simp [r0, r1]
  rw [mk] at ma
  generalize hX : (isortI (M.map (·.1))).filter (fun a => (getB M a).1) = X at *
  have hB := hM [.lst (X.map Ev.D.int)]
  have so2 := hB.sort lM
  have lc := rLc_map (S := S ++ [.lst (X.map Ev.D.int)]) (it := rIt (rCal sortX (rCons (rVar 1) rNil))) (t := .nm 2) (vs := [2]) (c := rTruth (rBin ixD (rBin dixD (rVar 1) (rVar 2)) (rCon (.int 0)))) (elt := rVar 2) (e := [some (.loc c), some x, y]) (h := Ev.D.int) (xs := isortI (M.map (·.1)))
    (fun a => [some (.loc c), some x, some (.int a)]) (fun a => (getB M a).1) Ev.D.int (by simp [so2]) (by rw [isort_len]; exact len_small (by omega))
    (fun a ha => by
      have dx := hB.dix (isort_mem.mp ha)
      have j0 : ∀ (v : Wd), ixD (S ++ [.lst (X.map Ev.D.int)]) (wd v) (.int 0) = some (.bl v.1) := fun v => by simp [wd, ixD, atI, ixN]
      exact ⟨by simp [wipeE], by simp [dx, j0], fun _ => by simp⟩)
  rw [hX] at lc
  have ee : eqD (S ++ [.lst (X.map Ev.D.int)]) (.loc S.length) (.lst (X.map Ev.D.int)) = some (.bl true) := by
    unfold eqD
    rw [eq_at (xs := X.map Ev.D.int) (by simp), eq_ints]; rfl
  have ad : addD S (.lst ((isortI (M.map (·.1))).map Ev.D.int)) (.lst [.int 0, .int 1, .int 4095]) = some (.lst ((isortI (M.map (·.1))).map Ev.D.int ++ [.int 0, .int 1, .int 4095])) := by
    simp only [addD, asL]
    rw [if_pos (by rw [List.length_map, isort_len]; exact len_small (by simp; omega))]
  refine ⟨.lst (X.map Ev.D.int), ?_⟩
  have z : m_law_same [some (.loc c), some x, none] S = .rt (.bl true) (S ++ [.lst (X.map Ev.D.int)]) := by
    unfold m_law_same
    refine s_seq (s_for (xs := (isortI (M.map (·.1))).map Ev.D.int ++ [.int 0, .int 1, .int 4095]) (S1 := S) ?it f) (s_ret (o_bin ((metD_C (m := "marked") (is := [0, 4096]) hC (by decide +kernel) (o_var rfl) o_nil).trans ma) lc ee))
    have b1 : (rBin addD (rCal sortX (rCons (rVar 1) rNil)) (rLst (rCons (rCon (.int 0)) (rCons (rCon (.int 1)) (rCons (rCon (.int 4095)) rNil))))) [some (.loc c), some x, none] S = .ok (.lst ((isortI (M.map (·.1))).map Ev.D.int ++ [.int 0, .int 1, .int 4095])) S :=
      o_bin (o_cal (o_cons (o_var rfl) o_nil) so) (o_lst (o_cons (o_con (d := .int 0)) (o_cons (o_con (d := .int 1)) (o_cons (o_con (d := .int 4095)) o_nil)))) ad
    rw [rIt_eq, b1, bind_ok]
    rfl
  unfold g_law_same runDef
  show ((m_law_same [some (.loc c), some x, none] S).res) = _
  rw [z]; rfl
def Fr20 (S S' : Store) (xs : List Nat) : Prop := S.length ≤ S'.length ∧ ∀ j, j < S.length → j ∉ xs → S'[j]? = S[j]?
theorem Fr20.app (S T : Store) : Fr20 S (S ++ T) [] := ⟨by simp, fun j hj _ => List.getElem?_append_left hj⟩
theorem Fr20.set (S : Store) (d : Nat) (o : MO) : Fr20 S (S.set d o) [d] := ⟨by simp, fun j _ hn => List.getElem?_set_ne fun e => hn (by simp [e])⟩
theorem Fr20.refl (S : Store) : Fr20 S S [] := ⟨Nat.le_refl _, fun _ _ _ => rfl⟩
theorem Fr20.trans {A B C : Store} {xs ys : List Nat} (a : Fr20 A B xs) (b : Fr20 B C ys) : Fr20 A C (xs ++ ys) :=
  ⟨Nat.le_trans a.1 b.1, fun j hj hn => (b.2 j (Nat.lt_of_lt_of_le hj a.1) fun z => hn (List.mem_append_right _ z)).trans (a.2 j hj fun z => hn (List.mem_append_left _ z))⟩
theorem at_lt {S : Store} {i : Nat} {o : MO} (h : S[i]? = some o) : i < S.length := (List.getElem?_eq_some_iff.mp h).1
theorem CAt.fr {S S' : Store} {c d : Nat} {L : Bk} {xs : List Nat} (h : CAt S c d L) (f : Fr20 S S' xs) (hc : c ∉ xs) (hd : d ∉ xs) : CAt S' c d L := ⟨(f.2 c (at_lt h.obj) hc).trans h.obj, (f.2 d (at_lt h.dic) hd).trans h.dic⟩
theorem PoolAt.fr {S S' : Store} {n : Nat} {xs : List Nat} (h : PoolAt S n) (f : Fr20 S S' xs) (hn : n ∉ xs) : PoolAt S' n := by
  obtain ⟨a, b, e, r⟩ := h
  exact ⟨a, b, (f.2 n (at_lt e) hn).trans e, r⟩
theorem o_binS {f : Store → Ev.D → Ev.D → Option (Ev.D × Store)} {a b : RE} {e : Ev.Env} {S S1 S2 S3 : Store} {x y d : Ev.D} (h1 : a e S = .ok x S1) (h2 : b e S1 = .ok y S2) (hf : f S2 x y = some (d, S3)) : (rBinS f a b) e S = .ok d S3 := by
  show ((a e S).bind fun x S1 => (b e S1).bind fun y S2 => ofOS (f S2 x y)) = _
  rw [h1, bind_ok, h2, bind_ok, hf]; rfl
theorem o_rand {S S1 S2 : Store} {e : Ev.Env} {a b : RE} {k2 : Bool} (ha : a e S = .ok (.bl true) S1) (hb : b e S1 = .ok (.bl k2) S2) : (rAnd a b) e S = .ok (.bl k2) S2 := by
  rw [rAnd_eq, ha, bind_ok]
  exact hb
theorem lw0 : LW (false, 0).1 ((false, 0) : Wd).2 := ⟨by decide, by decide, by simp⟩
def fA : Fd := ⟨0, 16, 5, 43, 0⟩
def fB : Fd := ⟨0, 16, 3, 3, 0⟩
theorem fA_ok : fA.ok := ⟨⟨by decide, by decide, by decide, by decide +kernel, by decide, by decide, by decide, by decide, by decide⟩, by decide +kernel⟩
theorem fB_ok : fB.ok := ⟨⟨by decide, by decide, by decide, by decide +kernel, by decide, by decide, by decide, by decide, by decide⟩, by decide +kernel⟩
def wA : Wd := (true, fA.bits)
def wB : Wd := (true, fB.bits)
theorem wA_l : LW wA.1 wA.2 := LW.of_fd fA_ok
theorem wB_l : LW wB.1 wB.2 := LW.of_fd fB_ok
theorem wA_at : bAt wA.2 = 5 := fA_ok.1.parts.1
theorem wB_at : bAt wB.2 = 3 := fB_ok.1.parts.1
theorem fltA : fltW wA 0 119 = "" ∧ fltW wA 1 119 = "" ∧ fltW wA 2 119 = "" := by decide +kernel
theorem fltB : fltW wB 0 119 = "" ∧ fltW wB 1 119 = "" := by decide +kernel
theorem litA : Ev.D.str (Str.ofString "rwsf") = .str (rs 43) ∧ Ev.D.str (Str.ofString "rw") = .str (rs 3) := ⟨by kernel_rfl, by kernel_rfl⟩
theorem madeA {S : Store} : g_law_made [.int 0, .int 16, .int 5, .str (Str.ofString "rwsf"), .int 0] S = .ok (wd wA) S := by
  rw [litA.1]; exact law_made_eq fA_ok.1
theorem madeB {S : Store} : g_law_made [.int 0, .int 16, .int 3, .str (Str.ofString "rw"), .int 0] S = .ok (wd wB) S := by
  rw [litA.2]; exact law_made_eq fB_ok.1
theorem flt0 {w v : Wd} (h : v.1 = false) : fltS w v = "" := by simp [fltS, h]
theorem pk0 : pkW (false, 0) 0 = (false, 0) ∧ pkW (false, 0) 268435456 = (false, 0) := by decide +kernel
section
variable {S : Store} {c d : Nat} {L : Bk}
theorem st_eq {w v : Wd} {off a : Int} (h : CAt S c d L) (hl : L.length < 1000) (hw : LW w.1 w.2) (hv : LW v.1 v.2) (h0 : -8 ≤ off) (h1 : off ≤ 15) (f : fltW w off 119 = "") (g : v.1 = false) (ha : bAt w.2 + off = a) :
    g_Cells_store [.loc c, wd w, .int off, wd v] S = .ok .non (S.set d (.dK (bkK (layB L a v)) (bkX (layB L a v)))) := by
  rw [store_eq h hl hw hv h0 h1, if_pos f, if_pos (flt0 g), ha]
theorem pk_eq {w : Wd} {off a n : Int} (h : CAt S c d L) (hl : L.length < 1000) (hw : LW w.1 w.2) (h0 : -8 ≤ off) (h1 : off ≤ 15) (f : fltW w off 119 = "") (ha : bAt w.2 + off = a) :
    g_Cells_poke [.loc c, wd w, .int off, .int n] S = .ok .non (S.set d (.dK (bkK (layB L a (pkW (getB L a) n))) (bkX (layB L a (pkW (getB L a) n))))) := by
  rw [poke_eq h hl hw h0 h1, if_pos f, ha]
end
theorem mk_at {S : Store} : CAt (S ++ [MO.ins cl_Cells [Str.ofString "own_cells"] [.loc (S.length + 1)], .dK [] []]) S.length (S.length + 1) [] := ⟨by simp, by simp [bkK, bkX]⟩
theorem tw_at {S : Store} {L : Bk} : CAt (S ++ [MO.ins cl_Cells [Str.ofString "own_cells"] [.loc (S.length + 2)], .dK [] [], .dK (bkK L) (bkX L)]) S.length (S.length + 2) L := ⟨by simp, by simp⟩
theorem nd_nil : NdB [] := by simp [NdB]
theorem nz_nil : Nz [] := fun p h => by cases h
theorem mkL_none {L : Bk} {lo hi : Int} (h : ∀ a, (getB L a).1 = false) : mkL L lo hi = [] := by
  unfold mkL
  rw [List.filter_eq_nil_iff]
  intro a _
  simp [h a]
theorem emptied_eq {S : Store} {w : Wd} (hw : LW w.1 w.2) : ∃ S', g_law_emptied_so [wd w] S = .ok (.bl true) S' ∧ Fr20 S S' [] := by
  have c1 := mk_at (S := S)
  have f1 := Fr20.app S [MO.ins cl_Cells [Str.ofString "own_cells"] [.loc (S.length + 1)], .dK [] []]
  have m1 := mk_cells (S := S) (e := [some (wd w), none, none])
  generalize S ++ [MO.ins cl_Cells [Str.ofString "own_cells"] [.loc (S.length + 1)], .dK [] []] = S1 at *
  generalize hc : S.length = c at *
  -- the five doings
  have l1 : ([] : Bk).length < 1000 := by decide
  have t2 := lay_eq (a := 5) c1 l1 (by decide) (by decide) hw
  have c2 := c1.set (M := layB [] 5 w)
  have n2 := nd_lay nd_nil 5 w
  have z2 := nz_lay nz_nil 5 w
  have e2 := len_lay [] 5 w
  have g2 := fun b => get_lay [] 5 b w
  have F2 := Fr20.set S1 (c + 1) (.dK (bkK (layB [] 5 w)) (bkX (layB [] 5 w)))
  generalize layB [] 5 w = L2 at *
  generalize S1.set (c + 1) (.dK (bkK L2) (bkX L2)) = S2 at *
  simp only [List.length_nil] at e2
  have t3 := lay_eq (a := 5) (w := (false, 0)) c2 (by omega) (by decide) (by decide) lw0
  have c3 := c2.set (M := layB L2 5 (false, 0))
  have n3 := nd_lay n2 5 (false, 0)
  have z3 := nz_lay z2 5 (false, 0)
  have e3 := len_lay L2 5 (false, 0)
  have g3 := fun b => get_lay L2 5 b (false, 0)
  have F3 := Fr20.set S2 (c + 1) (.dK (bkK (layB L2 5 (false, 0))) (bkX (layB L2 5 (false, 0))))
  generalize layB L2 5 (false, 0) = L3 at *
  generalize S2.set (c + 1) (.dK (bkK L3) (bkX L3)) = S3 at *
  have t4 := st_eq (w := wA) (v := (false, 0)) (off := 0) (a := 5) c3 (by omega) wA_l lw0 (by decide) (by decide) fltA.1 rfl (by rw [wA_at]; rfl)
  have c4 := c3.set (M := layB L3 5 (false, 0))
  have n4 := nd_lay n3 5 (false, 0)
  have z4 := nz_lay z3 5 (false, 0)
  have e4 := len_lay L3 5 (false, 0)
  have g4 := fun b => get_lay L3 5 b (false, 0)
  have F4 := Fr20.set S3 (c + 1) (.dK (bkK (layB L3 5 (false, 0))) (bkX (layB L3 5 (false, 0))))
  generalize layB L3 5 (false, 0) = L4 at *
  generalize S3.set (c + 1) (.dK (bkK L4) (bkX L4)) = S4 at *
  have q4 : ∀ b, getB L4 b = (false, 0) := fun b => by
    rw [g4, g3, g2]
    by_cases h : b = 5
    · simp [h]
    · simp [h, getB, fndB]
  have t5 := pk_eq (w := wA) (off := 1) (a := 6) (n := 0) c4 (by omega) wA_l (by decide) (by decide) fltA.2.1 (by rw [wA_at]; rfl)
  rw [q4, pk0.1] at t5
  have c5 := c4.set (M := layB L4 6 (false, 0))
  have n5 := nd_lay n4 6 (false, 0)
  have z5 := nz_lay z4 6 (false, 0)
  have e5 := len_lay L4 6 (false, 0)
  have g5 := fun b => get_lay L4 6 b (false, 0)
  have F5 := Fr20.set S4 (c + 1) (.dK (bkK (layB L4 6 (false, 0))) (bkX (layB L4 6 (false, 0))))
  generalize layB L4 6 (false, 0) = L5 at *
  generalize S4.set (c + 1) (.dK (bkK L5) (bkX L5)) = S5 at *
  have q5 : ∀ b, getB L5 b = (false, 0) := fun b => by
    rw [g5, q4]; split <;> rfl
  have t6 := pk_eq (w := wA) (off := 2) (a := 7) (n := 268435456) c5 (by omega) wA_l (by decide) (by decide) fltA.2.2 (by rw [wA_at]; rfl)
  rw [q5, pk0.2] at t6
  have c6 := c5.set (M := layB L5 7 (false, 0))
  have n6 := nd_lay n5 7 (false, 0)
  have z6 := nz_lay z5 7 (false, 0)
  have e6 := len_lay L5 7 (false, 0)
  have g6 := fun b => get_lay L5 7 b (false, 0)
  have F6 := Fr20.set S5 (c + 1) (.dK (bkK (layB L5 7 (false, 0))) (bkX (layB L5 7 (false, 0))))
  generalize layB L5 7 (false, 0) = L6 at *
  generalize S5.set (c + 1) (.dK (bkK L6) (bkX L6)) = S6 at *
  have q6 : ∀ b, getB L6 b = (false, 0) := fun b => by
    rw [g6, q5]; split <;> rfl
  have nil0 : ∀ b, getB ([] : Bk) b = (false, 0) := fun b => rfl
  -- the end
  have m7 := mk_cells (S := S6) (e := [some (wd w), some (.loc c), some (wd wA)])
  have k7 := mk_at (S := S6)
  have F7 := Fr20.app S6 [MO.ins cl_Cells [Str.ofString "own_cells"] [.loc (S6.length + 1)], .dK [] []]
  generalize S6 ++ [MO.ins cl_Cells [Str.ofString "own_cells"] [.loc (S6.length + 1)], .dK [] []] = S7 at *
  have c7 := c6.fr F7 (by simp) (by simp)
  obtain ⟨r7, o7, h7⟩ := eqO_C (ne := false) c7 k7 n6 nd_nil z6 nz_nil
  have r7t : r7 = true := h7.mpr fun a => by rw [q6, nil0]
  rw [r7t] at o7
  have ma := marked_eq c7 (by omega) (lo := 0) (hi := 4096) (by decide) (by decide) (by decide)
  rw [mkL_none fun a => by rw [q6]] at ma
  have F8 := Fr20.app S7 [MO.lst (([] : List Int).map Ev.D.int)]
  have eqm : eqD (S7 ++ [MO.lst (([] : List Int).map Ev.D.int)]) (.loc S7.length) (.lst []) = some (.bl true) := by
    unfold eqD
    rw [eq_at (xs := []) (by simp)]
    simp [PyData.eqvAll]
  generalize S7 ++ [MO.lst (([] : List Int).map Ev.D.int)] = S8 at *
  have c8 := c7.fr F8 (by simp) (by simp)
  have tw := cells_twin c8
  have k9 := tw_at (S := S8) (L := L6)
  have F9 := Fr20.app S8 [MO.ins cl_Cells [Str.ofString "own_cells"] [.loc (S8.length + 2)], .dK [] [], .dK (bkK L6) (bkX L6)]
  generalize S8 ++ [MO.ins cl_Cells [Str.ofString "own_cells"] [.loc (S8.length + 2)], .dK [] [], .dK (bkK L6) (bkX L6)] = S9 at *
  have m10 := mk_cells (S := S9) (e := [some (wd w), some (.loc c), some (wd wA)])
  have k10 := mk_at (S := S9)
  have F10 := Fr20.app S9 [MO.ins cl_Cells [Str.ofString "own_cells"] [.loc (S9.length + 1)], .dK [] []]
  generalize S9 ++ [MO.ins cl_Cells [Str.ofString "own_cells"] [.loc (S9.length + 1)], .dK [] []] = S10 at *
  have k9' := k9.fr F10 (by simp) (by simp)
  obtain ⟨r10, o10, h10⟩ := eqO_C (ne := false) k9' k10 n6 nd_nil z6 nz_nil
  have r10t : r10 = true := h10.mpr fun a => by rw [q6, nil0]
  rw [r10t] at o10
  have FF := (((((((((f1.trans F2).trans F3).trans F4).trans F5).trans F6).trans F7).trans F8).trans F9).trans F10)
  refine ⟨S10, ?_, FF.1, fun j hj _ => FF.2 j hj ?_⟩
  · have h : m_law_emptied_so [some (wd w), none, none] S = .rt (.bl true) S10 := by
      unfold m_law_emptied_so
      have pw : powD S5 (.int 2) (.int 28) = some (.int 268435456) := by kernel_rfl
      refine s_seq (s_set (d := .loc c) (S1 := S1) m1) (s_seq (s_exp ((met_C (m := "lay") c1 (by decide +kernel) (o_var rfl) (o_cons (o_con (d := .int 5)) (o_cons (o_var rfl) o_nil))).trans t2))
        (s_seq (s_exp ((met_C (m := "lay") c2 (by decide +kernel) (o_var rfl) (o_cons (o_con (d := .int 5)) (o_cons (o_tup (o_cons (o_con (d := .bl false)) (o_cons (o_con (d := .int 0)) o_nil))) o_nil))).trans t3))
        (s_seq (s_set (d := wd wA) (S1 := S3) (o_call (o_cons (o_con (d := .int 0)) (o_cons (o_con (d := .int 16)) (o_cons (o_con (d := .int 5)) (o_cons (o_con (d := .str (Str.ofString "rwsf"))) (o_cons (o_con (d := .int 0)) o_nil))))) madeA))
        (s_seq (s_exp ((met_C (m := "store") c3 (by decide +kernel) (o_var rfl) (o_cons (o_var rfl) (o_cons (o_con (d := .int 0)) (o_cons (o_tup (o_cons (o_con (d := .bl false)) (o_cons (o_con (d := .int 0)) o_nil))) o_nil)))).trans t4))
        (s_seq (s_exp ((met_C (m := "poke") c4 (by decide +kernel) (o_var rfl) (o_cons (o_var rfl) (o_cons (o_con (d := .int 1)) (o_cons (o_con (d := .int 0)) o_nil)))).trans t5))
        (s_seq (s_exp ((met_C (m := "poke") c5 (by decide +kernel) (o_var rfl) (o_cons (o_var rfl) (o_cons (o_con (d := .int 2)) (o_cons (o_bin (o_con (d := .int 2)) (o_con (d := .int 28)) pw) o_nil)))).trans t6))
        (s_ret (o_rand (o_binS (o_var rfl) m7 o7) (o_rand (o_bin ((metD_C (m := "marked") (is := [0, 4096]) c7 (by decide +kernel) (o_var rfl) o_nil).trans ma) (o_lst o_nil) eqm)
          (o_binS ((met_C (m := "twin") c8 (by decide +kernel) (o_var rfl) o_nil).trans tw) m10 o10))))))))))
    unfold g_law_emptied_so runDef
    show ((m_law_emptied_so [some (wd w), none, none] S).res) = _
    rw [h]; rfl
  · simp only [List.nil_append, List.append_nil, List.mem_append, List.mem_cons, List.not_mem_nil, or_false]
    omega
section
variable {S : Store} {n : Nat} {ks : List Key} {xs : List Ev.D} {t : Tg} {c : RT} {elt : RE} {e0 : Ev.Env}
theorem lcK_map {α : Type} (hS : S[n]? = some (.dL ks xs)) (as : List α) (kf : α → Key) (hk : ks = as.map kf) (E : α → Ev.Env) (p : α → Bool) (f : α → Ev.D)
    (h : ∀ x ∈ as, bindT S (keyDD (kf x)) e0 t = some (E x) ∧ c (E x) S = .ok (p x) S ∧ (p x = true → elt (E x) S = .ok (f x) S)) :
    ∀ (m i : Nat), i ≤ as.length → as.length < i + m → lcK t c elt e0 (.loc n) m i S = .ok (((as.drop i).filter p).map f) S := by
  intro m
  induction m with
  | zero => intro i h1 h2; omega
  | succ m ih =>
    intro i h1 h2
    have it : itemK S (.loc n) i = some ((as.map fun x => keyDD (kf x))[i]?) := by
      simp only [itemK, hS, hk, List.map_map]
      rfl
    unfold lcK
    rw [it]
    by_cases hi : i < as.length
    · rw [List.getElem?_map, List.getElem?_eq_getElem hi]
      obtain ⟨g1, g2, g3⟩ := h as[i] (List.getElem_mem hi)
      simp only [Option.map_some, g1, g2, bind_ok]
      have ih' := ih (i + 1) hi (by omega)
      rw [List.drop_eq_getElem_cons hi, List.filter_cons]
      cases hp : p as[i] with
      | true =>
        simp only [if_true, g3 hp, bind_ok, ih', List.map_cons]
      | false =>
        simp only [Bool.false_eq_true, if_false, ih']
    · have e : i = as.length := by omega
      subst e
      rw [List.getElem?_eq_none (by simp)]
      simp
theorem rLcK_map {α : Type} {a : RE} {e : Ev.Env} {vs : List Nat} {k : Nat} (ha : a e S = .ok (.loc n) S) (hS : S[n]? = some (.dL ks xs)) (as : List α) (kf : α → Key) (hk : ks = as.map kf) (E : α → Ev.Env) (p : α → Bool) (f : α → Ev.D)
    (h : ∀ x ∈ as, bindT S (keyDD (kf x)) (wipeE e vs) t = some (E x) ∧ c (E x) S = .ok (p x) S ∧ (p x = true → elt (E x) S = .ok (f x) S)) (hl : as.length < k) (hz : k ≤ 1000) :
    (rLcK frzL a t vs c elt k) e S = .ok (.lst ((as.filter p).map f)) S := by
  have q := lcK_map hS as kf hk E p f h k 0 (Nat.zero_le _) (by omega)
  have z : k ≤ sizeLine := by rw [sizeLine_eq]; omega
  have ok : okK S (.loc n) = true := by simp only [okK, hS]
  unfold rLcK rLiveK
  rw [ha]
  simp only [bind_ok, ok, if_true, if_pos z, q, List.drop_zero, Res.calm]
  rfl
end
theorem putKs_new {ks : List Key} {xs : List Ev.D} {k : Key} {v : Ev.D} (h : k ∉ ks) : putKs ks xs k v = (ks ++ [k], xs ++ [v]) := by
  have e : hasK ks k = false := by
    unfold hasK
    rw [List.any_eq_false]
    intro x hx
    simp only [decide_eq_true_eq]
    exact fun z => h (z ▸ hx)
  unfold putKs
  rw [e]
  simp
theorem upd_new : ∀ (ks' : List Key) (xs' : List Ev.D) (ks : List Key) (xs : List Ev.D), ks'.length = xs'.length → (∀ k ∈ ks', k ∉ ks) → ks'.Nodup → updKs ks' xs' (ks, xs) = (ks ++ ks', xs ++ xs')
  | [], [], ks, xs, _, _, _ => by simp [updKs]
  | [], _ :: _, _, _, h, _, _ => by simp at h
  | _ :: _, [], _, _, h, _, _ => by simp at h
  | k :: ks', x :: xs', ks, xs, h, h1, h2 => by
    rw [List.nodup_cons] at h2
    have ih := upd_new ks' xs' (ks ++ [k]) (xs ++ [x]) (by simpa using h) (fun q hq => by
      rw [List.mem_append, List.mem_singleton]
      rintro (z | z)
      · exact h1 q (List.mem_cons_of_mem _ hq) z
      · subst z; exact h2.1 hq) h2.2
    show updKs ks' xs' (putKs ks xs k x) = _
    rw [putKs_new (h1 k List.mem_cons_self), ih]
    simp
theorem nd_bkK {L : Bk} (h : NdB L) : (bkK L).Nodup := by
  unfold bkK
  unfold NdB at h
  rw [List.nodup_iff_pairwise_ne, List.pairwise_map]
  rw [List.nodup_iff_pairwise_ne, List.pairwise_map] at h
  exact h.imp fun {a b} hab z => hab (Sum.inl.inj z)
theorem pairs_bk : ∀ M : Bk, pairsK (M.map fun p => Ev.D.tup [.int p.1, wd p.2]) = some (bkK M, bkX M)
  | [] => rfl
  | p :: M => by
    show (Ev.keyOf (.int p.1)).bind (fun q => (pairsK (M.map fun p => Ev.D.tup [.int p.1, wd p.2])).bind fun r => some (q :: r.1, wd p.2 :: r.2)) = _
    rw [pairs_bk M]; rfl
theorem dict_bk {S : Store} {M : Bk} (n : NdB M) : dictL S [.lst (M.map fun p => Ev.D.tup [.int p.1, wd p.2])] = some (.dct (bkK M) (bkX M)) := by
  have nd := nd_bkK n
  have u := upd_new (bkK M) (bkX M) [] [] (by simp [bkK, bkX]) (fun _ _ => List.not_mem_nil) nd
  have e : dictL S [.lst (M.map fun p => Ev.D.tup [.int p.1, wd p.2])] = (asL S (.lst (M.map fun p => Ev.D.tup [.int p.1, wd p.2]))).bind fun ds => (pairsK ds).bind fun p => some (.dct (updKs p.1 p.2 ([], [])).1 (updKs p.1 p.2 ([], [])).2) := rfl
  rw [e, asL_lst]
  simp only [Option.bind_some, pairs_bk, u, List.nil_append]
def w1 : RS := (sSet 2 (rCall g_law_pool (rCons (rVar 0) (rCons (rVar 1) rNil))))
def w2 : RS := (sAsg (.tp [3, 4]) (rTup (rCons (rMake cl_Cells g_Cells_init rNil) (rCons rDct0M rNil))))
def w3 : RS := (sIf (rOrT (rTest (rBinS (eqO cl_Cells g_Cells_eq true) (rVar 3) (rMake cl_Cells g_Cells_init rNil))) (rOrT (rTest (rBinS (eqOT cl_Cells g_Cells_eq) (rVar 3) (rCon (.str "cells")))) (rOrT (rNotT (rTruth (rCall g_law_laid (rCons (rVar 2) (rCons (rVar 3) (rCons (rVar 4) rNil)))))) (rNotT (rTruth (rCall g_law_same (rCons (rVar 3) (rCons (rVar 4) rNil))))))))
    (sRet (rCon (.bl false)))
    sNil)
def w4 : RS := (sSet 5 (rMet cl_Cells "twin" g_Cells_twin (rVar 3) rNil))
def w5 : RS := (sIf (rOrT (rTest (rBinS (eqO cl_Cells g_Cells_eq true) (rVar 5) (rVar 3))) (rOrT (rNotT (rTruth (rCall g_law_odd_so (rCons (rVar 3) (rCons (rCall g_law_word (rCons (rVar 2) rNil)) rNil))))) (rTest (rBinS (eqO cl_Cells g_Cells_eq true) (rVar 5) (rVar 3)))))
    (sRet (rCon (.bl false)))
    sNil)
def w6 : RS := (sSet 6 (rCall g_law_take (rCons (rVar 2) (rCons (rCon (.int 64)) rNil))))
def w7 : RS := (sSet 7 (rBin addD (rBin addD (rVar 6) (rCon (.int 1))) (rCall g_law_take (rCons (rVar 2) (rCons (rBin ixD (rLst (rCons (rCon (.int 64)) (rCons (rBin subD (rCon (.int 4096)) (rVar 6)) rNil))) (rCall g_law_take (rCons (rVar 2) (rCons (rCon (.int 2)) rNil)))) rNil)))))
def w8 : RS := (sSet 8 (rDictM (rCons (rVar 4) rNil)))
def w9 : RS := (sSet 9 (rLc frzL (rIt (rCal sortX (rCons (rVar 4) rNil))) (.nm 10) [10] (rAndT (rTest (rChain (rVar 6) (rLink leD (rVar 10) (rLast ltD (rVar 7))))) (rTruth (rBin ixD (rBin dixD (rVar 4) (rVar 10)) (rCon (.int 0))))) (rVar 10)))
def w10 : RS := (sSet 11 (rMetD cl_Cells "marked" g_Cells_marked [0, 4096] (rVar 3) rNil))
def w11 : RS := (sIf (rOrT (rTest (rBin neD (rMetD cl_Cells "marked" g_Cells_marked [] (rVar 3) (rCons (rVar 6) (rCons (rVar 7) rNil))) (rVar 9))) (rTest (rBin isNot (rMet cl_Cells "clear" g_Cells_clear (rVar 3) (rCons (rVar 6) (rCons (rVar 7) rNil))) (rCon .non))))
    (sRet (rCon (.bl false)))
    sNil)
def w12 : RS := (sExp (rMth "list" appendL (rMetD cl_Cells "marked" g_Cells_marked [0, 4096] (rVar 3) rNil) (rCons (rCon .non) rNil)))
def w13 : RS := (sIf (rTest (rBin neD (rVar 11) (rLc frzL (rIt (rCal sortX (rCons (rVar 8) rNil))) (.nm 10) [10] (rTruth (rBin ixD (rBin dixD (rVar 8) (rVar 10)) (rCon (.int 0)))) (rVar 10))))
    (sRet (rCon (.bl false)))
    sNil)
def w14 : RS := (sSet 4 (rCal dictL (rCons (rLock (tgV 4) (rLcK frzL (rVar 4) (.nm 10) [10] (rNotT (rTest (rChain (rVar 6) (rLink leD (rVar 10) (rLast ltD (rVar 7)))))) (rTup (rCons (rVar 10) (rCons (rBin dixR (rVar 4) (rVar 10)) rNil))) 1000)) rNil)))
def w15 : RS := (sIf (rOrT (rNotT (rTruth (rCall g_law_same (rCons (rVar 3) (rCons (rVar 4) rNil))))) (rNotT (rTruth (rCall g_law_same (rCons (rVar 5) (rCons (rVar 8) rNil))))))
    (sRet (rCon (.bl false)))
    sNil)
def w16 : RS := (sIf (rTest (rBin neD (rLock (tgV 8) (rLcK frzL (rVar 8) (.nm 10) [10] (rTest (rBin neD (rMet cl_Cells "cell" g_Cells_cell (rVar 3) (rCons (rVar 10) rNil)) (rMth "dict" getDM (rVar 4) (rCons (rVar 10) (rCons (rTup (rCons (rCon (.bl false)) (rCons (rCon (.int 0)) rNil))) rNil))))) (rVar 10) 1000)) (rLst rNil)))
    (sRet (rCon (.bl false)))
    sNil)
def w17 : RS := (sLock (tgV 8) (sSet 12 (rLcK frzL (rVar 8) (.nm 10) [10] (rAndT (rTest (rBin dninR (rVar 10) (rVar 4))) (rTest (rBin neD (rBin dixR (rVar 8) (rVar 10)) (rTup (rCons (rCon (.bl false)) (rCons (rCon (.int 0)) rNil)))))) (rVar 10) 1000)))
def w18 : RS := (sIf (rTest (rBin neD (rBinS (eqO cl_Cells g_Cells_eq false) (rVar 3) (rVar 5)) (rBin eqD (rVar 12) (rLst rNil))))
    (sRet (rCon (.bl false)))
    sNil)
def w19 : RS := (sExp (rMet cl_Cells "lay" g_Cells_lay (rVar 5) (rCons (rCon (.int 5)) (rCons (rTup (rCons (rCon (.bl false)) (rCons (rCon (.int 77)) rNil))) rNil))))
def w20 : RS := (sExp (rMet cl_Cells "poke" g_Cells_poke (rVar 5) (rCons (rCall g_law_made (rCons (rCon (.int 0)) (rCons (rCon (.int 16)) (rCons (rCon (.int 3)) (rCons (rCon (.str "rw")) (rCons (rCon (.int 0)) rNil)))))) (rCons (rCon (.int 0)) (rCons (rCon (.int 4)) rNil)))))
def w21 : RS := (sExp (rMet cl_Cells "store" g_Cells_store (rVar 5) (rCons (rCall g_law_made (rCons (rCon (.int 0)) (rCons (rCon (.int 16)) (rCons (rCon (.int 3)) (rCons (rCon (.str "rw")) (rCons (rCon (.int 0)) rNil)))))) (rCons (rCon (.int 1)) (rCons (rTup (rCons (rCon (.bl false)) (rCons (rCon (.int 4)) rNil))) rNil)))))
def w22 : RS := (sExp (rMet cl_Cells "clear" g_Cells_clear (rVar 5) (rCons (rCon (.int 8)) (rCons (rCon (.int 12)) rNil))))
def w23 : RS := (sIf (rOrT (rNotT (rTruth (rCall g_law_same (rCons (rVar 3) (rCons (rVar 4) rNil))))) (rNotT (rTruth (rCall g_law_emptied_so (rCons (rCall g_law_word (rCons (rVar 2) rNil)) rNil)))))
    (sRet (rCon (.bl false)))
    sNil)
theorem w_is : lb1_law = (sSeq w1 (sSeq w2 (sSeq w3 (sSeq w4 (sSeq w5 (sSeq w6 (sSeq w7 (sSeq w8 (sSeq w9 (sSeq w10 (sSeq w11 (sSeq w12 (sSeq w13 (sSeq w14 (sSeq w15 (sSeq w16 (sSeq w17 (sSeq w18 (sSeq w19 (sSeq w20 (sSeq w21 (sSeq w22 w23)))))))))))))))))))))) := rfl
theorem g_ne {e : Ev.Env} {v x : Option Ev.D} {j m : Nat} (h : e[j]? = some v) (hn : m ≠ j) : (e.set m x)[j]? = some v := by rw [List.getElem?_set_ne hn]; exact h
theorem g_at {e : Ev.Env} {x : Option Ev.D} {m : Nat} (h : m < e.length) : (e.set m x)[m]? = some x := List.getElem?_set_self h
def eC (e : Ev.Env) (a : Int) : Ev.Env := (e.set 10 none).set 10 (some (.int a))
theorem eC_ne {e : Ev.Env} {v : Option Ev.D} {j : Nat} {a : Int} (h : e[j]? = some v) (hn : 10 ≠ j) : (eC e a)[j]? = some v := g_ne (g_ne h hn) hn
theorem eC_at {e : Ev.Env} {a : Int} (h : 10 < e.length) : (eC e a)[10]? = some (some (.int a)) := g_at (by rw [List.length_set]; exact h)
section
variable {S : Store} {e : Ev.Env} {n c d b o od kb : Nat} {L M Lo : Bk} {lo hi : Int}
theorem ix0 (v : Wd) : ixD S (wd v) (.int 0) = some (.bl v.1) := rfl
theorem w9_eq (hM : S[b]? = some (.dK (bkK M) (bkX M))) (lM : M.length < 64) (e4 : e[4]? = some (some (.loc b))) (e6 : e[6]? = some (some (.int lo))) (e7 : e[7]? = some (some (.int hi))) (el : e.length = 13) :
    w9 e S = .nx (e.set 9 (some (.lst ((mkL M lo hi).map Ev.D.int)))) S := by
  have bk := BAt.loc hM
  have so := bk.sort lM
  unfold w9
  refine s_set ?_
  have lc := rLc_map (S := S) (it := rIt (rCal sortX (rCons (rVar 4) rNil))) (t := .nm 10) (vs := [10]) (c := rAndT (rTest (rChain (rVar 6) (rLink leD (rVar 10) (rLast ltD (rVar 7))))) (rTruth (rBin ixD (rBin dixD (rVar 4) (rVar 10)) (rCon (.int 0)))))
    (elt := rVar 10) (e := e) (h := Ev.D.int) (xs := isortI (M.map (·.1))) (fun a => eC e a) (fun a => decide (lo ≤ a) && (decide (a < hi) && (getB M a).1)) Ev.D.int
    (by simp [e4, so]) (by rw [isort_len]; exact len_small (by omega))
    (fun a ha => by
      have dx := bk.dix (isort_mem.mp ha)
      have q4 := eC_ne (a := a) e4 (by decide)
      have q6 := eC_ne (a := a) e6 (by decide)
      have q7 := eC_ne (a := a) e7 (by decide)
      have qa := eC_at (e := e) (a := a) (by omega)
      refine ⟨rfl, ?_, fun _ => o_var qa⟩
      by_cases r0 : lo ≤ a
      · by_cases r1 : a < hi
        · simp [q6, q7, qa, r0, r1, q4, dx, ix0]
        · simp [q6, q7, qa, r0, r1]
      · simp [q6, q7, qa, r0])
  exact lc
theorem w13_eq {hp : Nat} (hM : S[kb]? = some (.dK (bkK M) (bkX M))) (lM : M.length < 64) (hH : S[hp]? = some (.lst (((isortI (M.map (·.1))).filter fun a => (getB M a).1).map Ev.D.int))) (e8 : e[8]? = some (some (.loc kb))) (e11 : e[11]? = some (some (.loc hp))) (el : e.length = 13) :
    w13 e S = .nx e S := by
  have bk := BAt.loc hM
  have so := bk.sort lM
  unfold w13
  have lc := rLc_map (S := S) (it := rIt (rCal sortX (rCons (rVar 8) rNil))) (t := .nm 10) (vs := [10]) (c := rTruth (rBin ixD (rBin dixD (rVar 8) (rVar 10)) (rCon (.int 0))))
    (elt := rVar 10) (e := e) (h := Ev.D.int) (xs := isortI (M.map (·.1))) (fun a => eC e a) (fun a => (getB M a).1) Ev.D.int
    (by simp [e8, so]) (by rw [isort_len]; exact len_small (by omega))
    (fun a ha => by
      have dx := bk.dix (isort_mem.mp ha)
      have q8 := eC_ne (a := a) e8 (by decide)
      have qa := eC_at (e := e) (a := a) (by omega)
      exact ⟨rfl, by simp [q8, qa, dx, ix0], fun _ => o_var qa⟩)
  have ne : neD S (.loc hp) (.lst (((isortI (M.map (·.1))).filter fun a => (getB M a).1).map Ev.D.int)) = some (.bl false) := by
    unfold neD
    rw [eq_at hH, eq_ints]; rfl
  exact s_no (o_test (o_bin (o_var e11) lc ne)) s_nil
def outB (M : Bk) (lo hi : Int) : Bk := M.filter fun p => !(decide (lo ≤ p.1) && decide (p.1 < hi))
theorem outB_nd (h : NdB M) : NdB (outB M lo hi) := h.sublist (List.filter_sublist.map _)
theorem outB_get (h : NdB M) (a : Int) : getB (outB M lo hi) a = if lo ≤ a ∧ a < hi then (false, 0) else getB M a := by
  unfold getB
  by_cases z : lo ≤ a ∧ a < hi
  · rw [if_pos z]
    have : a ∉ (outB M lo hi).map (·.1) := fun q => by
      obtain ⟨p, hp, e⟩ := List.mem_map.mp q
      have := (List.mem_filter.mp hp).2
      rw [e] at this
      simp [z.1, z.2] at this
    rw [fnd_none.mpr this]; rfl
  · rw [if_neg z]
    have hk : (!(decide (lo ≤ a) && decide (a < hi))) = true := by
      simp only [Bool.not_eq_true', Bool.and_eq_false_iff, decide_eq_false_iff_not]
      by_cases q : lo ≤ a
      · exact .inr fun r => z ⟨q, r⟩
      · exact .inl q
    cases q : fndB M a with
    | none =>
      have : a ∉ (outB M lo hi).map (·.1) := fun r => by
        obtain ⟨p, hp, e⟩ := List.mem_map.mp r
        exact fnd_none.mp q (List.mem_map.mpr ⟨p, (List.mem_filter.mp hp).1, e⟩)
      rw [fnd_none.mpr this]
    | some w =>
      have m : (a, w) ∈ outB M lo hi := List.mem_filter.mpr ⟨mem_get q, hk⟩
      rw [fnd_mem (outB_nd h) m]
theorem unlk_ok {n : Nat} {ks : List Key} {xs : List Ev.D} {x : Ev.D} (h : S[n]? = some (.dK ks xs)) : unlk n (.ok x (S.set n (.dL ks xs))) = .ok x S := by
  have hl := at_lt h
  have e : (S.set n (.dL ks xs))[n]? = some (.dL ks xs) := List.getElem?_set_self hl
  simp only [unlk, e, List.set_set]
  rw [set_same h]
theorem lock_at {n : Nat} {ks : List Key} {xs : List Ev.D} (h : S[n]? = some (.dK ks xs)) : (S.set n (.dL ks xs))[n]? = some (.dL ks xs) := List.getElem?_set_self (at_lt h)
theorem o_lock {i n : Nat} {ks : List Key} {xs : List Ev.D} {r : RE} {x : Ev.D} (hi : e[i]? = some (some (.loc n))) (h : S[n]? = some (.dK ks xs)) (hr : r e (S.set n (.dL ks xs)) = .ok x (S.set n (.dL ks xs))) : (rLock (tgV i) r) e S = .ok x S := by
  have t : tgV i e S = some n := by simp only [tgV, hi]
  rw [rLock_eq, t]
  simp only [h, hr]
  exact unlk_ok h
theorem dixR_at {n : Nat} {a : Int} (h : S[n]? = some (.dL (bkK M) (bkX M))) (hm : a ∈ M.map (·.1)) : dixR S (.loc n) (.int a) = some (wd (getB M a)) := by
  simp only [dixR, dictU, h, Option.bind_some, Ev.keyOf, lk_bk]
  cases q : fndB M a with
  | none => exact absurd hm (fnd_none.mp q)
  | some w => unfold getB; rw [q]; rfl
theorem w14_eq (hM : S[b]? = some (.dK (bkK M) (bkX M))) (nM : NdB M) (lM : M.length < 64) (e4 : e[4]? = some (some (.loc b))) (e6 : e[6]? = some (some (.int lo))) (e7 : e[7]? = some (some (.int hi))) (el : e.length = 13) :
    w14 e S = .nx (e.set 4 (some (.dct (bkK (outB M lo hi)) (bkX (outB M lo hi))))) S := by
  have lk := lock_at hM
  unfold w14
  have lc := rLcK_map (S := S.set b (.dL (bkK M) (bkX M))) (a := rVar 4) (t := .nm 10) (vs := [10]) (c := rNotT (rTest (rChain (rVar 6) (rLink leD (rVar 10) (rLast ltD (rVar 7))))))
    (elt := rTup (rCons (rVar 10) (rCons (rBin dixR (rVar 4) (rVar 10)) rNil))) (e := e) (k := 1000) (o_var e4) lk M (fun p => .inl p.1) rfl (fun p => eC e p.1) (fun p => !(decide (lo ≤ p.1) && decide (p.1 < hi))) (fun p => .tup [.int p.1, wd p.2])
    (fun p hp => by
      have hm : p.1 ∈ M.map (·.1) := List.mem_map.mpr ⟨p, hp, rfl⟩
      have dx := dixR_at lk hm
      have gp : getB M p.1 = p.2 := by unfold getB; rw [fnd_mem nM hp]; rfl
      rw [gp] at dx
      have q4 := eC_ne (a := p.1) e4 (by decide)
      have q6 := eC_ne (a := p.1) e6 (by decide)
      have q7 := eC_ne (a := p.1) e7 (by decide)
      have qa := eC_at (e := e) (a := p.1) (by omega)
      refine ⟨rfl, ?_, fun _ => o_tup (o_cons (o_var qa) (o_cons (o_bin (o_var q4) (o_var qa) dx) o_nil))⟩
      by_cases r0 : lo ≤ p.1
      · by_cases r1 : p.1 < hi
        · simp [q6, q7, qa, r0, r1]
        · simp [q6, q7, qa, r0, r1]
      · simp [q6, q7, qa, r0]) (by omega) (by decide)
  have db := dict_bk (S := S) (outB_nd (lo := lo) (hi := hi) nM)
  exact s_set (o_cal (o_cons (o_lock e4 hM lc) o_nil) db)
theorem w16_eq {L' M' : Bk} (hC : CAt S c d L') (hM : S[kb]? = some (.dK (bkK M) (bkX M))) (nc : c ≠ kb) (nd : d ≠ kb) (lM : M.length < 64) (rM : ∀ p ∈ M, 0 ≤ p.1 ∧ p.1 < 4096) (sm : ∀ a, getB L' a = getB M' a)
    (e3 : e[3]? = some (some (.loc c))) (e4 : e[4]? = some (some (.dct (bkK M') (bkX M')))) (e8 : e[8]? = some (some (.loc kb))) (el : e.length = 13) : w16 e S = .nx e S := by
  have lk := lock_at hM
  have hC' : CAt (S.set kb (.dL (bkK M) (bkX M))) c d L' := ⟨by rw [List.getElem?_set_ne (Ne.symm nc)]; exact hC.obj, by rw [List.getElem?_set_ne (Ne.symm nd)]; exact hC.dic⟩
  have bk : BAt (S.set kb (.dL (bkK M) (bkX M))) (.dct (bkK M') (bkX M')) M' := BAt.dct
  unfold w16
  have lc := rLcK_map (S := S.set kb (.dL (bkK M) (bkX M))) (a := rVar 8) (t := .nm 10) (vs := [10]) (c := rTest (rBin neD (rMet cl_Cells (Str.ofString "cell") g_Cells_cell (rVar 3) (rCons (rVar 10) rNil)) (rMth "dict" getDM (rVar 4) (rCons (rVar 10) (rCons (rTup (rCons (rCon (.bl false)) (rCons (rCon (.int 0)) rNil))) rNil)))))
    (elt := rVar 10) (e := e) (k := 1000) (o_var e8) lk M (fun p => .inl p.1) rfl (fun p => eC e p.1) (fun p => false) (fun p => .int p.1)
    (fun p hp => by
      obtain ⟨p0, p1⟩ := rM p hp
      have q3 := eC_ne (a := p.1) e3 (by decide)
      have q4 := eC_ne (a := p.1) e4 (by decide)
      have qa := eC_at (e := e) (a := p.1) (by omega)
      have ce := cell_eq hC' p0 p1
      rw [sm] at ce
      have gb := bk.get p.1
      have gm : (rMth "dict" getDM (rVar 4) (rCons (rVar 10) (rCons (rTup (rCons (rCon (.bl false)) (rCons (rCon (.int 0)) rNil))) rNil))) (eC e p.1) (S.set kb (.dL (bkK M) (bkX M))) = .ok (wd (getB M' p.1)) (S.set kb (.dL (bkK M) (bkX M))) := by
        have ty := bk.2
        simp [rMth, q4, qa, ty, gb, ofP]
      have ne : neD (S.set kb (.dL (bkK M) (bkX M))) (wd (getB M' p.1)) (wd (getB M' p.1)) = some (.bl false) := by
        unfold neD; rw [eq_wd]; simp
      exact ⟨rfl, o_test (o_bin ((met_C (m := "cell") hC' (by decide +kernel) (o_var q3) (o_cons (o_var qa) o_nil)).trans ce) gm ne), fun _ => o_var qa⟩) (by omega) (by decide)
  have ef : (M.filter fun _ => false) = [] := by simp
  rw [ef] at lc
  have ne : neD S (.lst []) (.lst []) = some (.bl false) := rfl
  exact s_no (o_test (o_bin (o_lock e8 hM lc) (o_lst o_nil) ne)) s_nil
def goneL (M M' : Bk) : List Int := (M.filter fun p => decide (p.1 ∉ M'.map (·.1)) && decide (p.2 ≠ (false, 0))).map (·.1)
theorem w17_eq {M' : Bk} (hM : S[kb]? = some (.dK (bkK M) (bkX M))) (nM : NdB M) (lM : M.length < 64) (e4 : e[4]? = some (some (.dct (bkK M') (bkX M')))) (e8 : e[8]? = some (some (.loc kb))) (el : e.length = 13) :
    w17 e S = .nx (e.set 12 (some (.lst ((goneL M M').map Ev.D.int)))) S := by
  have lk := lock_at hM
  have hl := at_lt hM
  unfold w17
  have lc := rLcK_map (S := S.set kb (.dL (bkK M) (bkX M))) (a := rVar 8) (t := .nm 10) (vs := [10]) (c := rAndT (rTest (rBin dninR (rVar 10) (rVar 4))) (rTest (rBin neD (rBin dixR (rVar 8) (rVar 10)) (rTup (rCons (rCon (.bl false)) (rCons (rCon (.int 0)) rNil))))))
    (elt := rVar 10) (e := e) (k := 1000) (o_var e8) lk M (fun p => .inl p.1) rfl (fun p => eC e p.1) (fun p => decide (p.1 ∉ M'.map (·.1)) && decide (p.2 ≠ (false, 0))) (fun p => .int p.1)
    (fun p hp => by
      have hm : p.1 ∈ M.map (·.1) := List.mem_map.mpr ⟨p, hp, rfl⟩
      have dx := dixR_at lk hm
      have gp : getB M p.1 = p.2 := by unfold getB; rw [fnd_mem nM hp]; rfl
      rw [gp] at dx
      have q4 := eC_ne (a := p.1) e4 (by decide)
      have q8 := eC_ne (a := p.1) e8 (by decide)
      have qa := eC_at (e := e) (a := p.1) (by omega)
      have dn : dninR (S.set kb (.dL (bkK M) (bkX M))) (.int p.1) (.dct (bkK M') (bkX M')) = some (.bl (decide (p.1 ∉ M'.map (·.1)))) := by
        have e1 : dninR (S.set kb (.dL (bkK M) (bkX M))) (.int p.1) (.dct (bkK M') (bkX M')) = some (.bl (!(lkK (bkK M') (bkX M') (.inl p.1)).isSome)) := rfl
        rw [e1, lk_bk]
        cases q : fndB M' p.1 with
        | none => rw [decide_eq_true (fnd_none.mp q)]; rfl
        | some w =>
          have : ¬ p.1 ∉ M'.map (·.1) := fun z => by rw [fnd_none.mpr z] at q; cases q
          rw [decide_eq_false this]; rfl
      have ne : neD (S.set kb (.dL (bkK M) (bkX M))) (wd p.2) (.tup [.bl false, .int 0]) = some (.bl (decide (p.2 ≠ (false, 0)))) := by
        show neD _ (wd p.2) (wd (false, 0)) = _
        unfold neD
        rw [eq_wd]
        by_cases z : p.2 = (false, 0)
        · simp [z]
        · simp [z]
      exact ⟨rfl, o_and (o_test (o_bin (o_var qa) (o_var q4) dn)) fun _ => o_test (o_bin (o_bin (o_var q8) (o_var qa) dx) (o_tup (o_cons (o_con (d := .bl false)) (o_cons (o_con (d := .int 0)) o_nil))) ne), fun _ => o_var qa⟩) (by omega) (by decide)
  have t : tgV 8 e S = some kb := by simp only [tgV, e8]
  rw [sLock_eq, t]
  simp only [hM]
  have st := s_set (n := 12) lc
  rw [st]
  simp only [unlkS, lk, List.set_set]
  rw [set_same hM]
  unfold goneL
  rw [List.map_map]
  rfl
end
theorem PoolF.fr20 {T S : Store} {n : Nat} (h : PoolF T S n) : Fr20 T S [n] := ⟨by rw [h.2.1]; exact Nat.le_refl _, fun j _ hn => h.2.2 j (by simpa using hn)⟩
theorem Both.fr {S S' : Store} {n c d b k : Nat} {L M : Bk} {xs : List Nat} (h : Both S n c d b L M k) (f : Fr20 S S' xs) (hn : n ∉ xs) (hc : c ∉ xs) (hd : d ∉ xs) (hb : b ∉ xs) : Both S' n c d b L M k :=
  ⟨h.pool.fr f hn, h.cat.fr f hc hd, (f.2 b (at_lt h.book) hb).trans h.book, h.ap, h.same, h.ndL, h.ndM, h.lenL, h.lenM, h.bits, h.rgL, h.rgM, h.nz⟩
theorem s_asg2 {a : RE} {e : Ev.Env} {S S1 : Store} {x y : Ev.D} {i j : Nat} (h : a e S = .ok (.tup [x, y]) S1) : (sAsg (.tp [i, j]) a) e S = .nx ((e.set i (some x)).set j (some y)) S1 := by
  rw [sAsg_eq, h]
  rfl
theorem len_clrB : ∀ (k : Nat) (L : Bk) (a : Int), (clrB L a k).length ≤ L.length
  | 0, _, _ => Nat.le_refl _
  | k + 1, L, a => Nat.le_trans (len_clrB k (delB L a) (a + 1)) (len_del L a)
theorem mkL_of {L M : Bk} {lo hi : Int} (nL : NdB L) (nM : NdB M) (h : ∀ a, getB L a = getB M a) : mkL L lo hi = mkL M lo hi := by
  have q : ∀ B : Bk, mkL B lo hi = ((isortI (B.map (·.1))).filter fun a => (getB B a).1).filter fun a => decide (lo ≤ a) && decide (a < hi) := fun B => by
    unfold mkL
    rw [List.filter_filter]
    refine List.filter_congr fun a _ => ?_
    rw [Bool.and_assoc]
  rw [q, q, mk_eq nL nM h]
theorem mkL_all {M : Bk} (r : ∀ p ∈ M, 0 ≤ p.1 ∧ p.1 < 4096) : mkL M 0 4096 = (isortI (M.map (·.1))).filter fun a => (getB M a).1 := by
  unfold mkL
  refine List.filter_congr fun a ha => ?_
  obtain ⟨p, hp, rfl⟩ := List.mem_map.mp (isort_mem.mp ha)
  obtain ⟨r0, r1⟩ := r p hp
  simp [r0, r1]
theorem app_at {S S1 : Store} {e : Ev.Env} {p : Nat} {xs : List Ev.D} {o x : RE} {d : Ev.D} (ho : o e S = .ok (.loc p) S1) (hp : S1[p]? = some (.lst xs)) (hx : x e S1 = .ok d S1) (z : xs.length < 1000) :
    (sExp (rMth "list" appendL o (rCons x rNil))) e S = .nx e (S1.set p (.lst (xs ++ [d]))) := by
  have ty : tyM S1 (.loc p) = some "list" := by simp only [tyM, hp]
  have z' : xs.length < sizeLine := by rw [sizeLine_eq]; omega
  have ap : appendL S1 (.loc p) [d] = some (.non, S1.set p (.lst (xs ++ [d]))) := by
    simp only [appendL, hp, if_pos z']
  simp [rMth, ho, ty, hx, ap, ofP]
theorem lw_plain {z : Int} (h0 : 0 ≤ z) (h1 : z < 35184372088832) : LW (false, z).1 ((false, z) : Wd).2 := ⟨h0, h1, by simp⟩
theorem turn_law {ns : List Int} {k : Int} {S : Store} {e : Ev.Env} (k0 : 0 ≤ k) (k1 : k < 1000) (el : e.length = 13) (e0 : e[0]? = some (some (.lst (ns.map Ev.D.int)))) (e1 : e[1]? = some (some (.int k))) :
    ∃ e' S', lb1_law e S = .nx e' S' ∧ e'.length = 13 ∧ e'[0]? = some (some (.lst (ns.map Ev.D.int))) := by
  obtain ⟨pa, pb, a0, b0, b1, hp⟩ := pool_ok ns k S k0 k1
  -- w1
  have s1 : w1 e S = .nx (e.set 2 (some (.loc S.length))) (S ++ [.lst [.int pa, .int pb]]) := s_set (o_call (o_cons (o_var e0) (o_cons (o_var e1) o_nil)) hp)
  have eA0 : (e.set 2 (some (.loc S.length)))[0]? = some (some (.lst (ns.map Ev.D.int))) := g_ne e0 (by decide)
  have eA2 : (e.set 2 (some (.loc S.length)))[2]? = some (some (.loc S.length)) := g_at (by omega)
  have eAl : (e.set 2 (some (.loc S.length))).length = 13 := by rw [List.length_set]; exact el
  generalize e.set 2 (some (.loc S.length)) = eA at *
  have p1 : (S ++ [MO.lst [.int pa, .int pb]])[S.length]? = some (.lst [.int pa, .int pb]) := by simp
  have l1 : (S ++ [MO.lst [.int pa, .int pb]]).length = S.length + 1 := by simp
  generalize S ++ [MO.lst [.int pa, .int pb]] = S1 at *
  generalize S.length = n at *
  -- w2
  have m2 := mk_cells (S := S1) (e := eA)
  have c2 := mk_at (S := S1)
  have F2 := Fr20.app S1 [MO.ins cl_Cells [Str.ofString "own_cells"] [.loc (S1.length + 1)], .dK [] []]
  have l2 : (S1 ++ [MO.ins cl_Cells [Str.ofString "own_cells"] [.loc (S1.length + 1)], .dK [] []]).length = S1.length + 2 := by simp
  generalize S1 ++ [MO.ins cl_Cells [Str.ofString "own_cells"] [.loc (S1.length + 1)], .dK [] []] = S2 at *
  have F3 := Fr20.app S2 [MO.dK [] []]
  have b3 : (S2 ++ [MO.dK [] []])[S2.length]? = some (.dK [] []) := by simp
  have l3 : (S2 ++ [MO.dK [] []]).length = S2.length + 1 := by simp
  have s2 : w2 eA S1 = .nx ((eA.set 3 (some (.loc S1.length))).set 4 (some (.loc S2.length))) (S2 ++ [.dK [] []]) := s_asg2 (o_tup (o_cons m2 (o_cons (show rDct0M eA S2 = .ok (.loc S2.length) (S2 ++ [.dK [] []]) from rfl) o_nil)))
  generalize S2 ++ [MO.dK [] []] = S3 at *
  have h3 : Both S3 n S1.length (S1.length + 1) S2.length [] [] 0 := by
    refine ⟨⟨pa, pb, ?_, a0, b0, b1⟩, c2.fr F3 (by simp) (by simp), by rw [b3]; rfl, by omega, fun _ => rfl, nd_nil, nd_nil, Nat.le_refl _, Nat.le_refl _, fun _ => by simp [getB, fndB], fun p h => (by cases h), fun p h => (by cases h), nz_nil⟩
    rw [F3.2 n (by omega) (by simp), F2.2 n (by omega) (by simp)]; exact p1
  have eB0 : ((eA.set 3 (some (.loc S1.length))).set 4 (some (.loc S2.length)))[0]? = some (some (.lst (ns.map Ev.D.int))) := g_ne (g_ne eA0 (by decide)) (by decide)
  have eB2 : ((eA.set 3 (some (.loc S1.length))).set 4 (some (.loc S2.length)))[2]? = some (some (.loc n)) := g_ne (g_ne eA2 (by decide)) (by decide)
  have eB3 : ((eA.set 3 (some (.loc S1.length))).set 4 (some (.loc S2.length)))[3]? = some (some (.loc S1.length)) := g_ne (g_at (by omega)) (by decide)
  have eB4 : ((eA.set 3 (some (.loc S1.length))).set 4 (some (.loc S2.length)))[4]? = some (some (.loc S2.length)) := g_at (by rw [List.length_set]; omega)
  have eBl : ((eA.set 3 (some (.loc S1.length))).set 4 (some (.loc S2.length))).length = 13 := by rw [List.length_set, List.length_set]; exact eAl
  generalize (eA.set 3 (some (.loc S1.length))).set 4 (some (.loc S2.length)) = eB at *
  obtain ⟨d, hd⟩ : ∃ d, d = S1.length + 1 := ⟨_, rfl⟩
  rw [← hd] at h3 c2
  generalize hc : S1.length = c at *
  generalize hb : S2.length = b at *
  -- w3
  have m4 := mk_cells (S := S3) (e := eB)
  have c4 := mk_at (S := S3)
  have F4 := Fr20.app S3 [MO.ins cl_Cells [Str.ofString "own_cells"] [.loc (S3.length + 1)], .dK [] []]
  have l4 : (S3 ++ [MO.ins cl_Cells [Str.ofString "own_cells"] [.loc (S3.length + 1)], .dK [] []]).length = S3.length + 2 := by simp
  generalize S3 ++ [MO.ins cl_Cells [Str.ofString "own_cells"] [.loc (S3.length + 1)], .dK [] []] = S4 at *
  have h4 := h3.fr F4 (by simp) (by simp) (by simp) (by simp)
  obtain ⟨r4, o4, q4⟩ := eqO_C (ne := true) h4.cat c4 nd_nil nd_nil nz_nil nz_nil
  rw [show r4 = true from q4.mpr fun _ => rfl] at o4
  have o4t := eqT_C (x := Str.ofString "cells") h4.cat
  obtain ⟨S5, L, M, t5, h5, l5, f5⟩ := laid_eq h4 (by decide)
  have lL : L.length < 64 := by have := h5.lenL; omega
  have lM : M.length < 64 := by have := h5.lenM; omega
  obtain ⟨T5, t6⟩ := same_eq h5.cat (x := .loc b) (fun T => BAt.loc (by rw [List.getElem?_append_left (at_lt h5.book)]; exact h5.book)) h5.ndL h5.ndM lL lM h5.rgL h5.rgM h5.same h5.bits
  have F6 := Fr20.app S5 [T5]
  have l6 : (S5 ++ [T5]).length = S5.length + 1 := by simp
  have s3 : w3 eB S3 = .nx eB (S5 ++ [T5]) := by
    unfold w3
    exact s_no (o_or_no (o_test (o_binS (o_var eB3) m4 o4)) (o_or_no (o_test (o_binS (o_var eB3) (o_con (d := .str (Str.ofString "cells"))) o4t)) (o_or_no (o_not (k := true) (o_truth (o_call (o_cons (o_var eB2) (o_cons (o_var eB3) (o_cons (o_var eB4) o_nil))) t5))) (o_not (k := true) (o_truth (o_call (o_cons (o_var eB3) (o_cons (o_var eB4) o_nil)) t6)))))) s_nil
  generalize S5 ++ [T5] = S6 at *
  have h6 := h5.fr F6 (by simp) (by simp) (by simp) (by simp)
  -- w4
  have t7 := cells_twin h6.cat
  have c7 := tw_at (S := S6) (L := L)
  have F7 := Fr20.app S6 [MO.ins cl_Cells [Str.ofString "own_cells"] [.loc (S6.length + 2)], .dK [] [], .dK (bkK L) (bkX L)]
  have l7 : (S6 ++ [MO.ins cl_Cells [Str.ofString "own_cells"] [.loc (S6.length + 2)], .dK [] [], .dK (bkK L) (bkX L)]).length = S6.length + 3 := by simp
  generalize S6 ++ [MO.ins cl_Cells [Str.ofString "own_cells"] [.loc (S6.length + 2)], .dK [] [], .dK (bkK L) (bkX L)] = S7 at *
  have h7 := h6.fr F7 (by simp) (by simp) (by simp) (by simp)
  have s4 : w4 eB S6 = .nx (eB.set 5 (some (.loc S6.length))) S7 := s_set ((met_C (m := "twin") h6.cat (by decide +kernel) (o_var eB3) o_nil).trans t7)
  have ho : b < S6.length := by omega
  obtain ⟨od, hod⟩ : ∃ od, od = S6.length + 2 := ⟨_, rfl⟩
  rw [← hod] at c7
  generalize S6.length = o at *
  have eC0 := g_ne (x := some (.loc o)) (m := 5) eB0 (by decide)
  have eC2 := g_ne (x := some (.loc o)) (m := 5) eB2 (by decide)
  have eC3 := g_ne (x := some (.loc o)) (m := 5) eB3 (by decide)
  have eC4 := g_ne (x := some (.loc o)) (m := 5) eB4 (by decide)
  have eC5 : (eB.set 5 (some (.loc o)))[5]? = some (some (.loc o)) := g_at (by omega)
  have eCl : (eB.set 5 (some (.loc o))).length = 13 := by rw [List.length_set]; exact eBl
  generalize eB.set 5 (some (.loc o)) = eD at *
  -- w5
  obtain ⟨r7, o7, q7⟩ := eqO_C (ne := true) c7 h7.cat h7.ndL h7.ndL h7.nz h7.nz
  rw [show r7 = true from q7.mpr fun _ => rfl] at o7
  obtain ⟨m8, w8', S8, t8, P8, lw8⟩ := law_word_ok h7.pool.f
  have h8 := h7.frame P8
  have c8 := c7.fr P8.fr20 (by simp; omega) (by simp; omega)
  have t8o := odd_eq (w := .tup [.bl m8, .int w8']) h8.cat (fun a => by rw [h8.same]; exact h8.bits a)
  obtain ⟨r8, o8, q8⟩ := eqO_C (ne := true) c8 h8.cat h8.ndL h8.ndL h8.nz h8.nz
  rw [show r8 = true from q8.mpr fun _ => rfl] at o8
  have s5 : w5 eD S7 = .nx eD S8 := by
    unfold w5
    exact s_no (o_or_no (o_test (o_binS (o_var eC5) (o_var eC3) o7)) (o_or_no (o_not (k := true) (o_truth (o_call (o_cons (o_var eC3) (o_cons (o_call (o_cons (o_var eC2) o_nil) t8) o_nil)) t8o))) (o_test (o_binS (o_var eC5) (o_var eC3) o8)))) s_nil
  -- w6 w7
  obtain ⟨lo, S9, t9, lo0, lo1, P9, _⟩ := take_okF 64 h8.pool.f (by omega) (by omega)
  have s6 : w6 eD S8 = .nx (eD.set 6 (some (.int lo))) S9 := s_set (o_call (o_cons (o_var eC2) (o_cons (o_con (d := .int 64)) o_nil)) t9)
  have h9 := h8.frame P9
  have eE0 := g_ne (x := some (.int lo)) (m := 6) eC0 (by decide)
  have eE2 := g_ne (x := some (.int lo)) (m := 6) eC2 (by decide)
  have eE3 := g_ne (x := some (.int lo)) (m := 6) eC3 (by decide)
  have eE4 := g_ne (x := some (.int lo)) (m := 6) eC4 (by decide)
  have eE5 := g_ne (x := some (.int lo)) (m := 6) eC5 (by decide)
  have eE6 : (eD.set 6 (some (.int lo)))[6]? = some (some (.int lo)) := g_at (by omega)
  have eEl : (eD.set 6 (some (.int lo))).length = 13 := by rw [List.length_set]; exact eCl
  generalize eD.set 6 (some (.int lo)) = eE at *
  obtain ⟨r10, S10, t10, x10, y10, P10, _⟩ := take_okF 2 h9.pool.f (by omega) (by omega)
  have h10 := h9.frame P10
  obtain ⟨m, hm, m0, m1⟩ : ∃ m, ixD S10 (.lst [.int 64, .int (4096 - lo)]) (.int r10) = some (.int m) ∧ 0 < m ∧ m ≤ 4096 - lo := by
    have : r10 = 0 ∨ r10 = 1 := by omega
    rcases this with rfl | rfl
    · exact ⟨64, rfl, by omega, by omega⟩
    · exact ⟨4096 - lo, rfl, by omega, by omega⟩
  obtain ⟨r11, S11, t11, x11, y11, P11, _⟩ := take_okF m h10.pool.f m0 (by omega)
  have h11 := h10.frame P11
  have s7 : w7 eE S9 = .nx (eE.set 7 (some (.int (lo + 1 + r11)))) S11 := by
    unfold w7
    exact s_set (o_bin (o_bin (o_var eE6) (o_con (d := .int 1)) add_of) (o_call (o_cons (o_var eE2) (o_cons (o_bin (o_lst (o_cons (o_con (d := .int 64)) (o_cons (o_bin (o_con (d := .int 4096)) (o_var eE6) sub_of) o_nil))) (o_call (o_cons (o_var eE2) (o_cons (o_con (d := .int 2)) o_nil)) t10) hm) o_nil)) t11) add_of)
  have h0h : lo < lo + 1 + r11 := by omega
  have h1h : lo + 1 + r11 ≤ 4096 := by omega
  generalize lo + 1 + r11 = hi at *
  have eF0 := g_ne (x := some (.int hi)) (m := 7) eE0 (by decide)
  have eF2 := g_ne (x := some (.int hi)) (m := 7) eE2 (by decide)
  have eF3 := g_ne (x := some (.int hi)) (m := 7) eE3 (by decide)
  have eF4 := g_ne (x := some (.int hi)) (m := 7) eE4 (by decide)
  have eF5 := g_ne (x := some (.int hi)) (m := 7) eE5 (by decide)
  have eF6 := g_ne (x := some (.int hi)) (m := 7) eE6 (by decide)
  have eF7 : (eE.set 7 (some (.int hi)))[7]? = some (some (.int hi)) := g_at (by omega)
  have eFl : (eE.set 7 (some (.int hi))).length = 13 := by rw [List.length_set]; exact eEl
  generalize eE.set 7 (some (.int hi)) = eF at *
  have c11 := ((c8.fr P9.fr20 (by simp; omega) (by simp; omega)).fr P10.fr20 (by simp; omega) (by simp; omega)).fr P11.fr20 (by simp; omega) (by simp; omega)
  have ob11 := at_lt c11.dic
  -- w8 .. w10
  have F12 := Fr20.app S11 [MO.dK (bkK M) (bkX M)]
  have k12 : (S11 ++ [MO.dK (bkK M) (bkX M)])[S11.length]? = some (.dK (bkK M) (bkX M)) := by simp
  have l12 : (S11 ++ [MO.dK (bkK M) (bkX M)]).length = S11.length + 1 := by simp
  have s8 : w8 eF S11 = .nx (eF.set 8 (some (.loc S11.length))) (S11 ++ [MO.dK (bkK M) (bkX M)]) := by
    unfold w8
    refine s_set ?_
    have dr : dictR S11 (.loc b) = some (bkK M, bkX M) := (BAt.loc h11.book).1
    simp [rDictM, eF4, dr]
  generalize S11 ++ [MO.dK (bkK M) (bkX M)] = S12 at *
  have h12 := h11.fr F12 (by simp) (by simp) (by simp) (by simp)
  have c12 := c11.fr F12 (by simp) (by simp)
  generalize S11.length = kb at *
  have eG0 := g_ne (x := some (.loc kb)) (m := 8) eF0 (by decide)
  have eG2 := g_ne (x := some (.loc kb)) (m := 8) eF2 (by decide)
  have eG3 := g_ne (x := some (.loc kb)) (m := 8) eF3 (by decide)
  have eG4 := g_ne (x := some (.loc kb)) (m := 8) eF4 (by decide)
  have eG5 := g_ne (x := some (.loc kb)) (m := 8) eF5 (by decide)
  have eG6 := g_ne (x := some (.loc kb)) (m := 8) eF6 (by decide)
  have eG7 := g_ne (x := some (.loc kb)) (m := 8) eF7 (by decide)
  have eG8 : (eF.set 8 (some (.loc kb)))[8]? = some (some (.loc kb)) := g_at (by omega)
  have eGl : (eF.set 8 (some (.loc kb))).length = 13 := by rw [List.length_set]; exact eFl
  generalize eF.set 8 (some (.loc kb)) = eG at *
  have s9 := w9_eq (lo := lo) (hi := hi) h12.book lM eG4 eG6 eG7 eGl
  have mk9 : mkL L lo hi = mkL M lo hi := mkL_of h12.ndL h12.ndM h12.same
  rw [← mk9] at s9
  generalize hX : (mkL L lo hi).map Ev.D.int = X at *
  have eH0 := g_ne (x := some (.lst X)) (m := 9) eG0 (by decide)
  have eH2 := g_ne (x := some (.lst X)) (m := 9) eG2 (by decide)
  have eH3 := g_ne (x := some (.lst X)) (m := 9) eG3 (by decide)
  have eH4 := g_ne (x := some (.lst X)) (m := 9) eG4 (by decide)
  have eH5 := g_ne (x := some (.lst X)) (m := 9) eG5 (by decide)
  have eH6 := g_ne (x := some (.lst X)) (m := 9) eG6 (by decide)
  have eH7 := g_ne (x := some (.lst X)) (m := 9) eG7 (by decide)
  have eH8 := g_ne (x := some (.lst X)) (m := 9) eG8 (by decide)
  have eH9 : (eG.set 9 (some (.lst X)))[9]? = some (some (.lst X)) := g_at (by omega)
  have eHl : (eG.set 9 (some (.lst X))).length = 13 := by rw [List.length_set]; exact eGl
  generalize eG.set 9 (some (.lst X)) = eH at *
  have t13 := marked_eq h12.cat lL (lo := 0) (hi := 4096) (by decide) (by decide) (by decide)
  have mk13 : mkL L 0 4096 = (isortI (M.map (·.1))).filter fun a => (getB M a).1 := by rw [mkL_of h12.ndL h12.ndM h12.same, mkL_all h12.rgM]
  rw [mk13] at t13
  have F13 := Fr20.app S12 [MO.lst (((isortI (M.map (·.1))).filter fun a => (getB M a).1).map Ev.D.int)]
  have k13 : (S12 ++ [MO.lst (((isortI (M.map (·.1))).filter fun a => (getB M a).1).map Ev.D.int)])[S12.length]? = some (.lst (((isortI (M.map (·.1))).filter fun a => (getB M a).1).map Ev.D.int)) := by simp
  have l13 : (S12 ++ [MO.lst (((isortI (M.map (·.1))).filter fun a => (getB M a).1).map Ev.D.int)]).length = S12.length + 1 := by simp
  have s10 : w10 eH S12 = .nx (eH.set 11 (some (.loc S12.length))) (S12 ++ [MO.lst (((isortI (M.map (·.1))).filter fun a => (getB M a).1).map Ev.D.int)]) := s_set ((metD_C (m := "marked") (is := [0, 4096]) h12.cat (by decide +kernel) (o_var eH3) o_nil).trans t13)
  generalize S12 ++ [MO.lst (((isortI (M.map (·.1))).filter fun a => (getB M a).1).map Ev.D.int)] = S13 at *
  have h13 := h12.fr F13 (by simp) (by simp) (by simp) (by simp)
  have c13 := c12.fr F13 (by simp) (by simp)
  have q13 := (F13.2 kb (at_lt k12) (by simp)).trans k12
  have hkb := at_lt k12
  generalize S12.length = hp12 at *
  have eI0 := g_ne (x := some (.loc hp12)) (m := 11) eH0 (by decide)
  have eI2 := g_ne (x := some (.loc hp12)) (m := 11) eH2 (by decide)
  have eI3 := g_ne (x := some (.loc hp12)) (m := 11) eH3 (by decide)
  have eI4 := g_ne (x := some (.loc hp12)) (m := 11) eH4 (by decide)
  have eI5 := g_ne (x := some (.loc hp12)) (m := 11) eH5 (by decide)
  have eI6 := g_ne (x := some (.loc hp12)) (m := 11) eH6 (by decide)
  have eI7 := g_ne (x := some (.loc hp12)) (m := 11) eH7 (by decide)
  have eI8 := g_ne (x := some (.loc hp12)) (m := 11) eH8 (by decide)
  have eI9 := g_ne (x := some (.loc hp12)) (m := 11) eH9 (by decide)
  have eI11 : (eH.set 11 (some (.loc hp12)))[11]? = some (some (.loc hp12)) := g_at (by omega)
  have eIl : (eH.set 11 (some (.loc hp12))).length = 13 := by rw [List.length_set]; exact eHl
  generalize eH.set 11 (some (.loc hp12)) = eI at *
  -- w11
  have t14 := marked_eq h13.cat lL (lo := lo) (hi := hi) lo0 h0h h1h
  rw [hX] at t14
  have F14 := Fr20.app S13 [MO.lst X]
  have ne14 : neD (S13 ++ [MO.lst X]) (.loc S13.length) (.lst X) = some (.bl false) := by
    unfold neD
    rw [eq_at (xs := X) (by simp), ← hX, eq_ints]; rfl
  have l14 : (S13 ++ [MO.lst X]).length = S13.length + 1 := by simp
  generalize S13 ++ [MO.lst X] = S14 at *
  have h14 := h13.fr F14 (by simp) (by simp) (by simp) (by simp)
  have c14 := c13.fr F14 (by simp) (by simp)
  have t15 := clear_eq h14.cat lo0 h0h h1h
  have c15 := h14.cat.set (M := clrB L lo (hi - lo).toNat)
  have F15 := Fr20.set S14 d (.dK (bkK (clrB L lo (hi - lo).toNat)) (bkX (clrB L lo (hi - lo).toNat)))
  have nL' := clrB_nd (hi - lo).toNat lo h14.ndL
  have lL' := len_clrB (hi - lo).toNat L lo
  have zL' : Nz (clrB L lo (hi - lo).toNat) := fun p hp => h14.nz p (clrB_mem _ _ hp)
  have rL' : ∀ p ∈ clrB L lo (hi - lo).toNat, 0 ≤ p.1 ∧ p.1 < 4096 := fun p hp => h14.rgL p (clrB_mem _ _ hp)
  have gL' : ∀ a, getB (clrB L lo (hi - lo).toNat) a = getB (outB M lo hi) a := fun a => by
    rw [get_clrB, outB_get h14.ndM, h14.same]
    by_cases z : lo ≤ a ∧ a < hi
    · rw [if_pos z, if_pos ⟨z.1, by omega⟩]
    · rw [if_neg z, if_neg (by omega)]
  have gLL : ∀ a, getB (clrB L lo (hi - lo).toNat) a = if lo ≤ a ∧ a < hi then (false, 0) else getB L a := fun a => by
    rw [gL', outB_get h14.ndM, h14.same]
  have s11 : w11 eI S13 = .nx eI (S14.set d (.dK (bkK (clrB L lo (hi - lo).toNat)) (bkX (clrB L lo (hi - lo).toNat)))) := by
    unfold w11
    exact s_no (o_or_no (o_test (o_bin ((metD_C (m := "marked") (is := []) h13.cat (by decide +kernel) (o_var eI3) (o_cons (o_var eI6) (o_cons (o_var eI7) o_nil))).trans t14) (o_var eI9) ne14)) (o_test (o_bin ((met_C (m := "clear") h14.cat (by decide +kernel) (o_var eI3) (o_cons (o_var eI6) (o_cons (o_var eI7) o_nil))).trans t15) (o_con (d := .non)) rfl))) s_nil
  generalize clrB L lo (hi - lo).toNat = L' at *
  have dn : d ≠ n ∧ d ≠ b ∧ d ≠ c := by have := h14.ap; omega
  have pl15 : PoolAt (S14.set d (.dK (bkK L') (bkX L'))) n := h14.pool.fr F15 (by simp; omega)
  have bk15 : (S14.set d (.dK (bkK L') (bkX L')))[b]? = some (.dK (bkK M) (bkX M)) := (F15.2 b (at_lt h14.book) (by simp; omega)).trans h14.book
  have ot15 := c14.fr F15 (by simp; omega) (by simp; omega)
  have kp14 := (F14.2 kb (by omega) (by simp)).trans q13
  have kp15 := (F15.2 kb (at_lt kp14) (by simp; omega)).trans kp14
  have hh14 := (F14.2 hp12 (at_lt k13) (by simp)).trans k13
  have hh15 := (F15.2 hp12 (at_lt hh14) (by simp; omega)).trans hh14
  generalize S14.set d (.dK (bkK L') (bkX L')) = S15 at *
  -- w12
  have t16 := marked_eq c15 (by omega) (lo := 0) (hi := 4096) (by decide) (by decide) (by decide)
  have F16 := Fr20.app S15 [MO.lst ((mkL L' 0 4096).map Ev.D.int)]
  have k16 : (S15 ++ [MO.lst ((mkL L' 0 4096).map Ev.D.int)])[S15.length]? = some (.lst ((mkL L' 0 4096).map Ev.D.int)) := by simp
  have l16 : (S15 ++ [MO.lst ((mkL L' 0 4096).map Ev.D.int)]).length = S15.length + 1 := by simp
  have ml16 : ((mkL L' 0 4096).map Ev.D.int).length < 1000 := by
    rw [List.length_map]
    have q : (mkL L' 0 4096).length ≤ (isortI (L'.map (·.1))).length := List.length_filter_le _ _
    rw [isort_len] at q
    omega
  have F17 := Fr20.set (S15 ++ [MO.lst ((mkL L' 0 4096).map Ev.D.int)]) S15.length (.lst ((mkL L' 0 4096).map Ev.D.int ++ [.non]))
  have s12 : w12 eI S15 = .nx eI ((S15 ++ [MO.lst ((mkL L' 0 4096).map Ev.D.int)]).set S15.length (.lst ((mkL L' 0 4096).map Ev.D.int ++ [.non]))) := app_at ((metD_C (m := "marked") (is := [0, 4096]) c15 (by decide +kernel) (o_var eI3) o_nil).trans t16) k16 (o_con (d := .non)) ml16
  have F1617 := F16.trans F17
  rw [List.nil_append] at F1617
  have i15 : ∀ {i : Nat} {x : MO}, S15[i]? = some x → i ∉ [S15.length] := fun h => by have := at_lt h; simp; omega
  generalize (S15 ++ [MO.lst ((mkL L' 0 4096).map Ev.D.int)]).set S15.length (.lst ((mkL L' 0 4096).map Ev.D.int ++ [.non])) = S17 at *
  have c17 := c15.fr F1617 (i15 c15.obj) (i15 c15.dic)
  have pl17 : PoolAt S17 n := by
    obtain ⟨x, y, q, r⟩ := pl15
    exact PoolAt.fr ⟨x, y, q, r⟩ F1617 (i15 q)
  have bk17 := (F1617.2 b (at_lt bk15) (i15 bk15)).trans bk15
  have ot17 := ot15.fr F1617 (i15 ot15.obj) (i15 ot15.dic)
  have kp17 := (F1617.2 kb (at_lt kp15) (i15 kp15)).trans kp15
  have hh17 := (F1617.2 hp12 (at_lt hh15) (i15 hh15)).trans hh15
  -- w13 w14
  have s13 := w13_eq kp17 lM hh17 eI8 eI11 eIl
  have s14 := w14_eq (lo := lo) (hi := hi) bk17 h14.ndM lM eI4 eI6 eI7 eIl
  have nM' := outB_nd (lo := lo) (hi := hi) h14.ndM
  have lM' : (outB M lo hi).length ≤ M.length := List.length_filter_le _ _
  have rM' : ∀ p ∈ outB M lo hi, 0 ≤ p.1 ∧ p.1 < 4096 := fun p hp => h14.rgM p (List.mem_filter.mp hp).1
  have bM' : ∀ a, 0 ≤ (getB (outB M lo hi) a).2 ∧ (getB (outB M lo hi) a).2 < 35184372088832 := fun a => by
    rw [outB_get h14.ndM]
    split
    · exact ⟨by decide, by decide⟩
    · exact h14.bits a
  have kM' : ∀ p ∈ M, p.1 ∉ (outB M lo hi).map (·.1) ↔ (lo ≤ p.1 ∧ p.1 < hi) := fun p hp => by
    constructor
    · intro h
      by_cases z : lo ≤ p.1 ∧ p.1 < hi
      · exact z
      · refine absurd (List.mem_map.mpr ⟨p, List.mem_filter.mpr ⟨hp, ?_⟩, rfl⟩) h
        simp only [Bool.not_eq_true', Bool.and_eq_false_iff, decide_eq_false_iff_not]
        by_cases q : lo ≤ p.1
        · exact .inr fun r => z ⟨q, r⟩
        · exact .inl q
    · rintro ⟨z1, z2⟩ h
      obtain ⟨q, hq, e⟩ := List.mem_map.mp h
      have := (List.mem_filter.mp hq).2
      rw [e] at this
      simp [z1, z2] at this
  generalize hM' : outB M lo hi = M' at *
  generalize hD : Ev.D.dct (bkK M') (bkX M') = dM at *
  have eJ0 := g_ne (x := some dM) (m := 4) eI0 (by decide)
  have eJ2 := g_ne (x := some dM) (m := 4) eI2 (by decide)
  have eJ3 := g_ne (x := some dM) (m := 4) eI3 (by decide)
  have eJ4 : (eI.set 4 (some dM))[4]? = some (some dM) := g_at (by omega)
  have eJ5 := g_ne (x := some dM) (m := 4) eI5 (by decide)
  have eJ8 := g_ne (x := some dM) (m := 4) eI8 (by decide)
  have eJl : (eI.set 4 (some dM)).length = 13 := by rw [List.length_set]; exact eIl
  generalize eI.set 4 (some dM) = eJ at *
  have bt : ∀ S, BAt S dM M' := fun S => by rw [← hD]; exact BAt.dct
  -- w15
  obtain ⟨T18, t18⟩ := same_eq c17 (fun T => bt _) nL' nM' (by omega) (by omega) rL' rM' gL' bM'
  have F18 := Fr20.app S17 [T18]
  generalize S17 ++ [T18] = S18 at *
  have ot18 := ot17.fr F18 (by simp) (by simp)
  have kp18 := (F18.2 kb (at_lt kp17) (by simp)).trans kp17
  obtain ⟨T19, t19⟩ := same_eq ot18 (x := .loc kb) (fun T => BAt.loc (by rw [List.getElem?_append_left (at_lt kp18)]; exact kp18)) h14.ndL h14.ndM lL lM h14.rgL h14.rgM h14.same h14.bits
  have F19 := Fr20.app S18 [T19]
  have s15 : w15 eJ S17 = .nx eJ (S18 ++ [T19]) := by
    unfold w15
    exact s_no (o_or_no (o_not (k := true) (o_truth (o_call (o_cons (o_var eJ3) (o_cons (o_var eJ4) o_nil)) t18))) (o_not (k := true) (o_truth (o_call (o_cons (o_var eJ5) (o_cons (o_var eJ8) o_nil)) t19)))) s_nil
  generalize S18 ++ [T19] = S19 at *
  have F1819 := F18.trans F19
  rw [List.append_nil] at F1819
  have c19 := c17.fr F1819 (by simp) (by simp)
  have pl19 := pl17.fr F1819 (by simp)
  have ot19 := ot17.fr F1819 (by simp) (by simp)
  have kp19 := (F1819.2 kb (at_lt kp17) (by simp)).trans kp17
  -- w16 w17
  have ap := h14.ap
  have s16 := w16_eq c19 kp19 (by omega) (by omega) lM h14.rgM gL' eJ3 (by rw [hD]; exact eJ4) eJ8 eJl
  have s17 := w17_eq kp19 h14.ndM lM (by rw [hD]; exact eJ4) eJ8 eJl
  generalize hG : (goneL M M').map Ev.D.int = G at *
  have eK0 := g_ne (x := some (.lst G)) (m := 12) eJ0 (by decide)
  have eK2 := g_ne (x := some (.lst G)) (m := 12) eJ2 (by decide)
  have eK3 := g_ne (x := some (.lst G)) (m := 12) eJ3 (by decide)
  have eK4 := g_ne (x := some (.lst G)) (m := 12) eJ4 (by decide)
  have eK5 := g_ne (x := some (.lst G)) (m := 12) eJ5 (by decide)
  have eK12 : (eJ.set 12 (some (.lst G)))[12]? = some (some (.lst G)) := g_at (by omega)
  have eKl : (eJ.set 12 (some (.lst G))).length = 13 := by rw [List.length_set]; exact eJl
  generalize eJ.set 12 (some (.lst G)) = eK at *
  -- w18
  obtain ⟨r18, o18, q18⟩ := eqO_C (ne := false) c19 ot19 nL' h14.ndL zL' h14.nz
  have gn : goneL M M' = [] ↔ ∀ p ∈ M, lo ≤ p.1 ∧ p.1 < hi → p.2 = (false, 0) := by
    unfold goneL
    rw [List.map_eq_nil_iff, List.filter_eq_nil_iff]
    constructor
    · intro h p hp z
      have := h p hp
      have nk := (kM' p hp).mpr z
      simp only [nk, not_false_eq_true, decide_true, Bool.true_and, decide_eq_true_eq, ne_eq, Decidable.not_not] at this
      exact this
    · intro h p hp
      by_cases z : lo ≤ p.1 ∧ p.1 < hi
      · simp [h p hp z]
      · have nk : ¬ p.1 ∉ M'.map (·.1) := fun q => z ((kM' p hp).mp q)
        rw [decide_eq_false nk]
        simp
  have rg18 : r18 = true ↔ goneL M M' = [] := by
    rw [q18, gn]
    constructor
    · intro h p hp z
      have h1 := h p.1
      rw [gLL, if_pos z, h14.same] at h1
      have gp : getB M p.1 = p.2 := by unfold getB; rw [fnd_mem h14.ndM hp]; rfl
      rw [gp] at h1
      exact h1.symm
    · intro h a
      rw [gLL]
      by_cases z : lo ≤ a ∧ a < hi
      · rw [if_pos z, h14.same]
        cases q : fndB M a with
        | none => unfold getB; rw [q]; rfl
        | some w =>
          have := h (a, w) (mem_get q) z
          unfold getB
          rw [q]
          exact this.symm
      · rw [if_neg z]
  have eg : eqD S19 (.lst G) (.lst []) = some (.bl r18) := by
    rw [← hG]
    unfold eqD
    cases hq : goneL M M' with
    | nil =>
      rw [rg18.mpr hq]
      simp [PyData.eqvAll]
    | cons a l =>
      have : r18 = false := by
        cases r18
        · rfl
        · rw [rg18.mp rfl] at hq; cases hq
      rw [this]
      have e2 : ∀ xs : List Int, pyAll (pyD S19 59) (xs.map Ev.D.int) = some (xs.map PyData.int) := fun xs => by
        induction xs with
        | nil => rfl
        | cons x xs ih => simp only [List.map_cons, pyAll, ih]; rfl
      rw [eqB_ll, e2]
      simp [PyData.eqvAll]
  have nb : neD S19 (.bl (r18 != false)) (.bl r18) = some (.bl false) := by cases r18 <;> rfl
  have s18 : w18 eK S19 = .nx eK S19 := by
    unfold w18
    exact s_no (o_test (o_bin (o_binS (o_var eK3) (o_var eK5) o18) (o_bin (o_var eK12) (o_lst o_nil) eg) nb)) s_nil
  -- w19 .. w22
  have nod : ∀ {xs : List Nat}, xs = [od] → n ∉ xs ∧ c ∉ xs ∧ d ∉ xs := fun h => by subst h; simp; omega
  have t20 := lay_eq (a := 5) (w := (false, 77)) ot19 (by omega) (by decide) (by decide) (lw_plain (by decide) (by decide))
  have ot20 := ot19.set (M := layB L 5 (false, 77))
  have e20 := len_lay L 5 (false, 77)
  have F20 := Fr20.set S19 od (.dK (bkK (layB L 5 (false, 77))) (bkX (layB L 5 (false, 77))))
  have s19 : w19 eK S19 = .nx eK (S19.set od (.dK (bkK (layB L 5 (false, 77))) (bkX (layB L 5 (false, 77))))) := s_exp ((met_C (m := "lay") ot19 (by decide +kernel) (o_var eK5) (o_cons (o_con (d := .int 5)) (o_cons (o_tup (o_cons (o_con (d := .bl false)) (o_cons (o_con (d := .int 77)) o_nil))) o_nil))).trans t20)
  generalize layB L 5 (false, 77) = B1 at *
  generalize S19.set od (.dK (bkK B1) (bkX B1)) = S20 at *
  have t21 := pk_eq (w := wB) (off := 0) (a := 3) (n := 4) ot20 (by omega) wB_l (by decide) (by decide) fltB.1 (by rw [wB_at]; rfl)
  have ot21 := ot20.set (M := layB B1 3 (pkW (getB B1 3) 4))
  have e21 := len_lay B1 3 (pkW (getB B1 3) 4)
  have F21 := Fr20.set S20 od (.dK (bkK (layB B1 3 (pkW (getB B1 3) 4))) (bkX (layB B1 3 (pkW (getB B1 3) 4))))
  have mB : ∀ (e : Ev.Env) (S : Store), (rCall g_law_made (rCons (rCon (.int 0)) (rCons (rCon (.int 16)) (rCons (rCon (.int 3)) (rCons (rCon (.str (Str.ofString "rw"))) (rCons (rCon (.int 0)) rNil)))))) e S = .ok (wd wB) S := fun e S => o_call (o_cons (o_con (d := .int 0)) (o_cons (o_con (d := .int 16)) (o_cons (o_con (d := .int 3)) (o_cons (o_con (d := .str (Str.ofString "rw"))) (o_cons (o_con (d := .int 0)) o_nil))))) madeB
  have s20 : w20 eK S20 = .nx eK (S20.set od (.dK (bkK (layB B1 3 (pkW (getB B1 3) 4))) (bkX (layB B1 3 (pkW (getB B1 3) 4))))) := s_exp ((met_C (m := "poke") ot20 (by decide +kernel) (o_var eK5) (o_cons (mB _ _) (o_cons (o_con (d := .int 0)) (o_cons (o_con (d := .int 4)) o_nil)))).trans t21)
  generalize layB B1 3 (pkW (getB B1 3) 4) = B2 at *
  generalize S20.set od (.dK (bkK B2) (bkX B2)) = S21 at *
  have t22 := st_eq (w := wB) (v := (false, 4)) (off := 1) (a := 4) ot21 (by omega) wB_l (lw_plain (by decide) (by decide)) (by decide) (by decide) fltB.2 rfl (by rw [wB_at]; rfl)
  have ot22 := ot21.set (M := layB B2 4 (false, 4))
  have F22 := Fr20.set S21 od (.dK (bkK (layB B2 4 (false, 4))) (bkX (layB B2 4 (false, 4))))
  have s21 : w21 eK S21 = .nx eK (S21.set od (.dK (bkK (layB B2 4 (false, 4))) (bkX (layB B2 4 (false, 4))))) := s_exp ((met_C (m := "store") ot21 (by decide +kernel) (o_var eK5) (o_cons (mB _ _) (o_cons (o_con (d := .int 1)) (o_cons (o_tup (o_cons (o_con (d := .bl false)) (o_cons (o_con (d := .int 4)) o_nil))) o_nil)))).trans t22)
  generalize layB B2 4 (false, 4) = B3 at *
  generalize S21.set od (.dK (bkK B3) (bkX B3)) = S22 at *
  have t23 := clear_eq (a := 8) (b := 12) ot22 (by decide) (by decide) (by decide)
  have F23 := Fr20.set S22 od (.dK (bkK (clrB B3 8 (12 - 8 : Int).toNat)) (bkX (clrB B3 8 (12 - 8 : Int).toNat)))
  have s22 : w22 eK S22 = .nx eK (S22.set od (.dK (bkK (clrB B3 8 (12 - 8 : Int).toNat)) (bkX (clrB B3 8 (12 - 8 : Int).toNat)))) := s_exp ((met_C (m := "clear") ot22 (by decide +kernel) (o_var eK5) (o_cons (o_con (d := .int 8)) (o_cons (o_con (d := .int 12)) o_nil))).trans t23)
  generalize S22.set od (.dK (bkK (clrB B3 8 (12 - 8 : Int).toNat)) (bkX (clrB B3 8 (12 - 8 : Int).toNat))) = S23 at *
  have FF := ((F20.trans F21).trans F22).trans F23
  have ni : ∀ i, i ≠ od → i ∉ [od] ++ [od] ++ [od] ++ [od] := fun i h => by simp [h]
  have c23 := c19.fr FF (ni _ (by omega)) (ni _ (by omega))
  have pl23 := pl19.fr FF (ni _ (by omega))
  -- w23
  obtain ⟨T24, t24⟩ := same_eq c23 (fun T => bt _) nL' nM' (by omega) (by omega) rL' rM' gL' bM'
  have F24 := Fr20.app S23 [T24]
  generalize S23 ++ [T24] = S24 at *
  have pl24 := pl23.fr F24 (by simp)
  obtain ⟨m25, w25, S25, t25, P25, lw25⟩ := law_word_ok pl24.f
  obtain ⟨S26, t26, F26⟩ := emptied_eq (S := S25) (w := (m25, w25)) lw25
  have s23 : w23 eK S23 = .nx eK S26 := by
    unfold w23
    exact s_no (o_or_no (o_not (k := true) (o_truth (o_call (o_cons (o_var eK3) (o_cons (o_var eK4) o_nil)) t24))) (o_not (k := true) (o_truth (o_call (o_cons (o_call (o_cons (o_var eK2) o_nil) t25) o_nil) t26)))) s_nil
  refine ⟨eK, S26, ?_, eKl, eK0⟩
  rw [w_is]
  exact s_seq s1 (s_seq s2 (s_seq s3 (s_seq s4 (s_seq s5 (s_seq s6 (s_seq s7 (s_seq s8 (s_seq s9 (s_seq s10 (s_seq s11 (s_seq s12 (s_seq s13 (s_seq s14 (s_seq s15 (s_seq s16 (s_seq s17 (s_seq s18 (s_seq s19 (s_seq s20 (s_seq s21 (s_seq s22 s23)))))))))))))))))))))
theorem law_true (ns : List Int) (hl : ns.length ≤ 63) : ∃ S, g_law [.lst (ns.map Ev.D.int)] [] = .ok (.bl true) S := by
  obtain ⟨m, hm, hr⟩ := ran_cells ns.length 8 (by omega) (by omega)
  obtain ⟨e', S', h1, _⟩ := forL_inv (t := .nm 1) (body := lb1_law) (fun e S' => e.length = 13 ∧ e[0]? = some (some (.lst (ns.map Ev.D.int)))) (rangeD 0 m) (e := [some (.lst (ns.map Ev.D.int)), none, none, none, none, none, none, none, none, none, none, none, none]) (S := [])
    (fun d hd e S' ⟨el, e0⟩ => by
      obtain ⟨i, hi, rfl⟩ := mem_rangeD hd
      rw [Int.zero_add]
      obtain ⟨e2, S2, t, l2, z2⟩ := turn_law (ns := ns) (k := i) (S := S') (e := e.set 1 (some (.int i))) (by omega) (by omega) (by rw [List.length_set]; exact el) (by rw [List.getElem?_set_ne (by omega)]; exact e0) (List.getElem?_set_self (by omega))
      exact ⟨_, rfl, _, S2, t, l2, z2⟩) ⟨rfl, rfl⟩
  refine ⟨S', ?_⟩
  unfold g_law runDef m_law
  simp at hr
  simp [hr, h1]
end Lw
open PySem PySem.W PyProof.Rows
set_option maxHeartbeats 0 in
theorem PySem.Challenge.cw_sealedreach_k20_cells_laid_and_cleared_holds : PySem.Challenge.rw_sealedreach_k20_cells_laid_and_cleared.Holds := by
  w_on; o_law; k_head; (case hw => w_witness2)
  k_fill
  refine Ev.walk_evG (l := PySem.Challenge.rw_sealedreach_k20_cells_laid_and_cleared) (n := 63) (k := 8) (x := "_law_script") (g := Lw.g_law) rfl (by decide) rfl ⟨rfl, by decide, by decide⟩ (fun w h Y => PySem.W.kIn_of Y) ?F Lw.law_true
  case F =>
    intro w mg fa h KX G hmg
    refine' Lw.all_mk KX G hmg ?gc_Cells ?a0 ?l0 ?o0 ?p0 ?a1 ?l1 ?o1 ?p1 ?a2 ?l2 ?o2 ?p2 ?a3 ?l3 ?o3 ?p3 ?a4 ?l4 ?o4 ?p4 ?a5 ?l5 ?o5 ?p5 ?a6 ?l6 ?o6 ?p6 ?a7 ?l7 ?o7 ?p7 ?a8 ?l8 ?o8 ?p8 ?a9 ?l9 ?o9 ?p9 ?a10 ?l10 ?o10 ?p10 ?a11 ?l11 ?kw11_sealed ?o11 ?p11 ?a12 ?l12 ?o12 ?p12 ?a13 ?l13 ?o13 ?p13 ?a14 ?l14 ?o14 ?p14 ?a15 ?l15 ?o15 ?p15 ?a17 ?l17 ?o17 ?p17 ?a18 ?l18 ?o18 ?p18 ?a19 ?l19 ?o19 ?p19 ?a20 ?l20 ?o20 ?p20 ?a302 ?fn302 ?l302 ?o302 ?p302 ?a303 ?fn303 ?l303 ?o303 ?p303 ?a309 ?fn309 ?l309 ?dl309_ ?o309 ?p309 ?a308 ?fn308 ?l308 ?o308 ?p308 ?a301 ?fn301 ?l301 ?o301 ?p301 ?a307 ?fn307 ?l307 ?o307 ?p307 ?a306 ?fn306 ?l306 ?o306 ?p306 ?a305 ?fn305 ?l305 ?o305 ?p305 ?a304 ?fn304 ?l304 ?o304 ?p304 ?a21 ?l21 ?o21 ?p21 ?a22 ?l22 ?o22 ?p22 ?a23 ?l23 ?o23 ?p23 ?a24 ?l24 ?o24 ?p24 ?a311 ?fn311 ?l311 ?o311 ?p311 ?a300 ?fn300 ?l300 ?o300 ?p300 ?a310 ?fn310 ?l310 ?o310 ?p310 ?a25 ?l25 ?o25 ?p25 ?a26 ?l26 ?o26 ?p26 ?k_CELLS ?k_MOST_COUNT ?k_MOST_STEP ?k_RIGHTS ?k_WORDS ?k_CELL_GROUP ?k_NOTHING ?l_NOTHING ?k_LEAST_OFFSET ?k_MOST_OFFSET ?k_POKED ?clp_Cells ?clh_Cells ?clo_Cells ?cls_Cells ?mkm_Cells ?mkk_Cells ?nq_Cells ?nb_Cells ?na_Cells_own_cells ?z_abs ?z_any ?z_bool ?z_dict ?z_enumerate ?z_int ?z_isinstance ?z_len ?z_max ?z_min ?z_range ?z_repr ?z_sorted ?z_sum ?z_tuple ?g_ReachError ?E1_ReachError ?E2_ReachError ?E3_ReachError ?E4_ReachError ?E5_ReachError ?E8_ReachError ?g_NoBounds ?E1_NoBounds ?E2_NoBounds ?E3_NoBounds ?E4_NoBounds ?E5_NoBounds ?E8_NoBounds ?g_NoOffset ?E1_NoOffset ?E2_NoOffset ?E3_NoOffset ?E4_NoOffset ?E5_NoOffset ?E8_NoOffset ?g_NoAddress ?E1_NoAddress ?E2_NoAddress ?E3_NoAddress ?E4_NoAddress ?E5_NoAddress ?E8_NoAddress ?g_NoWord ?E1_NoWord ?E2_NoWord ?E3_NoWord ?E4_NoWord ?E5_NoWord ?E8_NoWord ?g_Fault ?E1_Fault ?E2_Fault ?E3_Fault ?E4_Fault ?E5_Fault ?E8_Fault ?ic_Cells ?im_Cells ?qf_NoneType_Cells ?qf_bool_Cells ?qf_int_Cells ?qf_str_Cells ?qf_tuple_Cells ?qf_list_Cells ?qf_dict_Cells ?E6 ?E7 ?sp_ReachError ?rd_ReachError ?vl_ReachError ?xL_Fault ?sa_Fault ?iC_Fault ?tI_Fault ?li_Fault ?oi_Fault ?pi_Fault ?p_Fault ?u_Fault ?y_Fault ?no_Fault_word ?x_NoAddress ?p_NoAddress ?u_NoAddress ?y_NoAddress ?x_NoBounds ?p_NoBounds ?u_NoBounds ?y_NoBounds ?x_NoOffset ?p_NoOffset ?u_NoOffset ?y_NoOffset ?x_NoWord ?p_NoWord ?u_NoWord ?y_NoWord ?e_Fault_ReachError ?e_NoAddress_ReachError ?e_NoBounds_ReachError ?e_NoOffset_ReachError ?e_NoWord_ReachError ?e_ReachError_ReachError ?q_Fault_Cells ?q_Fault_Fault ?q_Fault_NoAddress ?q_Fault_NoBounds ?q_Fault_NoOffset ?q_Fault_NoWord ?q_NoAddress_Cells ?q_NoAddress_Fault ?q_NoAddress_NoAddress ?q_NoAddress_NoBounds ?q_NoAddress_NoOffset ?q_NoAddress_NoWord ?q_NoBounds_Cells ?q_NoBounds_Fault ?q_NoBounds_NoAddress ?q_NoBounds_NoBounds ?q_NoBounds_NoOffset ?q_NoBounds_NoWord ?q_NoOffset_Cells ?q_NoOffset_Fault ?q_NoOffset_NoAddress ?q_NoOffset_NoBounds ?q_NoOffset_NoOffset ?q_NoOffset_NoWord ?q_NoWord_Cells ?q_NoWord_Fault ?q_NoWord_NoAddress ?q_NoWord_NoBounds ?q_NoWord_NoOffset ?q_NoWord_NoWord ?q_ReachError_Cells ?q_ReachError_Fault ?q_ReachError_NoAddress ?q_ReachError_NoBounds ?q_ReachError_NoOffset ?q_ReachError_NoWord
    (case gc_Cells => first | k_is | rfl); (case a0 => first | k_is | rfl); (case l0 => first | k_is | rfl); (case o0 => first | k_is | rfl); (case p0 => first | k_is | rfl); (case a1 => first | k_is | rfl)
    (case l1 => first | k_is | rfl); (case o1 => first | k_is | rfl); (case p1 => first | k_is | rfl); (case a2 => first | k_is | rfl); (case l2 => first | k_is | rfl); (case o2 => first | k_is | rfl)
    (case p2 => first | k_is | rfl); (case a3 => first | k_is | rfl); (case l3 => first | k_is | rfl); (case o3 => first | k_is | rfl); (case p3 => first | k_is | rfl); (case a4 => first | k_is | rfl)
    (case l4 => first | k_is | rfl); (case o4 => first | k_is | rfl); (case p4 => first | k_is | rfl); (case a5 => first | k_is | rfl); (case l5 => first | k_is | rfl); (case o5 => first | k_is | rfl)
    (case p5 => first | k_is | rfl); (case a6 => first | k_is | rfl); (case l6 => first | k_is | rfl); (case o6 => first | k_is | rfl); (case p6 => first | k_is | rfl); (case a7 => first | k_is | rfl)
    (case l7 => first | k_is | rfl); (case o7 => first | k_is | rfl); (case p7 => first | k_is | rfl); (case a8 => first | k_is | rfl); (case l8 => first | k_is | rfl); (case o8 => first | k_is | rfl)
    (case p8 => first | k_is | rfl); (case a9 => first | k_is | rfl); (case l9 => first | k_is | rfl); (case o9 => first | k_is | rfl); (case p9 => first | k_is | rfl); (case a10 => first | k_is | rfl)
    (case l10 => first | k_is | rfl); (case o10 => first | k_is | rfl); (case p10 => first | k_is | rfl); (case a11 => first | k_is | rfl); (case l11 => first | k_is | rfl); (case kw11_sealed => first | k_is | rfl)
    (case o11 => first | k_is | rfl); (case p11 => first | k_is | rfl); (case a12 => first | k_is | rfl); (case l12 => first | k_is | rfl); (case o12 => first | k_is | rfl); (case p12 => first | k_is | rfl)
    (case a13 => first | k_is | rfl); (case l13 => first | k_is | rfl); (case o13 => first | k_is | rfl); (case p13 => first | k_is | rfl); (case a14 => first | k_is | rfl); (case l14 => first | k_is | rfl)
    (case o14 => first | k_is | rfl); (case p14 => first | k_is | rfl); (case a15 => first | k_is | rfl); (case l15 => first | k_is | rfl); (case o15 => first | k_is | rfl); (case p15 => first | k_is | rfl)
    (case a17 => first | k_is | rfl); (case l17 => first | k_is | rfl); (case o17 => first | k_is | rfl); (case p17 => first | k_is | rfl); (case a18 => first | k_is | rfl); (case l18 => first | k_is | rfl)
    (case o18 => first | k_is | rfl); (case p18 => first | k_is | rfl); (case a19 => first | k_is | rfl); (case l19 => first | k_is | rfl); (case o19 => first | k_is | rfl); (case p19 => first | k_is | rfl)
    (case a20 => first | k_is | rfl); (case l20 => first | k_is | rfl); (case o20 => first | k_is | rfl); (case p20 => first | k_is | rfl); (case a302 => first | k_is | rfl); (case fn302 => first | k_is | rfl)
    (case l302 => first | k_is | rfl); (case o302 => first | k_is | rfl); (case p302 => first | k_is | rfl); (case a303 => first | k_is | rfl); (case fn303 => first | k_is | rfl); (case l303 => first | k_is | rfl)
    (case o303 => first | k_is | rfl); (case p303 => first | k_is | rfl); (case a309 => first | k_is | rfl); (case fn309 => first | k_is | rfl); (case l309 => first | k_is | rfl); (case dl309_ => first | k_is | rfl)
    (case o309 => first | k_is | rfl); (case p309 => first | k_is | rfl); (case a308 => first | k_is | rfl); (case fn308 => first | k_is | rfl); (case l308 => first | k_is | rfl); (case o308 => first | k_is | rfl)
    (case p308 => first | k_is | rfl); (case a301 => first | k_is | rfl); (case fn301 => first | k_is | rfl); (case l301 => first | k_is | rfl); (case o301 => first | k_is | rfl); (case p301 => first | k_is | rfl)
    (case a307 => first | k_is | rfl); (case fn307 => first | k_is | rfl); (case l307 => first | k_is | rfl); (case o307 => first | k_is | rfl); (case p307 => first | k_is | rfl); (case a306 => first | k_is | rfl)
    (case fn306 => first | k_is | rfl); (case l306 => first | k_is | rfl); (case o306 => first | k_is | rfl); (case p306 => first | k_is | rfl); (case a305 => first | k_is | rfl); (case fn305 => first | k_is | rfl)
    (case l305 => first | k_is | rfl); (case o305 => first | k_is | rfl); (case p305 => first | k_is | rfl); (case a304 => first | k_is | rfl); (case fn304 => first | k_is | rfl); (case l304 => first | k_is | rfl)
    (case o304 => first | k_is | rfl); (case p304 => first | k_is | rfl); (case a21 => first | k_is | rfl); (case l21 => first | k_is | rfl); (case o21 => first | k_is | rfl); (case p21 => first | k_is | rfl)
    (case a22 => first | k_is | rfl); (case l22 => first | k_is | rfl); (case o22 => first | k_is | rfl); (case p22 => first | k_is | rfl); (case a23 => first | k_is | rfl); (case l23 => first | k_is | rfl)
    (case o23 => first | k_is | rfl); (case p23 => first | k_is | rfl); (case a24 => first | k_is | rfl); (case l24 => first | k_is | rfl); (case o24 => first | k_is | rfl); (case p24 => first | k_is | rfl)
    (case a311 => first | k_is | rfl); (case fn311 => first | k_is | rfl); (case l311 => first | k_is | rfl); (case o311 => first | k_is | rfl); (case p311 => first | k_is | rfl); (case a300 => first | k_is | rfl)
    (case fn300 => first | k_is | rfl); (case l300 => first | k_is | rfl); (case o300 => first | k_is | rfl); (case p300 => first | k_is | rfl); (case a310 => first | k_is | rfl); (case fn310 => first | k_is | rfl)
    (case l310 => first | k_is | rfl); (case o310 => first | k_is | rfl); (case p310 => first | k_is | rfl); (case a25 => first | k_is | rfl); (case l25 => first | k_is | rfl); (case o25 => first | k_is | rfl)
    (case p25 => first | k_is | rfl); (case a26 => first | k_is | rfl); (case l26 => first | k_is | rfl); (case o26 => first | k_is | rfl); (case p26 => first | k_is | rfl); (case k_CELLS => first | k_is | rfl)
    (case k_MOST_COUNT => first | k_is | rfl); (case k_MOST_STEP => first | k_is | rfl); (case k_RIGHTS => first | k_is | rfl); (case k_WORDS => first | k_is | rfl); (case k_CELL_GROUP => first | k_is | rfl); (case k_NOTHING => first | k_is | rfl)
    (case l_NOTHING => first | k_is | rfl); (case k_LEAST_OFFSET => first | k_is | rfl); (case k_MOST_OFFSET => first | k_is | rfl); (case k_POKED => first | k_is | rfl); (case clp_Cells => first | k_is | rfl); (case clh_Cells => first | k_is | rfl)
    (case clo_Cells => first | k_is | rfl); (case cls_Cells => first | k_is | rfl); (case mkm_Cells => first | k_is | rfl); (case mkk_Cells => first | k_is | rfl); (case nq_Cells => first | k_is | rfl); (case nb_Cells => first | k_is | rfl)
    (case na_Cells_own_cells => first | k_is | rfl); (case z_abs => first | k_is | rfl); (case z_any => first | k_is | rfl); (case z_bool => first | k_is | rfl); (case z_dict => first | k_is | rfl); (case z_enumerate => first | k_is | rfl)
    (case z_int => first | k_is | rfl); (case z_isinstance => first | k_is | rfl); (case z_len => first | k_is | rfl); (case z_max => first | k_is | rfl); (case z_min => first | k_is | rfl); (case z_range => first | k_is | rfl)
    (case z_repr => first | k_is | rfl); (case z_sorted => first | k_is | rfl); (case z_sum => first | k_is | rfl); (case z_tuple => first | k_is | rfl); (case g_ReachError => first | k_is | rfl); (case E1_ReachError => first | k_is | rfl)
    (case E2_ReachError => first | k_is | rfl); (case E3_ReachError => first | k_is | rfl); (case E4_ReachError => first | k_is | rfl); (case E5_ReachError => first | k_is | rfl); (case E8_ReachError => first | k_is | rfl); (case g_NoBounds => first | k_is | rfl)
    (case E1_NoBounds => first | k_is | rfl); (case E2_NoBounds => first | k_is | rfl); (case E3_NoBounds => first | k_is | rfl); (case E4_NoBounds => first | k_is | rfl); (case E5_NoBounds => first | k_is | rfl); (case E8_NoBounds => first | k_is | rfl)
    (case g_NoOffset => first | k_is | rfl); (case E1_NoOffset => first | k_is | rfl); (case E2_NoOffset => first | k_is | rfl); (case E3_NoOffset => first | k_is | rfl); (case E4_NoOffset => first | k_is | rfl); (case E5_NoOffset => first | k_is | rfl)
    (case E8_NoOffset => first | k_is | rfl); (case g_NoAddress => first | k_is | rfl); (case E1_NoAddress => first | k_is | rfl); (case E2_NoAddress => first | k_is | rfl); (case E3_NoAddress => first | k_is | rfl); (case E4_NoAddress => first | k_is | rfl)
    (case E5_NoAddress => first | k_is | rfl); (case E8_NoAddress => first | k_is | rfl); (case g_NoWord => first | k_is | rfl); (case E1_NoWord => first | k_is | rfl); (case E2_NoWord => first | k_is | rfl); (case E3_NoWord => first | k_is | rfl)
    (case E4_NoWord => first | k_is | rfl); (case E5_NoWord => first | k_is | rfl); (case E8_NoWord => first | k_is | rfl); (case g_Fault => first | k_is | rfl); (case E1_Fault => first | k_is | rfl); (case E2_Fault => first | k_is | rfl)
    (case E3_Fault => first | k_is | rfl); (case E4_Fault => first | k_is | rfl); (case E5_Fault => first | k_is | rfl); (case E8_Fault => first | k_is | rfl); (case ic_Cells => first | k_is | rfl); (case im_Cells => first | k_is | rfl)
    (case qf_NoneType_Cells => first | k_is | rfl); (case qf_bool_Cells => first | k_is | rfl); (case qf_int_Cells => first | k_is | rfl); (case qf_str_Cells => first | k_is | rfl); (case qf_tuple_Cells => first | k_is | rfl); (case qf_list_Cells => first | k_is | rfl)
    (case qf_dict_Cells => first | k_is | rfl); (case E6 => first | k_is | rfl); (case E7 => first | k_is | rfl); (case sp_ReachError => first | k_is | rfl); (case rd_ReachError => first | k_is | rfl); (case vl_ReachError => first | k_is | rfl)
    (case xL_Fault => first | k_is | rfl); (case sa_Fault => first | k_is | rfl); (case iC_Fault => first | k_is | rfl); (case tI_Fault => first | k_is | rfl); (case li_Fault => first | k_is | rfl); (case oi_Fault => first | k_is | rfl)
    (case pi_Fault => first | k_is | rfl); (case p_Fault => first | k_is | rfl); (case u_Fault => first | k_is | rfl); (case y_Fault => first | k_is | rfl); (case no_Fault_word => first | k_is | rfl); (case x_NoAddress => k_exc)
    (case p_NoAddress => first | k_is | rfl); (case u_NoAddress => first | k_is | rfl); (case y_NoAddress => first | k_is | rfl); (case x_NoBounds => k_exc); (case p_NoBounds => first | k_is | rfl); (case u_NoBounds => first | k_is | rfl)
    (case y_NoBounds => first | k_is | rfl); (case x_NoOffset => k_exc); (case p_NoOffset => first | k_is | rfl); (case u_NoOffset => first | k_is | rfl); (case y_NoOffset => first | k_is | rfl); (case x_NoWord => k_exc)
    (case p_NoWord => first | k_is | rfl); (case u_NoWord => first | k_is | rfl); (case y_NoWord => first | k_is | rfl); (case e_Fault_ReachError => first | k_is | rfl); (case e_NoAddress_ReachError => first | k_is | rfl); (case e_NoBounds_ReachError => first | k_is | rfl)
    (case e_NoOffset_ReachError => first | k_is | rfl); (case e_NoWord_ReachError => first | k_is | rfl); (case e_ReachError_ReachError => first | k_is | rfl); (case q_Fault_Cells => first | k_is | rfl); (case q_Fault_Fault => first | k_is | rfl); (case q_Fault_NoAddress => first | k_is | rfl)
    (case q_Fault_NoBounds => first | k_is | rfl); (case q_Fault_NoOffset => first | k_is | rfl); (case q_Fault_NoWord => first | k_is | rfl); (case q_NoAddress_Cells => first | k_is | rfl); (case q_NoAddress_Fault => first | k_is | rfl); (case q_NoAddress_NoAddress => first | k_is | rfl)
    (case q_NoAddress_NoBounds => first | k_is | rfl); (case q_NoAddress_NoOffset => first | k_is | rfl); (case q_NoAddress_NoWord => first | k_is | rfl); (case q_NoBounds_Cells => first | k_is | rfl); (case q_NoBounds_Fault => first | k_is | rfl); (case q_NoBounds_NoAddress => first | k_is | rfl)
    (case q_NoBounds_NoBounds => first | k_is | rfl); (case q_NoBounds_NoOffset => first | k_is | rfl); (case q_NoBounds_NoWord => first | k_is | rfl); (case q_NoOffset_Cells => first | k_is | rfl); (case q_NoOffset_Fault => first | k_is | rfl); (case q_NoOffset_NoAddress => first | k_is | rfl)
    (case q_NoOffset_NoBounds => first | k_is | rfl); (case q_NoOffset_NoOffset => first | k_is | rfl); (case q_NoOffset_NoWord => first | k_is | rfl); (case q_NoWord_Cells => first | k_is | rfl); (case q_NoWord_Fault => first | k_is | rfl); (case q_NoWord_NoAddress => first | k_is | rfl)
    (case q_NoWord_NoBounds => first | k_is | rfl); (case q_NoWord_NoOffset => first | k_is | rfl); (case q_NoWord_NoWord => first | k_is | rfl); (case q_ReachError_Cells => first | k_is | rfl); (case q_ReachError_Fault => first | k_is | rfl); (case q_ReachError_NoAddress => first | k_is | rfl)
    (case q_ReachError_NoBounds => first | k_is | rfl); (case q_ReachError_NoOffset => first | k_is | rfl); (case q_ReachError_NoWord => first | k_is | rfl)
