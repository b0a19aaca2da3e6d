import PyProof.Rows.All
import Wide.All
import OpenK.AllK
import Wide.FinOn
import KE.KStateDown
import HandS.Base
import HandS.Call
import HandS.List
import HandS.Comp
import HandS.Dict
import HandS.Iter
import HandS.Walk
import HandS.Exc
import HandS.Text
import HandS.Words
import HandS.Slots
import HandS.WordsExc
import HandS.CallSlots
import HandS.Defaults
import HandS.ExcOwn
import HandS.TupAny
import HandS.Wide
import HandS.Deep
import HandS.Conv
import HandS.IsInst
import HandS.Style
import HandS.RaiseMore
import PyProof.ReprReads
import HandS.Small
import HandS.WordsDict
import HandS.AnyAll
import HandS.ExcIs
import HandS.SlotsOwn
import KE.KExcSuper
import KE.KSuper
import HandS.ExcInit
import HandS.ExcValue
import HandS.ExcField
import HandS.Ends
import HandS.Head0
import HandS.Head1
import HandS.Head2
import HandS.HeadEnd
import HandS.HeadHook1
import HandS.HeadHook2
import PySem.Challenge.RW_queuerings_k00_errors
set_option Elab.async false
set_option linter.all false
set_option maxRecDepth 100000
set_option maxHeartbeats 2000000
/-! Ev1: pure values as trees, a small store of what is mutated, how both stand in the abstract heap. -/
namespace Ev
open PySem PySem.Spec PyProof.Rows L2

/-- pure values -/
inductive P where
  | non | bl (b : Bool) | int (i : Int) | str (x : Str) | ty (n : String) | glb (i : Nat)
  | tup (xs : List P) | lst (xs : List P)
  | dct (kvs : List (Key × P)) | dcT (kvs : List (List Key × P))
  | obj (c : Nat) (fs : List (Str × P))
  | slt (c : Nat) (vs : List P)
  | exc (c : Nat) (v : P)
  deriving Inhabited

/-- what a slot holds: a pure value, or a place of the store -/
inductive D where
  | p (x : P) | ref (l : Nat)
  deriving Inhabited

/-- what stands in the store -/
inductive O where
  | lst (xs : List P) | dct (kvs : List (Key × P)) | dcT (kvs : List (List Key × P))
  | ins (c : Nat) (fs : List (Str × D))
  | fz (x : P)
  deriving Inhabited
abbrev Sto := List O
abbrev Env := List (Option D)

def O.live : O → Bool
  | .fz _ => false
  | _ => true

inductive R (A : Type) where
  | ok (a : A) (s : Sto) | exc (c : Nat) (v : P) (s : Sto) | bad
def R.bind {A B : Type} : R A → (A → Sto → R B) → R B
  | .ok a s, k => k a s
  | .exc c v s, _ => .exc c v s
  | .bad, _ => .bad
@[simp] theorem R.bind_ok {A B : Type} (a : A) (s : Sto) (k : A → Sto → R B) : (R.ok a s).bind k = k a s := rfl

/-- an exception as it stands behind its making, raised or not -/
def ExV (a C dx : Addr) : HO := .ext fun h => ∃ (oe : Obj) (vs : Array Value), h.get? a = some oe ∧ oe.cls = .ref C ∧ oe.dict = some dx ∧ oe.data = .fields vs

/-- the written part, where the text's classes and defs stand -/
structure Tb where
  K : PySem.W.Frag
  ad : Nat → Addr

mutual
inductive RP (T : Tb) (G : Hp) : P → V → Prop
  | non : RP T G .non .non
  | bl (b : Bool) : RP T G (.bl b) (.bl b)
  | int (i : Int) : RP T G (.int i) (.int i)
  | str (x : Str) : RP T G (.str x) (.str x)
  | ty (n : String) : RP T G (.ty n) (.ty n)
  | glb (i : Nat) : RP T G (.glb i) (.ref (T.ad i))
  | tup {xs : List P} {a : Addr} {vs : List V} (h : SqT T.K G a vs) (r : RPs T G xs vs) : RP T G (.tup xs) (.ref a)
  | lst {xs : List P} {a : Addr} {vs : List V} (h : Rd G a (.lst vs)) (r : RPs T G xs vs) : RP T G (.lst xs) (.ref a)
  | dct {kvs : List (Key × P)} {a : Addr} {us : List (Key × V)} (h : Rd G a (.dK us)) (e : us.map Prod.fst = kvs.map Prod.fst) (r : RPs T G (kvs.map Prod.snd) (us.map Prod.snd)) : RP T G (.dct kvs) (.ref a)
  | dcT {kvs : List (List Key × P)} {a : Addr} {us : List (List Key × V)} (h : Rd G a (.dT us)) (e : us.map Prod.fst = kvs.map Prod.fst) (r : RPs T G (kvs.map Prod.snd) (us.map Prod.snd)) : RP T G (.dcT kvs) (.ref a)
  | obj {c : Nat} {fs : List (Str × P)} {a dx : Addr} {us : List (Str × V)} (h : G a = some (.ins (T.ad c) dx us)) (e : us.map Prod.fst = fs.map Prod.fst) (r : RPs T G (fs.map Prod.snd) (us.map Prod.snd)) : RP T G (.obj c fs) (.ref a)
  | slt {c : Nat} {xs : List P} {a dx : Addr} {vs : List V} (h : G a = some (SlX.SlO a (T.ad c) dx (vs.map some))) (hd : G dx = some (.xd [])) (r : RPs T G xs vs) : RP T G (.slt c xs) (.ref a)
  | exc {c : Nat} {x : P} {a dx : Addr} {v : V} (h : G a = some (ExV a (T.ad c) dx)) (hd : G dx = some (.xd [("value", v)])) (r : RP T G x v) : RP T G (.exc c x) (.ref a)
inductive RPs (T : Tb) (G : Hp) : List P → List V → Prop
  | nil : RPs T G [] []
  | cons {x : P} {v : V} {xs : List P} {vs : List V} (h : RP T G x v) (r : RPs T G xs vs) : RPs T G (x :: xs) (v :: vs)
end

def isDc : HO → Bool
  | .dK _ => true
  | .dT _ => true
  | .frz _ u => isDc u
  | _ => false
/-- what stood stands; a dict may have been locked or let go meanwhile -/
structure Ext (G G' : Hp) : Prop where
  keep : ∀ a o, G a = some o → isDc o = false → G' a = some o
  dc : ∀ a u, isDc u = true → Rd G a u → Rd G' a u
theorem Ext.refl (G : Hp) : Ext G G := ⟨fun _ _ h _ => h, fun _ _ _ h => h⟩
theorem Ext.trans {G1 G2 G3 : Hp} (a : Ext G1 G2) (b : Ext G2 G3) : Ext G1 G3 := ⟨fun x o h n => b.keep x o (a.keep x o h n) n, fun x u n h => b.dc x u n (a.dc x u n h)⟩
theorem Ext.same {G G' : Hp} (h : Same G G') : Ext G G' := ⟨fun a o e _ => h a o e, fun a u _ r => r.elim (fun e => .inl (h _ _ e)) fun ⟨o, e⟩ => .inr ⟨o, h _ _ e⟩⟩
theorem Ext.rd {G G' : Hp} (h : Ext G G') {a : Addr} {u : HO} (r : Rd G a u) : Rd G' a u := by
  cases e : isDc u with
  | true => exact h.dc a u e r
  | false =>
    rcases r with q | ⟨o, q⟩
    · exact .inl (h.keep _ _ q e)
    · exact .inr ⟨o, h.keep _ _ q (by unfold isDc; exact e)⟩
theorem Ext.sqL {K : PySem.W.Frag} {G G' : Hp} (h : Ext G G') {a : Addr} {xs : List V} (q : SqL K G a xs) : SqL K G' a xs := q.elim (fun r => .inl (h.rd r)) .inr
theorem Ext.sqT {K : PySem.W.Frag} {G G' : Hp} (h : Ext G G') {a : Addr} {xs : List V} (q : SqT K G a xs) : SqT K G' a xs := q.elim (fun r => .inl (h.rd r)) .inr

mutual
theorem RP.ext {T : Tb} {G G' : Hp} (k : Ext G G') {x : P} {v : V} (h : RP T G x v) : RP T G' x v := match h with
  | .non => .non
  | .bl b => .bl b
  | .int i => .int i
  | .str x => .str x
  | .ty n => .ty n
  | .glb i => .glb i
  | .tup h r => .tup (k.sqT h) (r.ext k)
  | .lst h r => .lst (k.rd h) (r.ext k)
  | .dct h e r => .dct (k.rd h) e (r.ext k)
  | .dcT h e r => .dcT (k.rd h) e (r.ext k)
  | .obj h e r => .obj (k.keep _ _ h rfl) e (r.ext k)
  | .slt h hd r => .slt (k.keep _ _ h rfl) (k.keep _ _ hd rfl) (r.ext k)
  | .exc h hd r => .exc (k.keep _ _ h rfl) (k.keep _ _ hd rfl) (r.ext k)
theorem RPs.ext {T : Tb} {G G' : Hp} (k : Ext G G') {xs : List P} {vs : List V} (h : RPs T G xs vs) : RPs T G' xs vs := match h with
  | .nil => .nil
  | .cons h r => .cons (h.ext k) (r.ext k)
end
section
variable {T : Tb} {G : Hp}
theorem RPs.length {xs : List P} {vs : List V} (h : RPs T G xs vs) : vs.length = xs.length := by
  induction xs generalizing vs with
  | nil => cases h; rfl
  | cons x xs ih => cases h with | cons h r => simp [ih r]
theorem RPs.get {xs : List P} {vs : List V} (h : RPs T G xs vs) {i : Nat} {x : P} (e : xs[i]? = some x) : ∃ v, vs[i]? = some v ∧ RP T G x v := by
  induction xs generalizing vs i with
  | nil => simp at e
  | cons y xs ih =>
    cases h with
    | cons h r =>
      cases i with
      | zero => simp at e; subst e; exact ⟨_, rfl, h⟩
      | succ i => simpa using ih r (by simpa using e)
theorem RPs.getV {xs : List P} {vs : List V} (h : RPs T G xs vs) {i : Nat} {v : V} (e : vs[i]? = some v) : ∃ x, xs[i]? = some x ∧ RP T G x v := by
  induction xs generalizing vs i with
  | nil => cases h; simp at e
  | cons y xs ih =>
    cases h with
    | cons h r =>
      cases i with
      | zero => simp at e; subst e; exact ⟨_, rfl, h⟩
      | succ i => simpa using ih r (by simpa using e)
theorem RPs.append {xs ys : List P} {vs us : List V} (h : RPs T G xs vs) (k : RPs T G ys us) : RPs T G (xs ++ ys) (vs ++ us) := by
  induction xs generalizing vs with
  | nil => cases h; exact k
  | cons x xs ih => cases h with | cons h r => exact .cons h (ih r)
theorem RPs.set {xs : List P} {vs : List V} (h : RPs T G xs vs) {x : P} {v : V} (k : RP T G x v) (i : Nat) : RPs T G (xs.set i x) (vs.set i v) := by
  induction xs generalizing vs i with
  | nil => cases h; exact .nil
  | cons y xs ih =>
    cases h with
    | cons h r =>
      cases i with
      | zero => exact .cons k r
      | succ i => exact .cons h (ih r i)
theorem RPs.drop {xs : List P} {vs : List V} (h : RPs T G xs vs) (n : Nat) : RPs T G (xs.drop n) (vs.drop n) := by
  induction n generalizing xs vs with
  | zero => exact h
  | succ n ih => cases h with
    | nil => exact .nil
    | cons _ r => exact ih r
theorem RPs.take {xs : List P} {vs : List V} (h : RPs T G xs vs) (n : Nat) : RPs T G (xs.take n) (vs.take n) := by
  induction n generalizing xs vs with
  | zero => exact .nil
  | succ n ih => cases h with
    | nil => exact .nil
    | cons h r => exact .cons h (ih r)
theorem RPs.eraseIdx {xs : List P} {vs : List V} (h : RPs T G xs vs) (i : Nat) : RPs T G (xs.eraseIdx i) (vs.eraseIdx i) := by
  induction xs generalizing vs i with
  | nil => cases h; exact .nil
  | cons y xs ih =>
    cases h with
    | cons h r =>
      cases i with
      | zero => exact r
      | succ i => exact .cons h (ih r i)
theorem RPs.reverse {xs : List P} {vs : List V} (h : RPs T G xs vs) : RPs T G xs.reverse vs.reverse := by
  induction xs generalizing vs with
  | nil => cases h; exact .nil
  | cons y xs ih => cases h with | cons h r => rw [List.reverse_cons, List.reverse_cons]; exact (ih r).append (.cons h .nil)
/-- lists of one plain kind -/
theorem RPs.ints : ∀ {ns : List Int} {vs : List V}, RPs T G (ns.map P.int) vs → vs = ns.map V.int
  | [], _, h => by cases h; rfl
  | n :: ns, _, h => by cases h with | cons h r => cases h; rw [RPs.ints r]; rfl
theorem RPs.strs : ∀ {ns : List Str} {vs : List V}, RPs T G (ns.map P.str) vs → vs = ns.map V.str
  | [], _, h => by cases h; rfl
  | n :: ns, _, h => by cases h with | cons h r => cases h; rw [RPs.strs r]; rfl
theorem RPs.bls : ∀ {ns : List Bool} {vs : List V}, RPs T G (ns.map P.bl) vs → vs = ns.map V.bl
  | [], _, h => by cases h; rfl
  | n :: ns, _, h => by cases h with | cons h r => cases h; rw [RPs.bls r]; rfl
theorem RPs.ofInts (ns : List Int) : RPs T G (ns.map P.int) (ns.map V.int) := by
  induction ns with
  | nil => exact .nil
  | cons n ns ih => exact .cons (.int n) ih
theorem RPs.ofStrs (ns : List Str) : RPs T G (ns.map P.str) (ns.map V.str) := by
  induction ns with
  | nil => exact .nil
  | cons n ns ih => exact .cons (.str n) ih
end

/-! ### the store -/
/-- the addresses of what lives in the store -/
def hid : List Addr → Sto → List Addr
  | a :: α, o :: s => if o.live then a :: hid α s else hid α s
  | _, _ => []
def hide (L : List Addr) (H : Hp) : Hp := fun p => if p ∈ L then none else H p
theorem hide_in {L : List Addr} {H : Hp} {p : Addr} (h : p ∈ L) : hide L H p = none := if_pos h
theorem hide_out {L : List Addr} {H : Hp} {p : Addr} (h : p ∉ L) : hide L H p = H p := if_neg h
theorem hide_some {L : List Addr} {H : Hp} {p : Addr} {o : HO} (h : hide L H p = some o) : p ∉ L ∧ H p = some o := by
  by_cases q : p ∈ L
  · rw [hide_in q] at h; cases h
  · rw [hide_out q] at h; exact ⟨q, h⟩
theorem hide_ext (L : List Addr) (H : Hp) : Same (hide L H) H := fun _ _ h => (hide_some h).2
theorem hide_sub {L L' : List Addr} (h : ∀ p ∈ L', p ∈ L) (H : Hp) : Same (hide L H) (hide L' H) := fun p o e => by
  obtain ⟨n, e⟩ := hide_some e
  rw [hide_out fun z => n (h p z)]; exact e
theorem hide_same {L : List Addr} {H H' : Hp} (h : Same H H') : Same (hide L H) (hide L H') := fun p o e => by
  obtain ⟨n, e⟩ := hide_some e
  rw [hide_out n]; exact h _ _ e
@[simp] theorem hide_nil (H : Hp) : hide [] H = H := by funext p; simp [hide]
theorem mem_hid : ∀ {α : List Addr} {s : Sto} {p : Addr}, p ∈ hid α s ↔ ∃ (l : Nat) (o : O), α[l]? = some p ∧ s[l]? = some o ∧ o.live = true
  | [], s, p => by simp [hid]
  | a :: α, [], p => by simp [hid]
  | a :: α, o :: s, p => by
    unfold hid
    constructor
    · intro h
      by_cases q : o.live = true
      · rw [if_pos q] at h
        rcases List.mem_cons.mp h with e | h
        · exact ⟨0, o, by simp [e], by simp, q⟩
        · obtain ⟨l, o', h1, h2, h3⟩ := mem_hid.mp h
          exact ⟨l + 1, o', by simpa using h1, by simpa using h2, h3⟩
      · rw [if_neg q] at h
        obtain ⟨l, o', h1, h2, h3⟩ := mem_hid.mp h
        exact ⟨l + 1, o', by simpa using h1, by simpa using h2, h3⟩
    · rintro ⟨l, o', h1, h2, h3⟩
      cases l with
      | zero =>
        simp at h1 h2
        subst h1; subst h2
        rw [if_pos h3]; exact List.mem_cons_self
      | succ l =>
        have m : p ∈ hid α s := mem_hid.mpr ⟨l, o', by simpa using h1, by simpa using h2, h3⟩
        split
        · exact List.mem_cons_of_mem _ m
        · exact m
/-- the pure part of the heap -/
abbrev pur (Z α : List Addr) (s : Sto) (H : Hp) : Hp := hide (Z ++ hid α s) H
theorem pur_in {Z α : List Addr} {s : Sto} {H : Hp} {p : Addr} (h : p ∈ Z ++ hid α s) : pur Z α s H p = none := if_pos h
theorem pur_out {Z α : List Addr} {s : Sto} {H : Hp} {p : Addr} (h : p ∉ Z ++ hid α s) : pur Z α s H p = H p := if_neg h

inductive RD (T : Tb) (α : List Addr) (G : Hp) : D → V → Prop
  | p {x : P} {v : V} (h : RP T G x v) : RD T α G (.p x) v
  | ref {l : Nat} {a : Addr} (h : α[l]? = some a) : RD T α G (.ref l) (.ref a)
inductive RDs (T : Tb) (α : List Addr) (G : Hp) : List D → List V → Prop
  | nil : RDs T α G [] []
  | cons {x : D} {v : V} {xs : List D} {vs : List V} (h : RD T α G x v) (r : RDs T α G xs vs) : RDs T α G (x :: xs) (v :: vs)
theorem RD.go {T : Tb} {α α' : List Addr} {G G' : Hp} {d : D} {v : V} (h : RD T α G d v) (k : Ext G G') (p : α <+: α') : RD T α' G' d v := by
  cases h with
  | p h => exact .p (h.ext k)
  | ref h =>
    obtain ⟨t, rfl⟩ := p
    refine .ref ?_
    rw [List.getElem?_append_left (List.getElem?_eq_some_iff.mp h).1]; exact h
theorem RDs.go {T : Tb} {α α' : List Addr} {G G' : Hp} {d : List D} {v : List V} (h : RDs T α G d v) (k : Ext G G') (p : α <+: α') : RDs T α' G' d v := by
  induction h with
  | nil => exact .nil
  | cons h r ih => exact .cons (h.go k p) ih
theorem RDs.length {T : Tb} {α : List Addr} {G : Hp} {d : List D} {v : List V} (h : RDs T α G d v) : v.length = d.length := by
  induction h with
  | nil => rfl
  | cons h r ih => simp [ih]

/-- an object of the store, at a -/
def RO (T : Tb) (α : List Addr) (G H : Hp) (a : Addr) : O → Prop
  | .lst xs => ∃ vs, H a = some (.lst vs) ∧ RPs T G xs vs
  | .dct kvs => ∃ us, H a = some (.dK us) ∧ us.map Prod.fst = kvs.map Prod.fst ∧ RPs T G (kvs.map Prod.snd) (us.map Prod.snd)
  | .dcT kvs => ∃ us, H a = some (.dT us) ∧ us.map Prod.fst = kvs.map Prod.fst ∧ RPs T G (kvs.map Prod.snd) (us.map Prod.snd)
  | .ins c fs => ∃ dx us, H a = some (.ins (T.ad c) dx us) ∧ us.map Prod.fst = fs.map Prod.fst ∧ RDs T α G (fs.map Prod.snd) (us.map Prod.snd)
  | .fz x => RP T G x (.ref a)
/-- Z: hidden, and left alone; α: where the store's objects stand -/
structure St (T : Tb) (Z α : List Addr) (H : Hp) (s : Sto) : Prop where
  len : α.length = s.length
  nd : α.Nodup
  dz : ∀ a ∈ α, a ∉ Z
  dom : ∀ a ∈ α, ∃ o, H a = some o
  zdom : ∀ a ∈ Z, ∃ o, H a = some o
  obj : ∀ (l : Nat) a o, α[l]? = some a → s[l]? = some o → RO T α (pur Z α s H) H a o
structure Go (Z α : List Addr) (s : Sto) (H : Hp) (α' : List Addr) (s' : Sto) (H' : Hp) : Prop where
  pre : α <+: α'
  same : Same (pur Z α s H) (pur Z α' s' H')
  zk : ∀ a ∈ Z, H' a = H a
theorem Go.refl (Z α : List Addr) (s : Sto) (H : Hp) : Go Z α s H α s H := ⟨List.prefix_refl _, Same.refl _, fun _ _ => rfl⟩
theorem Go.trans {Z α1 α2 α3 : List Addr} {s1 s2 s3 : Sto} {H1 H2 H3 : Hp} (a : Go Z α1 s1 H1 α2 s2 H2) (b : Go Z α2 s2 H2 α3 s3 H3) : Go Z α1 s1 H1 α3 s3 H3 :=
  ⟨a.pre.trans b.pre, a.same.trans b.same, fun x m => (b.zk x m).trans (a.zk x m)⟩
theorem Go.ext {Z α : List Addr} {s : Sto} {H : Hp} {α' : List Addr} {s' : Sto} {H' : Hp} (g : Go Z α s H α' s' H') : Ext (pur Z α s H) (pur Z α' s' H') := Ext.same g.same
theorem Go.of_same {T : Tb} {Z α : List Addr} {s : Sto} {H H' : Hp} (st : St T Z α H s) (h : Same H H') : Go Z α s H α s H' := ⟨List.prefix_refl _, hide_same h, fun a m => by
  obtain ⟨o, e⟩ := st.zdom a m
  rw [e]; exact h a o e⟩
theorem hid_sub {α : List Addr} {s : Sto} {a : Addr} (h : a ∈ hid α s) : a ∈ α := by
  obtain ⟨l, o1, h1, _⟩ := mem_hid.mp h
  exact List.mem_of_getElem? h1
/-- what stood stands somehow -/
theorem Go.dom {T : Tb} {Z α : List Addr} {s : Sto} {H : Hp} {α' : List Addr} {s' : Sto} {H' : Hp} (g : Go Z α s H α' s' H') (st : St T Z α' H' s') {a : Addr} {o : HO} (h : H a = some o) : ∃ o', H' a = some o' := by
  by_cases z : a ∈ Z
  · exact st.zdom a z
  · by_cases q : a ∈ hid α s
    · exact st.dom a (g.pre.subset (hid_sub q))
    · exact ⟨o, hide_ext _ _ _ _ (g.same a o ((hide_out (by simp [z, q])).trans h))⟩
theorem Go.free {T : Tb} {Z α : List Addr} {s : Sto} {H : Hp} {α' : List Addr} {s' : Sto} {H' : Hp} (g : Go Z α s H α' s' H') (st : St T Z α' H' s') {a : Addr} (h : H' a = none) : H a = none := by
  cases e : H a with
  | none => rfl
  | some o => obtain ⟨o', e'⟩ := g.dom st e; rw [h] at e'; cases e'
theorem RO.mono {T : Tb} {α α' : List Addr} {G G' H H' : Hp} {a : Addr} {o : O} (r : RO T α G H a o) (k : Ext G G') (p : α <+: α') (h : H' a = H a) : RO T α' G' H' a o := by
  cases o with
  | lst xs => obtain ⟨vs, e, r⟩ := r; exact ⟨vs, h.trans e, r.ext k⟩
  | dct xs => obtain ⟨vs, e, q, r⟩ := r; exact ⟨vs, h.trans e, q, r.ext k⟩
  | dcT xs => obtain ⟨vs, e, q, r⟩ := r; exact ⟨vs, h.trans e, q, r.ext k⟩
  | ins c fs => obtain ⟨dx, vs, e, q, r⟩ := r; exact ⟨dx, vs, h.trans e, q, r.go k p⟩
  | fz x => exact (r : RP T G x (.ref a)).ext k
theorem St.same {T : Tb} {Z α : List Addr} {s : Sto} {H H' : Hp} (st : St T Z α H s) (h : Same H H') : St T Z α H' s := by
  refine ⟨st.len, st.nd, st.dz, fun a m => let ⟨o, e⟩ := st.dom a m; ⟨o, h a o e⟩, fun a m => let ⟨o, e⟩ := st.zdom a m; ⟨o, h a o e⟩, fun l a o h1 h2 => ?_⟩
  obtain ⟨u, e⟩ := st.dom a (List.mem_of_getElem? h1)
  exact (st.obj l a o h1 h2).mono (Ext.same (hide_same h)) (List.prefix_refl _) ((h a u e).trans e.symm)
theorem hid_app : ∀ {α : List Addr} {s : Sto}, α.length = s.length → ∀ {p : Addr} {o : O}, o.live = true → hid (α ++ [p]) (s ++ [o]) = hid α s ++ [p]
  | [], [], _, p, o, ho => by simp [hid, ho]
  | [], _ :: _, h, _, _, _ => by simp at h
  | _ :: _, [], h, _, _, _ => by simp at h
  | a :: α, q :: s, h, p, o, ho => by
    have ih := hid_app (α := α) (s := s) (by simpa using h) (p := p) ho
    show (if q.live then a :: hid (α ++ [p]) (s ++ [o]) else hid (α ++ [p]) (s ++ [o])) = _
    rw [ih]
    cases e : q.live <;> simp [hid, e]
/-- an object new at p joins the store: p was free at H0, the rest went from H0 to H with p hidden -/
theorem St.join {T : Tb} {Z α : List Addr} {s : Sto} {H : Hp} {p : Addr} {o : O} {u : HO} (st : St T (p :: Z) α H s) (hp : H p = some u) (ho : o.live = true) (r : RO T α (pur (p :: Z) α s H) H p o) (nz : p ∉ Z) : St T Z (α ++ [p]) H (s ++ [o]) := by
  have na : p ∉ α := fun m => st.dz p m List.mem_cons_self
  have eh : ∀ a, a ∈ Z ++ hid (α ++ [p]) (s ++ [o]) ↔ a ∈ (p :: Z) ++ hid α s := fun a => by rw [hid_app st.len ho]; simp [or_comm, or_assoc, or_left_comm]
  have ep : pur Z (α ++ [p]) (s ++ [o]) H = pur (p :: Z) α s H := by
    funext a
    by_cases q : a ∈ (p :: Z) ++ hid α s
    · rw [pur_in q, pur_in ((eh a).mpr q)]
    · rw [pur_out q, pur_out fun z => q ((eh a).mp z)]
  refine ⟨by simp [st.len], List.nodup_append.mpr ⟨st.nd, by simp, fun a m b mb => by simp at mb; subst mb; exact fun e => na (e ▸ m)⟩, fun a m => ?_, fun a m => ?_, fun a m => st.zdom a (List.mem_cons_of_mem _ m), fun l a q h1 h2 => ?_⟩
  · rcases List.mem_append.mp m with m | m
    · exact fun z => st.dz a m (List.mem_cons_of_mem _ z)
    · simp at m; subst m; exact nz
  · rcases List.mem_append.mp m with m | m
    · exact st.dom a m
    · simp at m; subst m; exact ⟨u, hp⟩
  · rw [ep]
    by_cases hl : l < α.length
    · rw [List.getElem?_append_left hl] at h1
      rw [List.getElem?_append_left (by rw [← st.len]; exact hl)] at h2
      exact (st.obj l a q h1 h2).mono (Ext.refl _) (List.prefix_append _ _) rfl
    · have e1 : l = α.length := by
        have := (List.getElem?_eq_some_iff.mp h1).1
        simp at this; omega
      subst e1
      rw [List.getElem?_append_right (Nat.le_refl _)] at h1
      rw [List.getElem?_append_right (by rw [st.len]; exact Nat.le_refl _)] at h2
      simp [st.len] at h1 h2
      subst h1; subst h2
      exact r.mono (Ext.refl _) (List.prefix_append _ _) rfl
theorem pur_join {Z α : List Addr} {s : Sto} {H : Hp} {p : Addr} {o : O} (len : α.length = s.length) (ho : o.live = true) : pur Z (α ++ [p]) (s ++ [o]) H = pur (p :: Z) α s H := by
  have eh : ∀ a, a ∈ Z ++ hid (α ++ [p]) (s ++ [o]) ↔ a ∈ (p :: Z) ++ hid α s := fun a => by rw [hid_app len ho]; simp [or_comm, or_assoc, or_left_comm]
  funext a
  by_cases q : a ∈ (p :: Z) ++ hid α s
  · rw [pur_in q, pur_in ((eh a).mpr q)]
  · rw [pur_out q, pur_out fun z => q ((eh a).mp z)]
/-- p hidden, at a place that was free -/
theorem St.veil {T : Tb} {Z α : List Addr} {s : Sto} {H : Hp} {p : Addr} {u : HO} (st : St T Z α H s) (hp : H p = none) : St T (p :: Z) α (upd H p u) s ∧ Same (pur Z α s H) (pur (p :: Z) α s (upd H p u)) := by
  have sm : Same H (upd H p u) := fun a o e => by rw [upd_ne (ne_of_none e hp)]; exact e
  have k : Same (pur Z α s H) (pur (p :: Z) α s (upd H p u)) := fun a o e => by
    obtain ⟨n, e⟩ := hide_some e
    have nap : a ≠ p := ne_of_none e hp
    rw [pur_out (by simp at n ⊢; exact ⟨nap, n⟩)]
    exact sm a o e
  refine ⟨⟨st.len, st.nd, fun a m => ?_, fun a m => ?_, fun a m => ?_, fun l a o h1 h2 => ?_⟩, k⟩
  · obtain ⟨o, e⟩ := st.dom a m
    exact fun z => (List.mem_cons.mp z).elim (ne_of_none e hp) (st.dz a m)
  · obtain ⟨o, e⟩ := st.dom a m; exact ⟨o, sm a o e⟩
  · rcases List.mem_cons.mp m with e | m
    · exact ⟨u, by rw [e, upd_same]⟩
    · obtain ⟨o, e⟩ := st.zdom a m; exact ⟨o, sm a o e⟩
  · obtain ⟨o', e⟩ := st.dom a (List.mem_of_getElem? h1)
    exact (st.obj l a o h1 h2).mono (Ext.same k) (List.prefix_refl _) ((sm a o' e).trans e.symm)

/-- the slots -/
structure RE (T : Tb) (α : List Addr) (G : Hp) (env : Env) (σ : L2.St) : Prop where
  len : env.length = σ.length
  get : ∀ (i : Nat) d, env[i]? = some (some d) → ∃ v, σ[i]? = some (some v) ∧ RD T α G d v
theorem RE.go {T : Tb} {α α' : List Addr} {G G' : Hp} {env : Env} {σ : L2.St} (h : RE T α G env σ) (k : Ext G G') (p : α <+: α') : RE T α' G' env σ :=
  ⟨h.len, fun i d e => let ⟨v, e1, r⟩ := h.get i d e; ⟨v, e1, r.go k p⟩⟩
theorem RE.set {T : Tb} {α : List Addr} {G : Hp} {env : Env} {σ : L2.St} (h : RE T α G env σ) {d : D} {v : V} (r : RD T α G d v) (i : Nat) : RE T α G (env.set i (some d)) (σ.set i (some v)) := by
  refine ⟨by simp [h.len], fun j d' e => ?_⟩
  by_cases q : i = j
  · subst q
    have hi : i < env.length := by
      have := (List.getElem?_eq_some_iff.mp e).1
      simpa using this
    rw [List.getElem?_set_self hi] at e
    cases e
    exact ⟨v, List.getElem?_set_self (by rw [← h.len]; exact hi), r⟩
  · rw [List.getElem?_set_ne q] at e
    obtain ⟨u, e1, r1⟩ := h.get j d' e
    exact ⟨u, by rw [List.getElem?_set_ne q]; exact e1, r1⟩
theorem RE.unset {T : Tb} {α : List Addr} {G : Hp} {env : Env} {σ : L2.St} (h : RE T α G env σ) (i : Nat) (o : Option V) : RE T α G (env.set i none) (σ.set i o) := by
  refine ⟨by simp [h.len], fun j d' e => ?_⟩
  by_cases q : i = j
  · subst q
    have hi : i < env.length := by
      have := (List.getElem?_eq_some_iff.mp e).1
      simpa using this
    rw [List.getElem?_set_self hi] at e
    cases e
  · rw [List.getElem?_set_ne q] at e
    obtain ⟨u, e1, r1⟩ := h.get j d' e
    exact ⟨u, by rw [List.getElem?_set_ne q]; exact e1, r1⟩
end Ev

set_option Elab.async false
set_option linter.all false
set_option maxRecDepth 100000
set_option maxHeartbeats 2000000
/-! Ev2: readings of denotations. -/
namespace Ev
open PySem PySem.Spec PyProof.Rows L2

/-- how a result of a denotation stands for a result of the text -/
abbrev Rl (A B : Type) := List Addr → Hp → Hp → A → B → Prop
/-- what follows from a denotation's result -/
def Post {A B : Type} (T : Tb) (Rel : Rl A B) (Z α : List Addr) (s : Sto) (H : Hp) (W : WX) (σ : L2.St) (r : R A) (Q : B → Hp → Prop) : Prop := match r with
  | .ok a s' => ∀ α' H' b, Go Z α s H α' s' H' → St T Z α' H' s' → Rel α' (pur Z α' s' H') H' a b → Q b H'
  | .exc c v s' => ∀ α' H' dd u, Go Z α s H α' s' H' → St T Z α' H' s' → pur Z α' s' H' dd = some (.xd [("value", u)]) → RP T (pur Z α' s' H') v u → W (.ref (T.ad c)) (some dd) σ H'
  | .bad => False
theorem Post.mono {A B : Type} {T : Tb} {Rel : Rl A B} {Z α : List Addr} {s : Sto} {H : Hp} {W : WX} {σ : L2.St} {r : R A} {Q Q' : B → Hp → Prop} (h : Post T Rel Z α s H W σ r Q) (k : ∀ b H, Q b H → Q' b H) : Post T Rel Z α s H W σ r Q' := by
  cases r with
  | ok a s' => exact fun α' H' b g st q => k _ _ (h α' H' b g st q)
  | exc c v s' => exact h
  | bad => exact h
theorem Post.from {A B : Type} {T : Tb} {Rel : Rl A B} {Z α α1 : List Addr} {s s1 : Sto} {H H1 : Hp} {W : WX} {σ : L2.St} {r : R A} {Q : B → Hp → Prop} (h : Post T Rel Z α s H W σ r Q) (g : Go Z α s H α1 s1 H1) : Post T Rel Z α1 s1 H1 W σ r Q := by
  cases r with
  | ok a s' => exact fun α' H' b g' st q => h α' H' b (g.trans g') st q
  | exc c v s' => exact fun α' H' dd u g' st q1 q2 => h α' H' dd u (g.trans g') st q1 q2
  | bad => exact h
/-- one step, then the rest -/
theorem Post.split {A B A' B' : Type} {T : Tb} {Rel : Rl A B} {Rel' : Rl A' B'} {Z α : List Addr} {s : Sto} {H : Hp} {W : WX} {σ : L2.St} {r : R A} {k : A → Sto → R A'} {Q : B' → Hp → Prop} (h : Post T Rel' Z α s H W σ (r.bind k) Q) :
    Post T Rel Z α s H W σ r (fun b H1 => ∃ α1 a s1, r = .ok a s1 ∧ Go Z α s H α1 s1 H1 ∧ St T Z α1 H1 s1 ∧ Rel α1 (pur Z α1 s1 H1) H1 a b ∧ Post T Rel' Z α1 s1 H1 W σ (k a s1) Q) := by
  cases r with
  | ok a s' => exact fun α' H' b g st q => ⟨α', a, s', rfl, g, st, q, Post.from (show Post T Rel' Z α s H W σ (k a s') Q from h) g⟩
  | exc c v s' => exact h
  | bad => exact h
/-- the end: a value that is there -/
theorem Post.done {A B : Type} {T : Tb} {Rel : Rl A B} {Z α : List Addr} {s : Sto} {H : Hp} {W : WX} {σ : L2.St} {a : A} {b : B} {Q : B → Hp → Prop} (h : Post T Rel Z α s H W σ (.ok a s) Q) (st : St T Z α H s) (r : Rel α (pur Z α s H) H a b) : Q b H :=
  h α H b (Go.refl ..) st r
/-- the end: new objects beside -/
theorem Post.done' {A B : Type} {T : Tb} {Rel : Rl A B} {Z α : List Addr} {s : Sto} {H H' : Hp} {W : WX} {σ : L2.St} {a : A} {b : B} {Q : B → Hp → Prop} (h : Post T Rel Z α s H W σ (.ok a s) Q) (st : St T Z α H s) (k : Same H H') (r : Rel α (pur Z α s H') H' a b) : Q b H' :=
  h α H' b (Go.of_same st k) (st.same k) r

abbrev DE := Env → Sto → R D
abbrev DT := Env → Sto → R Bool
abbrev DA := Env → Sto → R (List D)
abbrev relD (T : Tb) : Rl D V := fun α G _ d v => RD T α G d v
abbrev relB : Rl Bool Bool := fun _ _ _ a b => b = a
abbrev relA (T : Tb) : Rl (List D) (List V) := fun α G _ d v => RDs T α G d v
/-- a reading by a denotation -/
def rdG {A B : Type} (T : Tb) (Rel : Rl A B) (W : WX) (f : Env → Sto → R A) : L2.St → Hp → (B → Hp → Prop) → Prop := fun σ H Q => ∃ Z α env s, St T Z α H s ∧ RE T α (pur Z α s H) env σ ∧ Post T Rel Z α s H W σ (f env s) Q
abbrev rd (T : Tb) (W : WX) (f : DE) : TE := rdG T (relD T) W f
abbrev rdT (T : Tb) (W : WX) (f : DT) : TT := rdG T relB W f
abbrev rdA (T : Tb) (W : WX) (f : DA) : TA := rdG T (relA T) W f

theorem _root_.L2.PE.imp {X : Cx} {e : Expr} {t t' : TE} (h : PE X e t) (k : ∀ σ H Q, t' σ H Q → t σ H Q) : PE X e t' := ⟨fun pins s σ H Q I q => h.run pins s σ H Q I (k _ _ _ q)⟩
theorem _root_.L2.PT.imp {X : Cx} {e : Expr} {t t' : TT} (h : PT X e t) (k : ∀ σ H Q, t' σ H Q → t σ H Q) : PT X e t' := ⟨fun pins s σ H Q I q => h.run pins s σ H Q I (k _ _ _ q)⟩
theorem _root_.L2.PW.imp {X : Cx} {e : Expr} {t t' : TT} (h : PW X e t) (k : ∀ σ H Q, t' σ H Q → t σ H Q) : PW X e t' := ⟨fun w pins s σ H Q I q => h.run w pins s σ H Q I (k _ _ _ q)⟩
theorem _root_.L2.PA.imp {X : Cx} {es : List Expr} {t t' : TA} (h : PA X es t) (k : ∀ σ H Q, t' σ H Q → t σ H Q) : PA X es t' := ⟨fun pos pins s σ H Q I q => h.run pos pins s σ H Q I (k _ _ _ q)⟩
theorem _root_.L2.PS.imp {X : Cx} {st : Stmt} {t t' : TS} (h : PS X st t) (k : ∀ D σ H, t' D σ H → t D σ H) : PS X st t' := ⟨fun pins s σ H D I q => h.run pins s σ H D I (k _ _ _ q)⟩
theorem _root_.L2.PSs.imp {X : Cx} {st : List Stmt} {t t' : TS} (h : PSs X st t) (k : ∀ D σ H, t' D σ H → t D σ H) : PSs X st t' := ⟨fun pins s σ H D I q => h.run pins s σ H D I (k _ _ _ q)⟩

/-- a denotation and then another, as readings -/
theorem rdG.split {A B A' B' : Type} {T : Tb} {Rel : Rl A B} {Rel' : Rl A' B'} {W : WX} {f : Env → Sto → R A} {k : Env → A → Sto → R A'} {σ : L2.St} {H : Hp} {Q : B' → Hp → Prop} (h : rdG T Rel' W (fun env s => (f env s).bind (k env)) σ H Q) :
    rdG T Rel W f σ H (fun b H1 => ∃ Z α1 env a s1, St T Z α1 H1 s1 ∧ RE T α1 (pur Z α1 s1 H1) env σ ∧ Rel α1 (pur Z α1 s1 H1) H1 a b ∧ Post T Rel' Z α1 s1 H1 W σ (k env a s1) Q) := by
  obtain ⟨Z, α, env, s, st, re, h⟩ := h
  exact ⟨Z, α, env, s, st, re, (Post.split (Rel := Rel) h).mono fun b H1 ⟨α1, a, s1, _, g, st1, r, q⟩ => ⟨Z, α1, env, a, s1, st1, re.go g.ext g.pre, r, q⟩⟩

section
variable {X : Cx} {T : Tb} {W : WX}

/-! ### names and constants -/
def dVar (i : Nat) : DE := fun env s => match env[i]? with
  | some (some d) => .ok d s
  | _ => .bad
theorem e_var (i : Nat) {x : Str} {pos : Pos} (hN : X.N[i]? = some x := by rfl) (hv : Vis X.env.scope x := by first | exact Or.inl rfl | exact Or.inr (Or.inl rfl) | exact Or.inr (Or.inr rfl)) (hd : (x == ("__debug__" : Str)) = false := by decide)
    (hcd : (x == ("__classdict__" : Str)) = false := by decide) : PE X (.Name x pos) (rd T W (dVar i)) := by
  refine (pe_var hN hv hd hcd).imp fun σ H Q h => ?_
  obtain ⟨Z, α, env, s, st, re, h⟩ := h
  unfold dVar at h
  cases e : env[i]? with
  | none => rw [e] at h; exact h.elim
  | some o =>
    cases o with
    | none => rw [e] at h; exact h.elim
    | some d =>
      rw [e] at h
      obtain ⟨v, e1, r⟩ := re.get i d e
      exact ⟨v, e1, h.done st r⟩
def dC (x : P) : DE := fun _ s => .ok (.p x) s
theorem rd_const {x : P} {v : V} (r : ∀ G, RP T G x v) {σ : L2.St} {H : Hp} {Q : VK} (h : rd T W (dC x) σ H Q) : Q v H := by
  obtain ⟨Z, α, env, s, st, re, h⟩ := h
  exact Post.done (a := D.p x) h st (.p (r _))
theorem e_int {i j pos} : PE X (.Constant (.int i) j pos) (rd T W (dC (.int i))) := pe_int.imp fun _ _ _ h => rd_const (fun _ => .int i) h
theorem e_bl {b j pos} : PE X (.Constant (.bool b) j pos) (rd T W (dC (.bl b))) := pe_bl.imp fun _ _ _ h => rd_const (fun _ => .bl b) h
theorem e_non {j pos} : PE X (.Constant .none j pos) (rd T W (dC .non)) := pe_non.imp fun _ _ _ h => rd_const (fun _ => .non) h
theorem e_str {x j pos} : PE X (.Constant (.str x) j pos) (rd T W (dC (.str x))) := pe_str.imp fun _ _ _ h => rd_const (fun _ => .str x) h
/-- a global of the module: a def, a class, a constant -/
theorem e_glob {x : Str} {y : P} {pos : Pos} (hg : Gl X x) (h : ∃ v u, X.mg x = some u ∧ RelV v u ∧ ∀ G, RP T G y v) (hd : (x == ("__debug__" : Str)) = false := by decide) : PE X (.Name x pos) (rd T W (dC y)) := by
  obtain ⟨v, u, hm, r, q⟩ := h
  exact (pe_glob hg hm r hd).imp fun _ _ _ h => rd_const q h
theorem e_bltn {x : Str} {y : P} {v : V} {u : Value} {pos : Pos} (hg : Gl X x) (hm : X.mg x = none) (hv : bootBuiltins x = some u) (r : RelV v u) (q : ∀ G, RP T G y v) (hn : x ≠ "__name__" := by decide) (hd : (x == ("__debug__" : Str)) = false := by decide) :
    PE X (.Name x pos) (rd T W (dC y)) := (pe_bltn hg hm hv r hn hd).imp fun _ _ _ h => rd_const q h

/-! ### what is read: a place of the store is looked up -/
/-- the value that a slot holds, as it stands -/
def look (s : Sto) : D → Option P
  | .p x => some x
  | .ref l => match s[l]? with
    | some (.lst xs) => some (.lst xs)
    | some (.dct kvs) => some (.dct kvs)
    | some (.dcT kvs) => some (.dcT kvs)
    | some (.fz x) => some x
    | _ => none
/-- as RP, the object itself read off H, what is in it off G -/
def RT (T : Tb) (G H : Hp) (x : P) (v : V) : Prop := RP T G x v ∨ match x with
  | .lst xs => ∃ a vs, v = .ref a ∧ H a = some (.lst vs) ∧ RPs T G xs vs
  | .dct kvs => ∃ a us, v = .ref a ∧ H a = some (.dK us) ∧ us.map Prod.fst = kvs.map Prod.fst ∧ RPs T G (kvs.map Prod.snd) (us.map Prod.snd)
  | .dcT kvs => ∃ a us, v = .ref a ∧ H a = some (.dT us) ∧ us.map Prod.fst = kvs.map Prod.fst ∧ RPs T G (kvs.map Prod.snd) (us.map Prod.snd)
  | _ => False
theorem look_ok {Z α : List Addr} {s : Sto} {H : Hp} {d : D} {v : V} {x : P} (st : St T Z α H s) (r : RD T α (pur Z α s H) d v) (e : look s d = some x) : RT T (pur Z α s H) H x v := by
  cases r with
  | p h =>
    have e' : _ = x := Option.some.inj e
    subst e'
    exact .inl h
  | @ref l a h =>
    dsimp only [look] at e
    cases q : s[l]? with
    | none => rw [q] at e; cases e
    | some o =>
      rw [q] at e
      have ob := st.obj l a o h q
      cases o with
      | lst xs => cases e; obtain ⟨vs, h1, h2⟩ := ob; exact .inr ⟨a, vs, rfl, h1, h2⟩
      | dct xs => cases e; obtain ⟨vs, h1, h2, h3⟩ := ob; exact .inr ⟨a, vs, rfl, h1, h2, h3⟩
      | dcT xs => cases e; obtain ⟨vs, h1, h2, h3⟩ := ob; exact .inr ⟨a, vs, rfl, h1, h2, h3⟩
      | ins c fs => cases e
      | fz y => cases e; exact .inl ob
theorem RT.full {G H : Hp} {x : P} {v : V} (h : RT T G H x v) (k : Same G H) : RP T H x v := by
  rcases h with h | h
  · exact h.ext (Ext.same k)
  · cases x with
    | lst xs => obtain ⟨a, vs, rfl, h1, h2⟩ := h; exact .lst (.inl h1) (h2.ext (Ext.same k))
    | dct xs => obtain ⟨a, vs, rfl, h1, h2, h3⟩ := h; exact .dct (.inl h1) h2 (h3.ext (Ext.same k))
    | dcT xs => obtain ⟨a, vs, rfl, h1, h2, h3⟩ := h; exact .dcT (.inl h1) h2 (h3.ext (Ext.same k))
    | _ => exact h.elim
/-- the items of a list -/
theorem RT.lst {G H : Hp} {xs : List P} {v : V} (h : RT T G H (.lst xs) v) (k : Same G H) : ∃ a vs, v = .ref a ∧ Rd H a (.lst vs) ∧ RPs T G xs vs := by
  rcases h with h | h
  · cases h with | lst h r => exact ⟨_, _, rfl, (Ext.same k).rd h, r⟩
  · obtain ⟨a, vs, e, h1, h2⟩ := h; exact ⟨a, vs, e, .inl h1, h2⟩
theorem RT.tup {G H : Hp} {xs : List P} {v : V} (h : RT T G H (.tup xs) v) (k : Same G H) : ∃ a vs, v = .ref a ∧ SqT T.K H a vs ∧ RPs T G xs vs := by
  rcases h with h | h
  · cases h with | tup h r => exact ⟨_, _, rfl, (Ext.same k).sqT h, r⟩
  · exact h.elim
theorem RT.dct {G H : Hp} {kvs : List (Key × P)} {v : V} (h : RT T G H (.dct kvs) v) (k : Same G H) : ∃ a us, v = .ref a ∧ Rd H a (.dK us) ∧ us.map Prod.fst = kvs.map Prod.fst ∧ RPs T G (kvs.map Prod.snd) (us.map Prod.snd) := by
  rcases h with h | h
  · cases h with | dct h e r => exact ⟨_, _, rfl, (Ext.same k).rd h, e, r⟩
  · obtain ⟨a, vs, e, h1, h2, h3⟩ := h; exact ⟨a, vs, e, .inl h1, h2, h3⟩
theorem RT.dcT {G H : Hp} {kvs : List (List Key × P)} {v : V} (h : RT T G H (.dcT kvs) v) (k : Same G H) : ∃ a us, v = .ref a ∧ Rd H a (.dT us) ∧ us.map Prod.fst = kvs.map Prod.fst ∧ RPs T G (kvs.map Prod.snd) (us.map Prod.snd) := by
  rcases h with h | h
  · cases h with | dcT h e r => exact ⟨_, _, rfl, (Ext.same k).rd h, e, r⟩
  · obtain ⟨a, vs, e, h1, h2, h3⟩ := h; exact ⟨a, vs, e, .inl h1, h2, h3⟩
theorem RT.int {G H : Hp} {i : Int} {v : V} (h : RT T G H (.int i) v) : v = .int i := by
  rcases h with h | h
  · cases h; rfl
  · exact h.elim
theorem RT.str {G H : Hp} {i : Str} {v : V} (h : RT T G H (.str i) v) : v = .str i := by
  rcases h with h | h
  · cases h; rfl
  · exact h.elim
theorem RT.bl {G H : Hp} {i : Bool} {v : V} (h : RT T G H (.bl i) v) : v = .bl i := by
  rcases h with h | h
  · cases h; rfl
  · exact h.elim
theorem RT.non {G H : Hp} {v : V} (h : RT T G H .non v) : v = .non := by
  rcases h with h | h
  · cases h; rfl
  · exact h.elim

/-! ### operations on two values -/
/-- g tells what an operation r gives, new objects beside -/
def Op2 (T : Tb) (r : R2) (g : P → P → Option P) : Prop := ∀ (L : List Addr) (H : Hp) (x y : P) (v w : V) (z : P) (Q : VK), RT T (hide L H) H x v → RT T (hide L H) H y w → (∀ a ∈ L, ∃ o, H a = some o) → g x y = some z →
  (∀ u H', Same H H' → RP T (hide L H') z u → Q u H') → r v w H Q
def op2 (g : P → P → Option P) (d1 d2 : D) (s : Sto) : R D := match look s d1, look s d2 with
  | some x, some y => match g x y with
    | some z => .ok (.p z) s
    | none => .bad
  | _, _ => .bad
def dOp (g : P → P → Option P) (a b : DE) : DE := fun env s => (a env s).bind fun d1 s1 => (b env s1).bind fun d2 s2 => op2 g d1 d2 s2
theorem hid_dom {Z α : List Addr} {s : Sto} {H : Hp} (st : St T Z α H s) : ∀ a ∈ Z ++ hid α s, ∃ o, H a = some o := fun a h => (List.mem_append.mp h).elim (st.zdom a) fun h => st.dom a (hid_sub h)
theorem op2_ok {r : R2} {g : P → P → Option P} (ho : Op2 T r g) {Z α : List Addr} {s : Sto} {H : Hp} {σ : L2.St} {d1 d2 : D} {v w : V} {Q : VK} (st : St T Z α H s) (r1 : RD T α (pur Z α s H) d1 v) (r2 : RD T α (pur Z α s H) d2 w)
    (h : Post T (relD T) Z α s H W σ (op2 g d1 d2 s) Q) : r v w H Q := by
  unfold op2 at h
  cases e1 : look s d1 with
  | none => rw [e1] at h; exact h.elim
  | some x =>
    cases e2 : look s d2 with
    | none => rw [e1, e2] at h; exact h.elim
    | some y =>
      rw [e1, e2] at h
      dsimp only at h
      cases e : g x y with
      | none => rw [e] at h; exact h.elim
      | some z =>
        rw [e] at h
        exact ho (Z ++ hid α s) H x y v w z Q (look_ok st r1 e1) (look_ok st r2 e2) (hid_dom st) e fun u H' k q => Post.done' (a := D.p z) h st k (.p q)
theorem RD.still {Z α : List Addr} {G G' : Hp} {d : D} {v : V} (h : RD T α G d v) (k : Same G G') : RD T α G' d v := h.go (Ext.same k) (List.prefix_refl _)
theorem bin_ok {g : D → D → Sto → R D} {fa fb : DE} {σ : L2.St} {H : Hp} {Q : VK} {R' : V → V → Hp → Prop}
    (h : rd T W (fun env s => (fa env s).bind fun d1 s1 => (fb env s1).bind fun d2 s2 => g d1 d2 s2) σ H Q)
    (k : ∀ {Z α : List Addr} {s : Sto} {H : Hp} {d1 d2 : D} {v w : V}, St T Z α H s → RD T α (pur Z α s H) d1 v → RD T α (pur Z α s H) d2 w → Post T (relD T) Z α s H W σ (g d1 d2 s) Q → R' v w H) :
    rd T W fa σ H fun x H1 => rd T W fb σ H1 fun y H2 => R' x y H2 := by
  obtain ⟨Z, α, env, s, st, re, h⟩ := h
  refine ⟨Z, α, env, s, st, re, (Post.split (Rel := relD T) h).mono fun v H1 ⟨α1, d1, s1, _, g1, st1, r1, h1⟩ => ?_⟩
  refine ⟨Z, α1, env, s1, st1, re.go g1.ext g1.pre, (Post.split (Rel := relD T) h1).mono fun w H2 ⟨α2, d2, s2, _, g2, st2, r2, h2⟩ => ?_⟩
  exact k st2 (r1.go g2.ext g2.pre) r2 h2
theorem e_op {op : Operator} {r : R2} {g : P → P → Option P} {a b : Expr} {fa fb : DE} {pos : Pos} (ho : OpR X (binaryOp op) r) (hg : Op2 T r g) (ha : PE X a (rd T W fa)) (hb : PE X b (rd T W fb)) : PE X (.BinOp a op b pos) (rd T W (dOp g fa fb)) :=
  (pe_op ho ha hb).imp fun _ _ _ h => bin_ok h fun st r1 r2 q => op2_ok hg st r1 r2 q
theorem e_cmp {op : CmpOp} {r : R2} {g : P → P → Option P} {a b : Expr} {fa fb : DE} {pos : Pos} (ho : OpR X (compareOp op) r) (hg : Op2 T r g) (ha : PE X a (rd T W fa)) (hb : PE X b (rd T W fb)) (hm : behindInMarks op b = false) : PE X (.Compare a [op] [b] pos) (rd T W (dOp g fa fb)) :=
  (pe_cmpR ho ha hb hm).imp fun _ _ _ h => bin_ok h fun st r1 r2 q => op2_ok hg st r1 r2 q

/-! ### tests -/
def dTst (f : DE) : DT := fun env s => (f env s).bind fun d s => match d with
  | .p (.bl b) => .ok b s
  | _ => .bad
theorem tst_ok {f : DE} {σ : L2.St} {H : Hp} {Q : Bool → Hp → Prop} (h : rdT T W (dTst f) σ H Q) : rd T W f σ H fun x H1 => ∃ c, x = .bl c ∧ Q c H1 := by
  obtain ⟨Z, α, env, s, st, re, h⟩ := h
  refine ⟨Z, α, env, s, st, re, (Post.split (Rel := relD T) h).mono fun v H1 ⟨α1, d, s1, _, g1, st1, r1, h1⟩ => ?_⟩
  cases d with
  | ref l => exact h1.elim
  | p x =>
    cases x with
    | bl b =>
      cases r1 with | p r1 => cases r1; exact ⟨b, rfl, Post.done (a := b) h1 st1 rfl⟩
    | _ => exact h1.elim
/-- an expression that gives a bool, as a test -/
theorem t_val {e : Expr} {f : DE} (h : PE X e (rd T W f)) (he : ∀ whole, isTrue e X.env whole = (do let v ← whole; standAt e.pos; holding [v] (truthy v)) := by intro _; rfl) : PT X e (rdT T W (dTst f)) :=
  (pt_val h he).imp fun _ _ _ h => tst_ok h
theorem t_cmp {op : CmpOp} {r : R2} {g : P → P → Option P} {a b : Expr} {fa fb : DE} {pos : Pos} (ho : OpR X (compareOp op) r) (hg : Op2 T r g) (ha : PE X a (rd T W fa)) (hb : PE X b (rd T W fb)) (hm : behindInMarks op b = false) : PT X (.Compare a [op] [b] pos) (rdT T W (dTst (dOp g fa fb))) :=
  (pt_cmpR ho ha hb hm).imp fun _ _ _ h => by
    have h := tst_ok h
    exact bin_ok h fun st r1 r2 q => op2_ok hg st r1 r2 q
def dAnd (a b : DT) : DT := fun env s => (a env s).bind fun c s => if c = true then b env s else .ok false s
def dOr (a b : DT) : DT := fun env s => (a env s).bind fun c s => if c = true then .ok true s else b env s
def dNot (a : DT) : DT := fun env s => (a env s).bind fun c s => .ok (!c) s
theorem t_and {a b : Expr} {rest : List Expr} {fa fb : DT} {pos : Pos} (ha : PT X a (rdT T W fa)) (hb : PW X (.BoolOp .And (b :: rest) pos) (rdT T W fb)) : PW X (.BoolOp .And (a :: b :: rest) pos) (rdT T W (dAnd fa fb)) :=
  (pw_and ha hb).imp fun σ H Q h => by
    obtain ⟨Z, α, env, s, st, re, h⟩ := h
    refine ⟨Z, α, env, s, st, re, (Post.split (Rel := relB) h).mono fun c H1 ⟨α1, d, s1, _, g1, st1, r1, h1⟩ => ?_⟩
    subst r1
    cases c with
    | true => rw [if_pos rfl] at h1 ⊢; exact ⟨Z, α1, env, s1, st1, re.go g1.ext g1.pre, h1⟩
    | false => rw [if_neg Bool.false_ne_true] at h1 ⊢; exact Post.done (a := false) h1 st1 rfl
theorem t_or {a b : Expr} {rest : List Expr} {fa fb : DT} {pos : Pos} (ha : PT X a (rdT T W fa)) (hb : PW X (.BoolOp .Or (b :: rest) pos) (rdT T W fb)) : PW X (.BoolOp .Or (a :: b :: rest) pos) (rdT T W (dOr fa fb)) :=
  (pw_or ha hb).imp fun σ H Q h => by
    obtain ⟨Z, α, env, s, st, re, h⟩ := h
    refine ⟨Z, α, env, s, st, re, (Post.split (Rel := relB) h).mono fun c H1 ⟨α1, d, s1, _, g1, st1, r1, h1⟩ => ?_⟩
    subst r1
    cases c with
    | true => rw [if_pos rfl] at h1 ⊢; exact Post.done (a := true) h1 st1 rfl
    | false => rw [if_neg Bool.false_ne_true] at h1 ⊢; exact ⟨Z, α1, env, s1, st1, re.go g1.ext g1.pre, h1⟩
theorem t_not {a : Expr} {fa : DT} {pos : Pos} (ha : PT X a (rdT T W fa)) : PT X (.UnaryOp .Not a pos) (rdT T W (dNot fa)) :=
  (pt_not ha).imp fun σ H Q h => by
    obtain ⟨Z, α, env, s, st, re, h⟩ := h
    refine ⟨Z, α, env, s, st, re, (Post.split (Rel := relB) h).mono fun c H1 ⟨α1, d, s1, _, g1, st1, r1, h1⟩ => ?_⟩
    subst r1
    exact Post.done (a := !c) h1 st1 rfl
/-- and, or, not of bools as values -/
def dB (f : DT) : DE := fun env s => (f env s).bind fun b s => .ok (.p (.bl b)) s
def dAndV (a b : DE) : DE := fun env s => (a env s).bind fun c s => match c with
  | .p (.bl true) => b env s
  | .p (.bl false) => .ok (.p (.bl false)) s
  | _ => .bad
def dOrV (a b : DE) : DE := fun env s => (a env s).bind fun c s => match c with
  | .p (.bl true) => .ok (.p (.bl true)) s
  | .p (.bl false) => b env s
  | _ => .bad
def dNotV (a : DE) : DE := fun env s => (a env s).bind fun c s => match c with
  | .p (.bl c) => .ok (.p (.bl (!c))) s
  | _ => .bad
theorem e_and {a b : Expr} {rest : List Expr} {fa fb : DE} {pos : Pos} (ha : PE X a (rd T W fa)) (hb : PE X (.BoolOp .And (b :: rest) pos) (rd T W fb)) : PE X (.BoolOp .And (a :: b :: rest) pos) (rd T W (dAndV fa fb)) :=
  (pe_and ha hb).imp fun σ H Q h => by
    obtain ⟨Z, α, env, s, st, re, h⟩ := h
    refine ⟨Z, α, env, s, st, re, (Post.split (Rel := relD T) h).mono fun v H1 ⟨α1, d, s1, _, g1, st1, r1, h1⟩ => ?_⟩
    cases r1 with
    | ref _ => exact h1.elim
    | @p x v r =>
      cases r with
      | bl c =>
        refine ⟨c, rfl, ?_⟩
        cases c with
        | true => exact ⟨Z, α1, env, s1, st1, re.go g1.ext g1.pre, h1⟩
        | false => exact Post.done (a := D.p (.bl false)) h1 st1 (.p (.bl false))
      | _ => exact h1.elim
theorem e_or {a b : Expr} {rest : List Expr} {fa fb : DE} {pos : Pos} (ha : PE X a (rd T W fa)) (hb : PE X (.BoolOp .Or (b :: rest) pos) (rd T W fb)) : PE X (.BoolOp .Or (a :: b :: rest) pos) (rd T W (dOrV fa fb)) :=
  (pe_or ha hb).imp fun σ H Q h => by
    obtain ⟨Z, α, env, s, st, re, h⟩ := h
    refine ⟨Z, α, env, s, st, re, (Post.split (Rel := relD T) h).mono fun v H1 ⟨α1, d, s1, _, g1, st1, r1, h1⟩ => ?_⟩
    cases r1 with
    | ref _ => exact h1.elim
    | @p x v r =>
      cases r with
      | bl c =>
        refine ⟨c, rfl, ?_⟩
        cases c with
        | false => exact ⟨Z, α1, env, s1, st1, re.go g1.ext g1.pre, h1⟩
        | true => exact Post.done (a := D.p (.bl true)) h1 st1 (.p (.bl true))
      | _ => exact h1.elim
theorem e_one {op} {a : Expr} {fa : DE} {pos : Pos} (h : PE X a (rd T W fa)) : PE X (.BoolOp op [a] pos) (rd T W fa) := pe_one h
theorem e_not {a : Expr} {fa : DE} {pos : Pos} (ha : PE X a (rd T W fa)) : PE X (.UnaryOp .Not a pos) (rd T W (dNotV fa)) :=
  (pe_not ha).imp fun σ H Q h => by
    obtain ⟨Z, α, env, s, st, re, h⟩ := h
    refine ⟨Z, α, env, s, st, re, (Post.split (Rel := relD T) h).mono fun v H1 ⟨α1, d, s1, _, g1, st1, r1, h1⟩ => ?_⟩
    cases r1 with
    | ref _ => exact h1.elim
    | @p x v r =>
      cases r with
      | bl c => exact ⟨c, rfl, Post.done (a := D.p (.bl (!c))) h1 st1 (.p (.bl _))⟩
      | _ => exact h1.elim
/-- a if t else b -/
def dIf (t : DT) (a b : DE) : DE := fun env s => (t env s).bind fun c s => if c = true then a env s else b env s
theorem e_if {c a b : Expr} {ft : DT} {fa fb : DE} {pos : Pos} (hc : PT X c (rdT T W ft)) (ha : PE X a (rd T W fa)) (hb : PE X b (rd T W fb)) : PE X (.IfExp c a b pos) (rd T W (dIf ft fa fb)) :=
  (pe_ifExp hc ha hb).imp fun σ H Q h => by
    obtain ⟨Z, α, env, s, st, re, h⟩ := h
    refine ⟨Z, α, env, s, st, re, (Post.split (Rel := relB) h).mono fun c H1 ⟨α1, d, s1, _, g1, st1, r1, h1⟩ => ?_⟩
    subst r1
    cases c with
    | true => rw [if_pos rfl] at h1 ⊢; exact ⟨Z, α1, env, s1, st1, re.go g1.ext g1.pre, h1⟩
    | false => rw [if_neg Bool.false_ne_true] at h1 ⊢; exact ⟨Z, α1, env, s1, st1, re.go g1.ext g1.pre, h1⟩

/-! ### argument lists, displays -/
def dNil : DA := fun _ s => .ok [] s
def dCons (a : DE) (r : DA) : DA := fun env s => (a env s).bind fun d s1 => (r env s1).bind fun ds s2 => .ok (d :: ds) s2
theorem a_nil : PA X [] (rdA T W dNil) := pa_nil.imp fun σ H Q h => by
  obtain ⟨Z, α, env, s, st, re, h⟩ := h
  exact Post.done (a := ([] : List D)) h st .nil
theorem a_cons {e : Expr} {es : List Expr} {fa : DE} {fr : DA} (ha : PE X e (rd T W fa)) (hr : PA X es (rdA T W fr)) (hs : starEach (e :: es) X.env = (false, eval e X.env) :: starEach es X.env := by rfl) : PA X (e :: es) (rdA T W (dCons fa fr)) :=
  (pa_cons ha hr hs).imp fun σ H Q h => by
    obtain ⟨Z, α, env, s, st, re, h⟩ := h
    refine ⟨Z, α, env, s, st, re, (Post.split (Rel := relD T) h).mono fun v H1 ⟨α1, d, s1, _, g1, st1, r1, h1⟩ => ?_⟩
    refine ⟨Z, α1, env, s1, st1, re.go g1.ext g1.pre, (Post.split (Rel := relA T) h1).mono fun vs H2 ⟨α2, ds, s2, _, g2, st2, r2, h2⟩ => ?_⟩
    exact Post.done (a := d :: ds) h2 st2 (.cons (r1.go g2.ext g2.pre) r2)
/-- all of them pure -/
def pures : List D → Option (List P)
  | [] => some []
  | .p x :: r => (pures r).map (x :: ·)
  | _ => none
theorem pures_ok {α : List Addr} {G : Hp} : ∀ {ds : List D} {vs : List V} {xs : List P}, RDs T α G ds vs → pures ds = some xs → RPs T G xs vs
  | [], _, xs, h, e => by cases h; cases e; exact .nil
  | .p x :: ds, _, xs, h, e => by
    cases h with
    | cons h r =>
      unfold pures at e
      cases q : pures ds with
      | none => rw [q] at e; cases e
      | some ys =>
        rw [q] at e; cases e
        cases h with | p h => exact .cons h (pures_ok r q)
  | .ref l :: ds, _, xs, h, e => by cases e
def dTup (f : DA) : DE := fun env s => (f env s).bind fun ds s => match pures ds with
  | some xs => if xs.length ≤ 1000 then .ok (.p (.tup xs)) s else .bad
  | none => .bad
theorem same_new {H : Hp} {p : Addr} {o : HO} (h : H p = none) : Same H (upd H p o) := fun a u e => by rw [upd_ne (ne_of_none e h)]; exact e
theorem hide_new {L : List Addr} {H : Hp} {p : Addr} {o : HO} (hL : ∀ a ∈ L, ∃ o, H a = some o) (h : H p = none) : hide L (upd H p o) p = some o := by
  rw [hide_out fun z => ?_, upd_same]
  obtain ⟨u, e⟩ := hL p z
  rw [h] at e; cases e
theorem line1000 {n : Nat} (h : n ≤ 1000) : n ≤ sizeLine := Nat.le_of_lt (small1000 h)
theorem e_tup {es : List Expr} {x1} {f : DA} {pos : Pos} (h : PA X es (rdA T W f)) : PE X (.Tuple es x1 pos) (rd T W (dTup f)) :=
  (pe_tup h).imp fun σ H Q h => by
    obtain ⟨Z, α, env, s, st, re, h⟩ := h
    refine ⟨Z, α, env, s, st, re, (Post.split (Rel := relA T) h).mono fun vs H1 ⟨α1, ds, s1, _, g1, st1, r1, h1⟩ => ?_⟩
    cases e : pures ds with
    | none => rw [e] at h1; exact h1.elim
    | some xs =>
      rw [e] at h1
      dsimp only at h1
      have r := pures_ok r1 e
      by_cases q : xs.length ≤ 1000
      · rw [if_pos q] at h1
        refine ⟨by rw [r.length]; exact line1000 q, fun p np => ?_⟩
        exact Post.done' (a := D.p (.tup xs)) h1 st1 (same_new np) (.p (.tup (.of (hide_new (hid_dom st1) np)) (r.ext (Ext.same (hide_same (same_new np))))))
      · rw [if_neg q] at h1; exact h1.elim
/-! ### new objects: first as a place of the store, then perhaps as a value -/
/-- what a making gives stands at the store's end -/
def dNew (f : Env → Sto → R O) : DE := fun env s => (f env s).bind fun o s => .ok (.ref s.length) (s ++ [o])
end
end Ev

set_option Elab.async false
set_option linter.all false
set_option maxRecDepth 100000
set_option maxHeartbeats 2000000
/-! Ev3: new lists, statements, defs and their calls. -/
namespace Ev
open PySem PySem.Spec PyProof.Rows L2
section
variable {X : Cx} {T : Tb} {W : WX}
/-- a new object at a free place joins the store -/
theorem St.new {Z α : List Addr} {s : Sto} {H : Hp} {p : Addr} {o : O} {u : HO} (st : St T Z α H s) (hp : H p = none) (ho : o.live = true) (r : ∀ G', Ext (pur Z α s H) G' → RO T α G' (upd H p u) p o) :
    St T Z (α ++ [p]) (upd H p u) (s ++ [o]) ∧ Go Z α s H (α ++ [p]) (s ++ [o]) (upd H p u) := by
  obtain ⟨sv, k⟩ := st.veil (u := u) hp
  have nz : p ∉ Z := fun m => by obtain ⟨q, e⟩ := st.zdom p m; rw [hp] at e; cases e
  have sj := sv.join (o := o) upd_same ho (r _ (Ext.same k)) nz
  refine ⟨sj, List.prefix_append _ _, ?_, fun a m => upd_ne fun e => nz (e ▸ m)⟩
  rw [pur_join st.len ho]
  exact k
def mkL (f : DA) : Env → Sto → R O := fun env s => (f env s).bind fun ds s => match pures ds with
  | some xs => if xs.length ≤ 1000 then .ok (.lst xs) s else .bad
  | none => .bad
theorem ref_last {α : List Addr} {G : Hp} {p : Addr} {n : Nat} (h : α.length = n) : RD T (α ++ [p]) G (.ref n) (.ref p) := .ref (by subst h; simp)
theorem e_lstN {es : List Expr} {f : DA} {pos : Pos} (h : PA X es (rdA T W f)) : PE X (.List es pos) (rd T W (dNew (mkL f))) :=
  (pe_lst h).imp fun σ H Q h => by
    obtain ⟨Z, α, env, s, st, re, h⟩ := h
    have h' : Post T (relD T) Z α s H W σ ((f env s).bind fun ds s => (match pures ds with
      | some xs => if xs.length ≤ 1000 then R.ok (O.lst xs) s else .bad
      | none => .bad).bind fun o s => .ok (.ref s.length) (s ++ [o])) Q := by
      have e : dNew (mkL f) env s = _ := rfl
      rw [e] at h
      unfold dNew mkL at h
      cases q : f env s <;> rw [q] at h <;> exact h
    refine ⟨Z, α, env, s, st, re, (Post.split (Rel := relA T) h').mono fun vs H1 ⟨α1, ds, s1, _, g1, st1, r1, h1⟩ => ?_⟩
    cases e : pures ds with
    | none => rw [e] at h1; exact h1.elim
    | some xs =>
      rw [e] at h1
      dsimp only at h1
      have r := pures_ok r1 e
      by_cases q : xs.length ≤ 1000
      · rw [if_pos q] at h1
        refine ⟨by rw [r.length]; exact line1000 q, fun p np => ?_⟩
        obtain ⟨sn, gn⟩ := st1.new (o := .lst xs) (u := .lst vs) np rfl fun G' k => ⟨vs, upd_same, r.ext k⟩
        exact h1 (α1 ++ [p]) _ _ gn sn (ref_last st1.len)
      · rw [if_neg q] at h1; exact h1.elim
/-- no field of the store's instances leads beyond n -/
def shutD (n : Nat) : D → Bool
  | .ref l => decide (l < n)
  | .p _ => true
def shutO (n : Nat) : O → Bool
  | .ins _ fs => fs.all fun f => shutD n f.2
  | _ => true
def shut (n : Nat) (s : Sto) : Bool := s.all (shutO n)
theorem RDs.cut {α β : List Addr} {G : Hp} : ∀ {ds : List D} {vs : List V}, RDs T α G ds vs → β <+: α → (∀ d ∈ ds, shutD β.length d = true) → RDs T β G ds vs
  | [], _, h, _, _ => by cases h; exact .nil
  | d :: ds, _, h, pr, c => by
    cases h with
    | cons h r =>
      refine .cons ?_ (RDs.cut r pr fun d m => c d (List.mem_cons_of_mem _ m))
      cases h with
      | p h => exact .p h
      | @ref l a h =>
        have hl : l < β.length := of_decide_eq_true (c (.ref l) List.mem_cons_self)
        obtain ⟨t, rfl⟩ := pr
        rw [List.getElem?_append_left hl] at h
        exact .ref h
theorem RO.cut {α β : List Addr} {G G' H : Hp} {a : Addr} {o : O} (r : RO T α G H a o) (k : Ext G G') (pr : β <+: α) (c : shutO β.length o = true) : RO T β G' H a o := by
  cases o with
  | lst xs => obtain ⟨vs, e, r⟩ := r; exact ⟨vs, e, r.ext k⟩
  | dct xs => obtain ⟨vs, e, q, r⟩ := r; exact ⟨vs, e, q, r.ext k⟩
  | dcT xs => obtain ⟨vs, e, q, r⟩ := r; exact ⟨vs, e, q, r.ext k⟩
  | ins c' fs =>
    obtain ⟨dx, vs, e, q, r⟩ := r
    refine ⟨dx, vs, e, q, (r.go k (List.prefix_refl _)).cut pr fun d m => ?_⟩
    obtain ⟨f, mf, e⟩ := List.mem_map.mp m
    exact e ▸ List.all_eq_true.mp (show (fs.all fun f => shutD β.length f.2) = true from c) f mf
  | fz x => exact (r : RP T G x (.ref a)).ext k
/-- only the first n objects are kept -/
theorem St.take {Z α : List Addr} {s : Sto} {H : Hp} {n : Nat} (st : St T Z α H s) (hn : n ≤ s.length) (c : shut n (s.take n) = true) : St T Z (α.take n) H (s.take n) ∧ Same (pur Z α s H) (pur Z (α.take n) (s.take n) H) ∧ ∀ l a, n ≤ l → α[l]? = some a → a ∉ Z ++ hid (α.take n) (s.take n) := by
  have ha : n ≤ α.length := by rw [st.len]; exact hn
  have lt : (α.take n).length = n := by simp; omega
  have sub : ∀ a, a ∈ hid (α.take n) (s.take n) → a ∈ hid α s := fun a m => by
    obtain ⟨l, q, h1, h2, h3⟩ := mem_hid.mp m
    have hl : l < n := by have := (List.getElem?_eq_some_iff.mp h1).1; rw [lt] at this; exact this
    rw [List.getElem?_take_of_lt hl] at h1 h2
    exact mem_hid.mpr ⟨l, q, h1, h2, h3⟩
  have k : Same (pur Z α s H) (pur Z (α.take n) (s.take n) H) := hide_sub (fun a m => by
    rcases List.mem_append.mp m with m | m
    · exact List.mem_append_left _ m
    · exact List.mem_append_right _ (sub a m)) H
  have tk : ∀ a, a ∈ α.take n → a ∈ α := fun a m => List.mem_of_mem_take m
  refine ⟨⟨by simp [st.len], st.nd.sublist (List.take_sublist _ _), fun a m => st.dz a (tk a m), fun a m => st.dom a (tk a m), st.zdom, fun l a q h1 h2 => ?_⟩, k, fun l a hl h1 m => ?_⟩
  · have hl : l < n := by have := (List.getElem?_eq_some_iff.mp h1).1; rw [lt] at this; exact this
    have mq : q ∈ s.take n := List.mem_of_getElem? h2
    rw [List.getElem?_take_of_lt hl] at h1 h2
    exact (st.obj l a q h1 h2).cut (Ext.same k) (List.take_prefix _ _) (by rw [lt]; exact List.all_eq_true.mp c q mq)
  · rcases List.mem_append.mp m with m | m
    · exact st.dz a (List.mem_of_getElem? h1) m
    · obtain ⟨j, q, e1, _⟩ := mem_hid.mp m
      have hj : j < n := by have := (List.getElem?_eq_some_iff.mp e1).1; rw [lt] at this; exact this
      rw [List.getElem?_take_of_lt hj] at e1
      have ll := (List.getElem?_eq_some_iff.mp h1).1
      have e2 : α[j]? = α[l]? := e1.trans h1.symm
      have := (List.getElem?_inj (i := j) (j := l) (by omega) st.nd).mp e2
      omega
/-- a store's object as a value -/
def O.pur : O → Option P
  | .lst xs => some (.lst xs)
  | .dct kvs => some (.dct kvs)
  | .dcT kvs => some (.dcT kvs)
  | .ins c fs => (pures (fs.map Prod.snd)).map fun xs => .obj c ((fs.map Prod.fst).zip xs)
  | .fz x => some x
theorem zip_fst {A B : Type} : ∀ {xs : List A} {ys : List B}, xs.length = ys.length → (xs.zip ys).map Prod.fst = xs
  | [], [], _ => rfl
  | x :: xs, y :: ys, h => by simp [zip_fst (xs := xs) (ys := ys) (by simpa using h)]
theorem zip_snd {A B : Type} : ∀ {xs : List A} {ys : List B}, xs.length = ys.length → (xs.zip ys).map Prod.snd = ys
  | [], [], _ => rfl
  | x :: xs, y :: ys, h => by simp [zip_snd (xs := xs) (ys := ys) (by simpa using h)]
theorem pures_len : ∀ {ds : List D} {xs : List P}, pures ds = some xs → xs.length = ds.length
  | [], _, e => by cases e; rfl
  | .p x :: ds, xs, e => by
    unfold pures at e
    cases q : pures ds with
    | none => rw [q] at e; cases e
    | some ys => rw [q] at e; cases e; simp [pures_len q]
  | .ref l :: ds, _, e => by cases e
/-- an object that is not hidden any more stands as a value -/
theorem RO.value {α : List Addr} {G G' H : Hp} {a : Addr} {o : O} {x : P} (r : RO T α G H a o) (k : Ext G G') (v : G' a = H a) (e : o.pur = some x) : RP T G' x (.ref a) := by
  cases o with
  | lst xs => cases e; obtain ⟨vs, h, r⟩ := r; exact .lst (.inl (v.trans h)) (r.ext k)
  | dct xs => cases e; obtain ⟨vs, h, q, r⟩ := r; exact .dct (.inl (v.trans h)) q (r.ext k)
  | dcT xs => cases e; obtain ⟨vs, h, q, r⟩ := r; exact .dcT (.inl (v.trans h)) q (r.ext k)
  | ins c fs =>
    obtain ⟨dx, us, h, q, r⟩ := r
    have e' : (pures (fs.map Prod.snd)).map (fun xs => P.obj c ((fs.map Prod.fst).zip xs)) = some x := e
    cases p : pures (fs.map Prod.snd) with
    | none => rw [p] at e'; cases e'
    | some xs =>
      rw [p] at e'; cases e'
      have hl : (fs.map Prod.fst).length = xs.length := by rw [pures_len p]; simp
      exact .obj (v.trans h) (by rw [zip_fst hl]; exact q) (by rw [zip_snd hl]; exact (pures_ok r p).ext k)
  | fz y => cases e; exact (r : RP T G x (.ref a)).ext k

/-- only what stood ahead is kept; a new object that is handed back is a value from now on -/
def cutD (n : Nat) (d : D) (s : Sto) : R D := if n ≤ s.length && shut n (s.take n) then (match d with
    | .p x => .ok (.p x) (s.take n)
    | .ref l => if l < n then .ok (.ref l) (s.take n) else match s[l]?.bind O.pur with
      | some x => .ok (.p x) (s.take n)
      | none => .bad) else .bad
theorem cutD_ok {Z α α' : List Addr} {s s' : Sto} {H H' : Hp} {σ : L2.St} {d : D} {v : V} {Q : VK} (st : St T Z α H s) (g : Go Z α s H α' s' H') (st' : St T Z α' H' s') (r : RD T α' (pur Z α' s' H') d v) (h : Post T (relD T) Z α s H W σ (cutD s.length d s') Q) : Q v H' := by
  unfold cutD at h
  by_cases c : (decide (s.length ≤ s'.length) && shut s.length (s'.take s.length)) = true
  · rw [if_pos c] at h
    obtain ⟨c1, c2⟩ := Bool.and_eq_true_iff.mp c
    obtain ⟨t1, t2, t3⟩ := st'.take (of_decide_eq_true c1) c2
    have ea : α'.take s.length = α := by
      obtain ⟨w, rfl⟩ := g.pre
      rw [← st.len]; simp
    rw [ea] at t1 t2 t3
    have g' : Go Z α s H α (s'.take s.length) H' := ⟨List.prefix_refl _, g.same.trans t2, g.zk⟩
    cases r with
    | p r => exact h α H' v g' t1 (.p (r.ext (Ext.same t2)))
    | @ref l a r =>
      dsimp only at h
      by_cases q : l < s.length
      · rw [if_pos q] at h
        refine h α H' _ g' t1 (.ref ?_)
        obtain ⟨w, rfl⟩ := g.pre
        rw [List.getElem?_append_left (by rw [st.len]; exact q)] at r
        exact r
      · rw [if_neg q] at h
        cases e : s'[l]? with
        | none => rw [e] at h; exact h.elim
        | some o =>
          rw [e] at h
          cases e2 : o.pur with
          | none => rw [Option.bind_some, e2] at h; exact h.elim
          | some x =>
            rw [Option.bind_some, e2] at h
            have vis := t3 l a (by omega) r
            exact h α H' _ g' t1 (.p ((st'.obj l a o r e).value (Ext.same t2) (pur_out vis) e2))
  · rw [if_neg c] at h; exact h.elim
/-- a new object as a value -/
def dVal (f : DE) : DE := fun env s => (f env s).bind fun d s' => cutD s.length d s'
theorem e_val {e : Expr} {f : DE} (h : PE X e (rd T W f)) : PE X e (rd T W (dVal f)) := h.imp fun σ H Q h => by
  obtain ⟨Z, α, env, s, st, re, h⟩ := h
  refine ⟨Z, α, env, s, st, re, ?_⟩
  unfold dVal at h
  cases q : f env s with
  | ok d s' =>
    rw [q] at h
    have h' : Post T (relD T) Z α s H W σ (cutD s.length d s') Q := h
    exact fun α' H' v g st' r => cutD_ok st g st' r h'
  | exc c v s' => rw [q] at h; exact h
  | bad => rw [q] at h; exact h
end
end Ev

set_option Elab.async false
set_option linter.all false
set_option maxRecDepth 100000
set_option maxHeartbeats 2000000
/-! Ev4: statements. -/
namespace Ev
open PySem PySem.Spec PyProof.Rows L2
inductive RS where
  | nx (env : Env) (s : Sto) | rt (d : D) (s : Sto) | bk (env : Env) (s : Sto) | ct (env : Env) (s : Sto)
  | exc (c : Nat) (v : P) (env : Env) (s : Sto) | bad
abbrev DS := Env → Sto → RS
def R.bindS {A : Type} (env : Env) : R A → (A → Sto → RS) → RS
  | .ok a s, k => k a s
  | .exc c v s, _ => .exc c v env s
  | .bad, _ => .bad
@[simp] theorem R.bindS_ok {A : Type} (env : Env) (a : A) (s : Sto) (k : A → Sto → RS) : (R.ok a s).bindS env k = k a s := rfl
def RS.bind : RS → (Env → Sto → RS) → RS
  | .nx env s, k => k env s
  | r, _ => r
@[simp] theorem RS.bind_nx (env : Env) (s : Sto) (k : Env → Sto → RS) : (RS.nx env s).bind k = k env s := rfl
def PostS (T : Tb) (Z α : List Addr) (s : Sto) (H : Hp) (W : WX) (r : RS) (D : Ends) : Prop := match r with
  | .nx env' s' => ∀ α' H' σ', Go Z α s H α' s' H' → St T Z α' H' s' → RE T α' (pur Z α' s' H') env' σ' → D.nx σ' H'
  | .rt d s' => ∀ α' H' v, Go Z α s H α' s' H' → St T Z α' H' s' → RD T α' (pur Z α' s' H') d v → D.rt v H'
  | .bk env' s' => ∀ α' H' σ', Go Z α s H α' s' H' → St T Z α' H' s' → RE T α' (pur Z α' s' H') env' σ' → D.bk σ' H'
  | .ct env' s' => ∀ α' H' σ', Go Z α s H α' s' H' → St T Z α' H' s' → RE T α' (pur Z α' s' H') env' σ' → D.ct σ' H'
  | .exc c v env' s' => ∀ α' H' σ' dd u, Go Z α s H α' s' H' → St T Z α' H' s' → RE T α' (pur Z α' s' H') env' σ' → pur Z α' s' H' dd = some (.xd [("value", u)]) → RP T (pur Z α' s' H') v u → W (.ref (T.ad c)) (some dd) σ' H'
  | .bad => False
def rdS (T : Tb) (W : WX) (f : DS) : TS := fun D σ H => ∃ Z α env s, St T Z α H s ∧ RE T α (pur Z α s H) env σ ∧ PostS T Z α s H W (f env s) D
section
variable {X : Cx} {T : Tb} {W : WX}
theorem PostS.from {Z α α1 : List Addr} {s s1 : Sto} {H H1 : Hp} {r : RS} {D : Ends} (h : PostS T Z α s H W r D) (g : Go Z α s H α1 s1 H1) : PostS T Z α1 s1 H1 W r D := by
  cases r with
  | nx _ _ => exact fun α' H' σ' g' => h α' H' σ' (g.trans g')
  | bk _ _ => exact fun α' H' σ' g' => h α' H' σ' (g.trans g')
  | ct _ _ => exact fun α' H' σ' g' => h α' H' σ' (g.trans g')
  | rt _ _ => exact fun α' H' σ' g' => h α' H' σ' (g.trans g')
  | exc _ _ _ _ => exact fun α' H' σ' dd u g' => h α' H' σ' dd u (g.trans g')
  | bad => exact h
theorem PostS.mono {Z α : List Addr} {s : Sto} {H : Hp} {r : RS} {D D' : Ends} (h : PostS T Z α s H W r D) (k1 : ∀ σ H, D.nx σ H → D'.nx σ H) (k2 : ∀ v H, D.rt v H → D'.rt v H) (k3 : ∀ σ H, D.bk σ H → D'.bk σ H) (k4 : ∀ σ H, D.ct σ H → D'.ct σ H) : PostS T Z α s H W r D' := by
  cases r with
  | nx _ _ => exact fun α' H' σ' g' st re => k1 _ _ (h α' H' σ' g' st re)
  | bk _ _ => exact fun α' H' σ' g' st re => k3 _ _ (h α' H' σ' g' st re)
  | ct _ _ => exact fun α' H' σ' g' st re => k4 _ _ (h α' H' σ' g' st re)
  | rt _ _ => exact fun α' H' σ' g' st re => k2 _ _ (h α' H' σ' g' st re)
  | exc _ _ _ _ => exact h
  | bad => exact h
/-- an expression, then the rest -/
theorem PostS.exp {A B : Type} {Rel : Rl A B} {Z α : List Addr} {s : Sto} {H : Hp} {σ : L2.St} {env : Env} {r : R A} {k : A → Sto → RS} {D : Ends} (re : RE T α (pur Z α s H) env σ) (h : PostS T Z α s H W (r.bindS env k) D) :
    Post T Rel Z α s H W σ r (fun b H1 => ∃ α1 a s1, r = .ok a s1 ∧ Go Z α s H α1 s1 H1 ∧ St T Z α1 H1 s1 ∧ Rel α1 (pur Z α1 s1 H1) H1 a b ∧ RE T α1 (pur Z α1 s1 H1) env σ ∧ PostS T Z α1 s1 H1 W (k a s1) D) := by
  cases r with
  | ok a s' => exact fun α' H' b g st q => ⟨α', a, s', rfl, g, st, q, re.go g.ext g.pre, PostS.from (show PostS T Z α s H W (k a s') D from h) g⟩
  | exc c v s' => exact fun α' H' dd u g st q1 q2 => (show ∀ α' H' σ' dd u, Go Z α s H α' s' H' → St T Z α' H' s' → RE T α' (pur Z α' s' H') env σ' → _ → _ → _ from h) α' H' σ dd u g st (re.go g.ext g.pre) q1 q2
  | bad => exact h
theorem PostS.here {Z α : List Addr} {s : Sto} {H : Hp} {σ : L2.St} {env : Env} {D : Ends} (st : St T Z α H s) (re : RE T α (pur Z α s H) env σ) (h : PostS T Z α s H W (.nx env s) D) : D.nx σ H := h α H σ (Go.refl ..) st re

/-! ### blocks -/
def dSeq (a b : DS) : DS := fun env s => (a env s).bind b
def dNx : DS := fun env s => .nx env s
theorem ss_nil : PSs X [] (rdS T W dNx) := pss_nil.imp fun D σ H ⟨Z, α, env, s, st, re, h⟩ => PostS.here st re h
theorem ss_cons {st : Stmt} {rest : List Stmt} {a b : DS} (h1 : PS X st (rdS T W a)) (h2 : PSs X rest (rdS T W b)) : PSs X (st :: rest) (rdS T W (dSeq a b)) :=
  (pss_cons h1 h2).imp fun D σ H ⟨Z, α, env, s, st, re, h⟩ => by
    refine ⟨Z, α, env, s, st, re, ?_⟩
    have h' : PostS T Z α s H W ((a env s).bind b) D := h
    cases q : a env s with
    | nx env1 s1 =>
      rw [q] at h'
      exact fun α' H' σ' g st' re' => ⟨Z, α', env1, s1, st', re', PostS.from (show PostS T Z α s H W (b env1 s1) D from h') g⟩
    | rt d s1 => rw [q] at h'; exact h'
    | bk d s1 => rw [q] at h'; exact h'
    | ct d s1 => rw [q] at h'; exact h'
    | exc c v d s1 => rw [q] at h'; exact h'
    | bad => rw [q] at h'; exact h'
theorem ss_one {st : Stmt} {a : DS} (h1 : PS X st (rdS T W a)) : PSs X [st] (rdS T W a) := pss_one h1
theorem s_pass {pos : Pos} : PS X (.Pass pos) (rdS T W dNx) := ps_pass.imp fun D σ H ⟨Z, α, env, s, st, re, h⟩ => PostS.here st re h
def dBk : DS := fun env s => .bk env s
def dCt : DS := fun env s => .ct env s
theorem s_break {pos : Pos} : PS X (.Break pos) (rdS T W dBk) := ps_break.imp fun D σ H ⟨Z, α, env, s, st, re, h⟩ => h α H σ (Go.refl ..) st re
theorem s_cont {pos : Pos} : PS X (.Continue pos) (rdS T W dCt) := ps_continue.imp fun D σ H ⟨Z, α, env, s, st, re, h⟩ => h α H σ (Go.refl ..) st re
/-! ### small statements -/
def dExp (f : DE) : DS := fun env s => (f env s).bindS env fun _ s => .nx env s
theorem s_expr {e : Expr} {f : DE} {pos : Pos} (he : PE X e (rd T W f)) (hs : swapsWith e none pos.line X.env = pure false := by rfl) : PS X (.Expr e pos) (rdS T W (dExp f)) :=
  (ps_expr he hs).imp fun D σ H ⟨Z, α, env, s, st, re, h⟩ => ⟨Z, α, env, s, st, re, (PostS.exp (Rel := relD T) re h).mono fun v H1 ⟨α1, d, s1, _, g1, st1, r1, re1, h1⟩ => PostS.here st1 re1 h1⟩
def dRet (f : DE) : DS := fun env s => (f env s).bindS env fun d s => .rt d s
theorem s_ret {e : Expr} {f : DE} {pos : Pos} (he : PE X e (rd T W f)) : PS X (.Return (some e) pos) (rdS T W (dRet f)) :=
  (ps_ret he).imp fun D σ H ⟨Z, α, env, s, st, re, h⟩ => ⟨Z, α, env, s, st, re, (PostS.exp (Rel := relD T) re h).mono fun v H1 ⟨α1, d, s1, _, g1, st1, r1, re1, h1⟩ => h1 α1 H1 v (Go.refl ..) st1 r1⟩
def dRetN : DS := fun _ s => .rt (.p .non) s
theorem s_retN {pos : Pos} : PS X (.Return none pos) (rdS T W dRetN) := ps_retN.imp fun D σ H ⟨Z, α, env, s, st, re, h⟩ => h α H _ (Go.refl ..) st (.p .non)
def dSIf (c : DT) (a b : DS) : DS := fun env s => (c env s).bindS env fun k s => if k = true then a env s else b env s
theorem s_if {c : Expr} {a b : List Stmt} {fc : DT} {fa fb : DS} {pos : Pos} (hc : PT X c (rdT T W fc)) (ha : PSs X a (rdS T W fa)) (hb : PSs X b (rdS T W fb)) : PS X (.If c a b pos) (rdS T W (dSIf fc fa fb)) :=
  (ps_if hc ha hb).imp fun D σ H ⟨Z, α, env, s, st, re, h⟩ => ⟨Z, α, env, s, st, re, (PostS.exp (Rel := relB) re h).mono fun k H1 ⟨α1, d, s1, _, g1, st1, r1, re1, h1⟩ => by
    subst r1
    cases k with
    | true => rw [if_pos rfl] at h1 ⊢; exact ⟨Z, α1, env, s1, st1, re1, h1⟩
    | false => rw [if_neg Bool.false_ne_true] at h1 ⊢; exact ⟨Z, α1, env, s1, st1, re1, h1⟩⟩
/-! ### targets -/
abbrev DG := D → Env → Option Env
/-- the target's reading follows from its denotation; vs: the slots that it may store into -/
def TgtOk (T : Tb) (g : TG) (t : DG) (vs : List Nat) : Prop := ∀ (Z α : List Addr) (s : Sto) (H : Hp) (env env' : Env) (σ : L2.St) (d : D) (v : V) (Q : L2.St → Hp → Prop), St T Z α H s → RE T α (pur Z α s H) env σ → RD T α (pur Z α s H) d v → t d env = some env' →
  (∀ σ', RE T α (pur Z α s H) env' σ' → (∀ ws, (∀ i ∈ vs, i ∈ ws) → wipe σ' ws = wipe σ ws) → Q σ' H) → g v σ H Q
theorem wipe_get (σ : L2.St) : ∀ (vs : List Nat) (i : Nat), i < σ.length → (wipe σ vs)[i]? = if i ∈ vs then some none else σ[i]?
  | [], i, _ => by simp [wipe]
  | v :: vs, i, h => by
    unfold wipe
    by_cases q : v = i
    · subst q
      rw [List.getElem?_set_self (by rw [wipe_length]; exact h), if_pos List.mem_cons_self]
    · rw [List.getElem?_set_ne q, wipe_get σ vs i h]
      have e : (i ∈ v :: vs) ↔ i ∈ vs := by simp [Ne.symm q]
      by_cases m : i ∈ vs
      · rw [if_pos m, if_pos (e.mpr m)]
      · rw [if_neg m, if_neg fun z => m (e.mp z)]
theorem wipe_set {σ : L2.St} {i : Nat} {o : Option V} {ws : List Nat} (h : i ∈ ws) : wipe (σ.set i o) ws = wipe σ ws := by
  apply List.ext_getElem?
  intro j
  by_cases hj : j < σ.length
  · rw [wipe_get _ _ _ (by simpa using hj), wipe_get _ _ _ hj]
    by_cases m : j ∈ ws
    · rw [if_pos m, if_pos m]
    · rw [if_neg m, if_neg m, List.getElem?_set_ne (fun e : i = j => m (by subst e; exact h))]
  · rw [List.getElem?_eq_none (by rw [wipe_length]; simpa using hj), List.getElem?_eq_none (by rw [wipe_length]; simpa using hj)]
def tName (i : Nat) : DG := fun d env => some (env.set i (some d))
theorem tgt_name (i : Nat) : TgtOk T (gName i) (tName i) [i] := fun Z α s H env env' σ d v Q st re r e k => by
  cases e
  exact k _ (re.set r i) fun ws m => wipe_set (m i (by simp))
abbrev DGs := List P → Env → Option Env
def TgtsOk (T : Tb) (g : TGs) (t : DGs) (vs : List Nat) : Prop := ∀ (Z α : List Addr) (s : Sto) (H : Hp) (env env' : Env) (σ : L2.St) (xs : List P) (us : List V) (Q : L2.St → Hp → Prop), St T Z α H s → RE T α (pur Z α s H) env σ → RPs T (pur Z α s H) xs us → t xs env = some env' →
  (∀ σ', RE T α (pur Z α s H) env' σ' → (∀ ws, (∀ i ∈ vs, i ∈ ws) → wipe σ' ws = wipe σ ws) → Q σ' H) → g us σ H Q
def tsNil : DGs := fun xs env => match xs with
  | [] => some env
  | _ => none
def tsCons (t : DG) (r : DGs) : DGs := fun xs env => match xs with
  | x :: xs => (t (.p x) env).bind (r xs)
  | [] => none
theorem tgts_nil : TgtsOk T gNil tsNil [] := fun Z α s H env env' σ xs us Q st re r e k => by
  cases xs with
  | nil => cases r; cases e; exact ⟨rfl, k _ re fun _ _ => rfl⟩
  | cons x xs => cases e
theorem tgts_cons {g : TG} {gs : TGs} {t : DG} {ts : DGs} {vs us : List Nat} (h1 : TgtOk T g t vs) (h2 : TgtsOk T gs ts us) : TgtsOk T (gCons g gs) (tsCons t ts) (vs ++ us) := fun Z α s H env env' σ xs ws Q st re r e k => by
  cases xs with
  | nil => cases e
  | cons x xs =>
    cases r with
    | cons h r =>
      refine ⟨_, _, rfl, ?_⟩
      have e' : (t (.p x) env).bind (ts xs) = some env' := e
      cases q : t (.p x) env with
      | none => rw [q] at e'; cases e'
      | some env1 =>
        rw [q] at e'
        exact h1 Z α s H env env1 σ (.p x) _ _ st re (.p h) q fun σ1 re1 w1 => h2 Z α s H env1 env' σ1 xs _ _ st re1 r e' fun σ2 re2 w2 => k σ2 re2 fun ws m => (w2 ws fun i mi => m i (List.mem_append_right _ mi)).trans (w1 ws fun i mi => m i (List.mem_append_left _ mi))
def tTup (n : Nat) (t : DGs) : DG := fun d env => match d with
  | .p (.tup xs) => if xs.length = n then t xs env else none
  | _ => none
theorem tgt_tup {n : Nat} {g : TGs} {t : DGs} {vs : List Nat} (h : TgtsOk T g t vs) : TgtOk T (gTup T.K n g) (tTup n t) vs := fun Z α s H env env' σ d v Q st re r e k => by
  cases r with
  | ref _ => cases e
  | @p x v r =>
    cases r with
    | @tup xs a ws hq rs =>
      have e' : (if xs.length = n then t xs env else none) = some env' := e
      by_cases q : xs.length = n
      · rw [if_pos q] at e'
        exact ⟨a, ws, rfl, (Ext.same (hide_ext _ _)).sqT hq, by rw [rs.length]; exact q, h Z α s H env env' σ xs ws Q st re rs e' k⟩
      · rw [if_neg q] at e'; cases e'
    | _ => cases e
/-- target = value -/
def dAsg (f : DE) (t : DG) : DS := fun env s => (f env s).bindS env fun d s => match t d env with
  | some env' => .nx env' s
  | none => .bad
theorem asg_ok {f : DE} {t : DG} {g : TG} {vs : List Nat} (hg : TgtOk T g t vs) {D : Ends} {σ : L2.St} {H : Hp} (h : rdS T W (dAsg f t) D σ H) : tAsg (rd T W f) g D σ H := by
  obtain ⟨Z, α, env, s, st, re, h⟩ := h
  refine ⟨Z, α, env, s, st, re, (PostS.exp (Rel := relD T) re h).mono fun v H1 ⟨α1, d, s1, _, g1, st1, r1, re1, h1⟩ => ?_⟩
  cases e : t d env with
  | none => rw [e] at h1; exact h1.elim
  | some env' =>
    rw [e] at h1
    exact hg Z α1 s1 H1 env env' σ d v _ st1 re1 r1 e fun σ' re' _ => PostS.here st1 re' h1
theorem s_set {i : Nat} {x : Str} {e : Expr} {f : DE} {pos pos' : Pos} (hN : X.N.Nodup) (hi : X.N[i]? = some x) (hx : Loc X.env.scope x) (he : PE X e (rd T W f)) (hs : swapsWith e (some (.Name x pos')) pos.line X.env = pure false := by rfl)
    (hf : X.fn x = true ∨ X.env.scope.names.lookup x = some .local := by first | exact .inl rfl | exact .inr rfl | assumption) : PS X (.Assign [.Name x pos'] e pos) (rdS T W (dAsg f (tName i))) :=
  (ps_set hN hi hx he hs hf).imp fun D σ H h => asg_ok (tgt_name i) h
theorem s_asg {tg e : Expr} {f : DE} {g : TG} {t : DG} {vs : List Nat} {pos : Pos} (he : PE X e (rd T W f)) (hg : PG X tg g) (ht : TgtOk T g t vs) (hs : swapsWithSole [tg] e pos.line X.env = pure false := by rfl) (hw : swappedStores [tg] e X.env = pure none := by rfl)
    (h1 : (assignEach [tg] X.env).map (·.2) = [assign tg X.env] := by rfl) : PS X (.Assign [tg] e pos) (rdS T W (dAsg f t)) :=
  (ps_asg he hg hs hw h1).imp fun D σ H h => asg_ok ht h
/-- a, b = x, y with plain names -/
def dPar (i j : Nat) (f : DA) : DS := fun env s => (f env s).bindS env fun ds s => match ds with
  | [d, e] => .nx ((env.set i (some d)).set j (some e)) s
  | _ => .bad
theorem s_par {i j : Nat} {x y : Str} {a b : Expr} {f : DA} {px py pt pos : Pos} {kt k2 pt2} (hc : X.calm = true) (hN : X.N.Nodup) (hi : X.N[i]? = some x) (hj : X.N[j]? = some y) (hij : i ≠ j)
    (hx : X.env.scope.names.lookup x = some .local) (hy : X.env.scope.names.lookup y = some .local) (ha : PA X [a, b] (rdA T W f))
    (hw : swappedStores [.Tuple [.Name x px, .Name y py] kt pt] (.Tuple [a, b] k2 pt2) X.env = pure (some [x, y]))
    (hs : swapsWithSole [.Tuple [.Name x px, .Name y py] kt pt] (.Tuple [a, b] k2 pt2) pos.line X.env = pure false := by rfl) :
    PS X (.Assign [.Tuple [.Name x px, .Name y py] kt pt] (.Tuple [a, b] k2 pt2) pos) (rdS T W (dPar i j f)) :=
  (ps_par hc hN hi hj hij hx hy ha hw hs).imp fun D σ H ⟨Z, α, env, s, st, re, h⟩ => ⟨Z, α, env, s, st, re, (PostS.exp (Rel := relA T) re h).mono fun vs H1 ⟨α1, ds, s1, _, g1, st1, r1, re1, h1⟩ => by
    cases r1 with
    | nil => exact h1.elim
    | cons q1 r1 =>
      cases r1 with
      | nil => exact h1.elim
      | cons q2 r1 =>
        cases r1 with
        | cons _ _ => exact h1.elim
        | nil => exact ⟨_, _, rfl, PostS.here st1 ((re1.set q1 i).set q2 j) h1⟩⟩
/-- name op= e -/
def dAug (i : Nat) (g : P → P → Option P) (f : DE) : DS := fun env s => match env[i]? with
  | some (some (.p x)) => (f env s).bindS env fun d s => match look s d with
    | some y => match g x y with
      | some z => .nx (env.set i (some (.p z))) s
      | none => .bad
    | none => .bad
  | _ => .bad
theorem s_aug {i : Nat} {x : Str} {e : Expr} {f : DE} {op : Operator} {r : R2} {g : P → P → Option P} {pos pos' : Pos} (hN : X.N.Nodup) (hi : X.N[i]? = some x) (hx : Loc X.env.scope x) (he : PE X e (rd T W f)) (ho : OpR X (inplaceOp op) r) (hg : Op2 T r g)
    (hf : X.fn x = true ∨ X.env.scope.names.lookup x = some .local := by first | exact .inl rfl | exact .inr rfl | assumption) : PS X (.AugAssign (.Name x pos') op e pos) (rdS T W (dAug i g f)) :=
  (ps_aug hN hi hx he (ti := r) (fun pins s σ H x y v u Q I r1 r2 h => ho pins s σ H x y v u Q I r1 r2 h) hf).imp fun D σ H ⟨Z, α, env, s, st, re, h⟩ => by
    unfold dAug at h
    cases e1 : env[i]? with
    | none => rw [e1] at h; exact h.elim
    | some o =>
      cases o with
      | none => rw [e1] at h; exact h.elim
      | some d =>
        cases d with
        | ref l => rw [e1] at h; exact h.elim
        | p y =>
          rw [e1] at h
          dsimp only at h
          obtain ⟨v, ev, rv⟩ := re.get i _ e1
          refine ⟨v, ev, Z, α, env, s, st, re, (PostS.exp (Rel := relD T) re h).mono fun w H1 ⟨α1, d, s1, _, g1, st1, r1, re1, h1⟩ => ?_⟩
          cases e2 : look s1 d with
          | none => rw [e2] at h1; exact h1.elim
          | some z =>
            rw [e2] at h1
            dsimp only at h1
            cases e3 : g y z with
            | none => rw [e3] at h1; exact h1.elim
            | some u =>
              rw [e3] at h1
              cases rv with
              | p rv =>
                refine hg (Z ++ hid α1 s1) H1 y z v w u _ (.inl (rv.ext g1.ext)) (look_ok st1 r1 e2) (hid_dom st1) e3 fun q H' k rq => ?_
                exact h1 α1 H' _ (Go.of_same st1 k) (st1.same k) ((re1.go (Ext.same (hide_same k)) (List.prefix_refl _)).set (.p rq) i)
/-! ### while: so many turns -/
def whl (c : DT) (b : DS) : Nat → DS
  | 0 => fun _ _ => .bad
  | n + 1 => fun env s => (c env s).bindS env fun k s => if k = true then (match b env s with
    | .nx env s => whl c b n env s
    | .ct env s => whl c b n env s
    | .bk env s => .nx env s
    | r => r) else .nx env s
theorem s_while {c : Expr} {body : List Stmt} {fc : DT} {fb : DS} {pos : Pos} (n : Nat) (hp : PassesOwn (model X.prog X.w) X.A X.env X.xe) (hc : PT X c (rdT T W fc)) (hb : PSs X body (rdS T W fb)) : PS X (.While c body [] pos) (rdS T W (whl fc fb n)) :=
  (ps_while hp hc hb).imp fun D σ H h => by
    refine ⟨fun m σ H => rdS T W (whl fc fb m) D σ H, ⟨n, h⟩, fun m σ H h => ?_⟩
    cases m with
    | zero => obtain ⟨_, _, _, _, _, _, h⟩ := h; exact h.elim
    | succ m =>
      obtain ⟨Z, α, env, s, st, re, h⟩ := h
      refine ⟨Z, α, env, s, st, re, (PostS.exp (Rel := relB) re h).mono fun k H1 ⟨α1, d, s1, _, g1, st1, r1, re1, h1⟩ => ?_⟩
      subst r1
      cases k with
      | false => rw [if_neg Bool.false_ne_true] at h1 ⊢; exact PostS.here st1 re1 h1
      | true =>
        rw [if_pos rfl] at h1 ⊢
        refine ⟨fun σ' H' => rdS T W (whl fc fb m) D σ' H', fun σ' H' z => ⟨m, Nat.lt_succ_self m, z⟩, Z, α1, env, s1, st1, re1, ?_⟩
        cases q : fb env s1 with
        | nx env' s' => rw [q] at h1; exact fun α' H' σ' g st' re' => ⟨Z, α', env', s', st', re', PostS.from h1 g⟩
        | ct env' s' => rw [q] at h1; exact fun α' H' σ' g st' re' => ⟨Z, α', env', s', st', re', PostS.from h1 g⟩
        | bk env' s' => rw [q] at h1; exact h1
        | rt d s' => rw [q] at h1; exact h1
        | exc c v env' s' => rw [q] at h1; exact h1
        | bad => rw [q] at h1; exact h1
end
end Ev

set_option Elab.async false
set_option linter.all false
set_option maxRecDepth 100000
set_option maxHeartbeats 2000000
/-! Ev5: defs and their calls. -/
namespace Ev
open PySem PySem.Spec PyProof.Rows L2
abbrev DF := List D → Sto → R D
/-- what a def promises -/
def spG (T : Tb) (n : Nat) (g : DF) : Sp := fun vs H Q E => vs.length = n ∧ ∃ Z α s ds, St T Z α H s ∧ RDs T α (pur Z α s H) ds vs ∧ Post T (relD T) Z α s H (fun cls d _ H => E cls d H) [] (g ds s) Q
/-- a def's body as a function -/
def dDef (n : Nat) (b : DS) : DF := fun ds s => match b (ds.map some ++ List.replicate (n - ds.length) none) s with
  | .nx _ s' => cutD s.length (.p .non) s'
  | .rt d s' => cutD s.length d s'
  | .exc c v _ s' => if (decide (s.length ≤ s'.length) && shut s.length (s'.take s.length)) = true then .exc c v (s'.take s.length) else .bad
  | _ => .bad
def flat : O → Bool
  | .lst _ => true
  | .dct _ => true
  | .dcT _ => true
  | _ => false
theorem flat_live {o : O} (h : flat o = true) : o.live = true := by cases o <;> first | rfl | cases h
/-- as cutD; a new object that is handed back stays a place, the first new one -/
def cutR (n : Nat) (d : D) (s : Sto) : R D := if n ≤ s.length && shut n (s.take n) then (match d with
    | .p x => .ok (.p x) (s.take n)
    | .ref l => if l < n then .ok (.ref l) (s.take n) else match s[l]? with
      | some o => if flat o = true then .ok (.ref n) (s.take n ++ [o]) else .bad
      | none => .bad) else .bad
/-- a def that hands back new objects to be written -/
def dDefN (n : Nat) (b : DS) : DF := fun ds s => match b (ds.map some ++ List.replicate (n - ds.length) none) s with
  | .nx _ s' => cutR s.length (.p .non) s'
  | .rt d s' => cutR s.length d s'
  | .exc c v _ s' => if (decide (s.length ≤ s'.length) && shut s.length (s'.take s.length)) = true then .exc c v (s'.take s.length) else .bad
  | _ => .bad
section
variable {X : Cx} {T : Tb} {W : WX}
theorem RE.start {α : List Addr} {G : Hp} {ds : List D} {vs : List V} (h : RDs T α G ds vs) (N : List Str) : RE T α G (ds.map some ++ List.replicate (N.length - ds.length) none) (L2.start N vs) := by
  have hl := h.length
  refine ⟨by simp [L2.start, hl], fun i d e => ?_⟩
  by_cases q : i < ds.length
  · rw [List.getElem?_append_left (by simpa using q)] at e
    have aux : ∀ {ds : List D} {vs : List V} {i : Nat} {d : D}, RDs T α G ds vs → (ds.map some)[i]? = some (some d) → ∃ v, vs[i]? = some v ∧ RD T α G d v := by
      intro ds vs i d h
      induction h generalizing i with
      | nil => intro e; simp at e
      | cons h r ih =>
        intro e
        cases i with
        | zero => simp at e; subst e; exact ⟨_, rfl, h⟩
        | succ i => simpa using ih (by simpa using e)
    obtain ⟨v, e1, r⟩ := aux h e
    refine ⟨v, ?_, r⟩
    unfold L2.start
    rw [List.getElem?_append_left (by simp [hl]; exact q), List.getElem?_map, e1]
    rfl
  · rw [List.getElem?_append_right (by simpa using q)] at e
    have := List.mem_of_getElem? e
    simp at this
theorem RO.flat {α α' : List Addr} {G G' H H' : Hp} {a : Addr} {o : O} (r : RO T α G H a o) (f : Ev.flat o = true) (k : Ext G G') (h : H' a = H a) : RO T α' G' H' a o := by
  cases o with
  | lst xs => obtain ⟨vs, e, r⟩ := r; exact ⟨vs, h.trans e, r.ext k⟩
  | dct xs => obtain ⟨vs, e, q, r⟩ := r; exact ⟨vs, h.trans e, q, r.ext k⟩
  | dcT xs => obtain ⟨vs, e, q, r⟩ := r; exact ⟨vs, h.trans e, q, r.ext k⟩
  | ins c fs => cases f
  | fz _ => cases f
theorem cutR_ok {Z α α' : List Addr} {s s' : Sto} {H H' : Hp} {σ : L2.St} {d : D} {v : V} {Q : VK} (st : St T Z α H s) (g : Go Z α s H α' s' H') (st' : St T Z α' H' s') (r : RD T α' (pur Z α' s' H') d v) (h : Post T (relD T) Z α s H W σ (cutR s.length d s') Q) : Q v H' := by
  unfold cutR at h
  by_cases c : (decide (s.length ≤ s'.length) && shut s.length (s'.take s.length)) = true
  · rw [if_pos c] at h
    obtain ⟨c1, c2⟩ := Bool.and_eq_true_iff.mp c
    obtain ⟨t1, t2, t3⟩ := st'.take (of_decide_eq_true c1) c2
    have ea : α'.take s.length = α := by
      obtain ⟨w, rfl⟩ := g.pre
      rw [← st.len]; simp
    rw [ea] at t1 t2 t3
    have g' : Go Z α s H α (s'.take s.length) H' := ⟨List.prefix_refl _, g.same.trans t2, g.zk⟩
    cases r with
    | p r => exact h α H' v g' t1 (.p (r.ext (Ext.same t2)))
    | @ref l a r =>
      dsimp only at h
      by_cases q : l < s.length
      · rw [if_pos q] at h
        refine h α H' _ g' t1 (.ref ?_)
        obtain ⟨w, rfl⟩ := g.pre
        rw [List.getElem?_append_left (by rw [st.len]; exact q)] at r
        exact r
      · rw [if_neg q] at h
        cases e : s'[l]? with
        | none => rw [e] at h; exact h.elim
        | some o =>
          rw [e] at h
          dsimp only at h
          by_cases fo : flat o = true
          · rw [if_pos fo] at h
            have vis := t3 l a (by omega) r
            have nz : a ∉ Z := fun m => vis (List.mem_append_left _ m)
            obtain ⟨u, hu⟩ := st'.dom a (List.mem_of_getElem? r)
            have na : a ∉ α := fun m => by
              obtain ⟨j, hj⟩ := List.mem_iff_getElem?.mp m
              have lj := (List.getElem?_eq_some_iff.mp hj).1
              obtain ⟨w, rfl⟩ := g.pre
              have e5 : (α ++ w)[j]? = (α ++ w)[l]? := by rw [List.getElem?_append_left lj, hj, r]
              have := (List.getElem?_inj (i := j) (j := l) (by simp; omega) st'.nd).mp e5
              have := st.len
              omega
            have hs : ∀ b, b ∈ hid α (s'.take s.length) → b ∈ hid α' s' := fun b m => by
              obtain ⟨j, o', h1, h2, h3⟩ := mem_hid.mp m
              have hj : j < α.length := (List.getElem?_eq_some_iff.mp h1).1
              obtain ⟨w, rfl⟩ := g.pre
              rw [List.getElem?_take_of_lt (by rw [← st.len]; exact hj)] at h2
              exact mem_hid.mpr ⟨j, o', by rw [List.getElem?_append_left hj]; exact h1, h2, h3⟩
            have ah : a ∈ hid α' s' := mem_hid.mpr ⟨l, o, r, e, flat_live fo⟩
            have lt : α.length = (s'.take s.length).length := t1.len
            have k2 : Same (pur Z α' s' H') (pur Z (α ++ [a]) (s'.take s.length ++ [o]) H') := hide_sub (fun b m => by
              rw [hid_app lt (flat_live fo)] at m
              rcases List.mem_append.mp m with m | m
              · exact List.mem_append_left _ m
              · rcases List.mem_append.mp m with m | m
                · exact List.mem_append_right _ (hs b m)
                · simp at m; subst m; exact List.mem_append_right _ ah) H'
            refine h (α ++ [a]) H' _ ⟨List.prefix_append _ _, g.same.trans k2, g.zk⟩ ⟨by simp [lt], List.nodup_append.mpr ⟨st.nd, by simp, fun b m c mc => by simp at mc; subst mc; exact fun e => na (e ▸ m)⟩, fun b m => ?_, fun b m => ?_, t1.zdom, fun j b u' e1 e2 => ?_⟩ (.ref (by rw [← st.len]; simp))
            · rcases List.mem_append.mp m with m | m
              · exact st.dz b m
              · simp at m; subst m; exact nz
            · rcases List.mem_append.mp m with m | m
              · exact t1.dom b m
              · simp at m; subst m; exact ⟨u, hu⟩
            · by_cases hj : j < α.length
              · rw [List.getElem?_append_left hj] at e1
                rw [List.getElem?_append_left (by rw [← lt]; exact hj)] at e2
                have hj2 : j < s.length := by rw [← st.len]; exact hj
                rw [List.getElem?_take_of_lt hj2] at e2
                have e1' : α'[j]? = some b := by
                  obtain ⟨w, rfl⟩ := g.pre
                  rw [List.getElem?_append_left hj]; exact e1
                have mq : u' ∈ s'.take s.length := List.mem_of_getElem? (by rw [List.getElem?_take_of_lt hj2]; exact e2)
                have r1 := (st'.obj j b u' e1' e2).cut (β := α) (Ext.same k2) g.pre (by rw [st.len]; exact List.all_eq_true.mp c2 u' mq)
                exact r1.mono (Ext.refl _) (List.prefix_append _ _) rfl
              · have el : j = α.length := by
                  have := (List.getElem?_eq_some_iff.mp e1).1
                  simp at this; omega
                subst el
                rw [List.getElem?_append_right (Nat.le_refl _)] at e1
                rw [List.getElem?_append_right (by rw [← lt]; exact Nat.le_refl _)] at e2
                simp only [Nat.sub_self, List.getElem?_cons_zero] at e1
                rw [show α.length - (s'.take s.length).length = 0 by omega] at e2
                simp only [List.getElem?_cons_zero] at e2
                cases e1; cases e2
                exact (st'.obj l a o r e).flat fo (Ext.same k2) rfl
          · rw [if_neg fo] at h; exact h.elim
  · rw [if_neg c] at h; exact h.elim
theorem exc_cut {Z α α' : List Addr} {s s' : Sto} {H H' : Hp} (st : St T Z α H s) (g : Go Z α s H α' s' H') (st' : St T Z α' H' s') (c : (decide (s.length ≤ s'.length) && shut s.length (s'.take s.length)) = true) :
    Go Z α s H α (s'.take s.length) H' ∧ St T Z α H' (s'.take s.length) ∧ Ext (pur Z α' s' H') (pur Z α (s'.take s.length) H') := by
  obtain ⟨c1, c2⟩ := Bool.and_eq_true_iff.mp c
  obtain ⟨t1, t2, t3⟩ := st'.take (of_decide_eq_true c1) c2
  have ea : α'.take s.length = α := by
    obtain ⟨w, rfl⟩ := g.pre
    rw [← st.len]; simp
  rw [ea] at t1 t2 t3
  exact ⟨⟨List.prefix_refl _, g.same.trans t2, g.zk⟩, t1, Ext.same t2⟩
/-! ### room for calls, and no repr under way -/
structure RmG (k : Nat) (A : Around) : Prop where
  rm : Room k A
  gd : A.guards = some []
theorem RmG.mono {j k : Nat} {A : Around} (r : RmG k A) (h : j ≤ k) : RmG j A := ⟨r.rm.mono h, r.gd⟩
theorem RmG.deeper {k : Nat} {A : Around} (r : RmG (k + 1) A) (env : PySem.Env) : RmG k (A.deeper env) := ⟨r.rm.deeper env, r.gd⟩
theorem RmG.make {k : Nat} {A : Around} (r : RmG (k + 1) A) (C : Addr) (us : List Value) (kw : List (Str × Value)) : RmG k (A.under (.builtin "type.__call__" ⟨.ref C :: us, kw⟩)) := ⟨r.rm.make C us kw, by
  have h := r.gd
  first
    | exact h
    | (obtain ⟨a, b, c, d, e⟩ := A; simp [Around.under, Code.guards, Code.isGuard, guardIds, pushGuards] at h ⊢; exact h)⟩
/-- the def at f keeps its promise where there is such room -/
structure FnG (P : Program) (w : World) (K : PySem.W.Frag) (mg : Str → Option Value) (base : Heap) (k : Nat) (f : Addr) (fd : FuncData) (ps : List Str) (sp : Sp) : Prop where
  len : ∀ vs H Q E, sp vs H Q E → vs.length = ps.length
  go : ∀ (A : Around) (out : List PySem.Env) (s : Shared) (H : Hp) (args : Args) (us : List Value) (vs : List V) (Q : VK) (E : XK), RmG k A → Env0 P w K mg base A out s H → BindsTo s fd args (ps.zip us) → Vals vs us → sp vs H Q E →
    codeAny (model P w) A (.call (.ref f) args) (CR (L2.CX P w) out P w H s Q E) s
theorem FnG.mono {P : Program} {w : World} {K : PySem.W.Frag} {mg : Str → Option Value} {base : Heap} {j k : Nat} {f : Addr} {fd : FuncData} {ps : List Str} {sp : Sp} (F : FnG P w K mg base j f fd ps sp) (h : j ≤ k) : FnG P w K mg base k f fd ps sp :=
  ⟨F.len, fun A out s H args us vs Q E r => F.go A out s H args us vs Q E (r.mono h)⟩
/-- from a body -/
theorem FnG.of {P : Program} {w : World} {K : PySem.W.Frag} {mg : Str → Option Value} {base : Heap} {x qual : Str} {params : Arguments} {body : List Stmt} {scope : Scope} {dvs : List V} {kws : List (Str × V)} {f : Addr} {fd : FuncData} {N ps : List Str} {k : Nat} {sp : Sp}
    (F : FunD K x qual params body scope dvs kws f fd) (S : FnScope N ps scope) (len : ∀ vs H Q E, sp vs H Q E → vs.length = ps.length)
    (hb : ∀ (cdv : Value) (A : Around) (out : List PySem.Env) (s : Shared) (H : Hp) (vs : List V) (Q : VK) (E : XK), RmG k (A.deeper (envOfC qual scope s.heap.objs.size f cdv)) → sp vs H Q E →
      ∃ t, PSs (cxOf (L2.CX P w) P w K mg base N qual scope f cdv A out s H E) body t ∧ t { nx := fun _ H' => Q .non H', rt := Q } (L2.start N vs) H) : FnG P w K mg base (k + 1) f fd ps sp := by
  obtain ⟨oc, od, dV, kV, doc, pm, an, cdv, ct, osl, rfl, lk, hcd, _, _⟩ := F.ex
  refine ⟨len, ?_⟩
  intro A out s H args us vs Q E hr e0 hbn rv hsp
  have lv := len _ _ _ _ hsp
  have inK : K.In s.heap := e0.mod.kin.keeps fun b o q => (e0.bs b o q).1
  have nol : s.heap.NoLimit := e0.mod.nolimit.keeps fun b o q => (e0.bs b o q).1
  have kinds : ∀ y ∈ ps.zip us, scope.names.lookup y.1 = some .local ∨ (scope.names.lookup y.1 = some .cell ∧ ((cellsFrom (s.heap.objs.size + 1) scope.names []).lookup y.1).isSome = true) := by
    intro y hy
    obtain ⟨n, v⟩ := y
    exact (S.par n (List.of_mem_zip hy).1).imp id fun q => ⟨q, PySem.W.cellsFrom_some _ _ _ (.inl q)⟩
  refine codeAny_call_function hr.rm.depth (inK _ _ lk) rfl S.co S.gen rfl (PySem.W.codeRec_of inK hcd) (hbn _ _ _ _ ?_)
  refine wpAny_newFunctionEnv_cells S.kind kinds fun env he s1 xc => ?_
  subst he
  refine ⟨nol.keeps xc.toInCall.keep, codeAny_func ?_⟩
  obtain ⟨t, ht, hq⟩ := hb cdv A out s H vs Q E (hr.deeper _) hsp
  have I0 : Inv (cxOf (L2.CX P w) P w K mg base N qual scope f cdv A out s H E) [] (L2.start N vs) H s1 := inv_start S hr.rm.hd e0 lv rv xc
  have fin : ∀ {s' : Shared} {σ' : L2.St} {H' : Hp} {v : V} {u : Value}, Inv (cxOf (L2.CX P w) P w K mg base N qual scope f cdv A out s H E) [] σ' H' s' → RelV v u → Q v H' → CE out P w H s Q u s' :=
    fun J r q => ⟨_, _, J.os, J.bare, J.base, J.hok, r, q⟩
  refine wpAny_mono (ht.run [] s1 (L2.start N vs) H _ I0 hq) (fun fl s' hs => ?_) fun e s' hs => hs
  match fl, hs with
  | .ret u, ⟨v, σ', H', J, r, q⟩ => exact fin J r q
  | .next, ⟨σ', H', J, q⟩ => exact fin (v := V.non) (u := Value.none) J rfl q
  | .brk, ⟨_, _, _, q⟩ => exact (show False from q).elim
  | .cont, ⟨_, _, _, q⟩ => exact (show False from q).elim
/-- the body's reading gives the promise -/
theorem def_ok {P : Program} {w : World} {K : PySem.W.Frag} {mg : Str → Option Value} {base : Heap} {x qual : Str} {params : Arguments} {body : List Stmt} {scope : Scope} {dvs : List V} {kws : List (Str × V)} {f : Addr} {fd : FuncData} {N ps : List Str} {k : Nat} {b : DS}
    (F : FunD K x qual params body scope dvs kws f fd) (S : FnScope N ps scope)
    (hb : ∀ (cdv : Value) (A : Around) (out : List PySem.Env) (s : Shared) (H : Hp) (E : XK), RmG k (A.deeper (envOfC qual scope s.heap.objs.size f cdv)) →
      PSs (cxOf (L2.CX P w) P w K mg base N qual scope f cdv A out s H E) body (rdS T (fun cls d _ H => E cls d H) b)) : FnG P w K mg base (k + 1) f fd ps (spG T ps.length (dDef N.length b)) := by
  refine FnG.of F S (fun vs H Q E h => h.1) fun cdv A out s H vs Q E hr h => ⟨_, hb cdv A out s H E hr, ?_⟩
  obtain ⟨hl, Z, α, st0, ds, st, rs, h⟩ := h
  refine ⟨Z, α, _, st0, st, RE.start rs N, ?_⟩
  unfold dDef at h
  cases q : b (ds.map some ++ List.replicate (N.length - ds.length) none) st0 with
  | nx env' s' => rw [q] at h; exact fun α' H' σ' g st' re' => cutD_ok st g st' (.p .non) h
  | rt d s' => rw [q] at h; exact fun α' H' v g st' r => cutD_ok st g st' r h
  | exc c v env' s' =>
    rw [q] at h
    dsimp only at h
    by_cases c' : (decide (st0.length ≤ s'.length) && shut st0.length (s'.take st0.length)) = true
    · rw [if_pos c'] at h
      intro α' H' σ' dd u g st' re' e1 r1
      obtain ⟨g2, st2, k2⟩ := exc_cut st g st' c'
      exact h α H' dd u g2 st2 (k2.keep _ _ e1 rfl) (r1.ext k2)
    · rw [if_neg c'] at h; exact h.elim
  | bk _ _ => rw [q] at h; exact h.elim
  | ct _ _ => rw [q] at h; exact h.elim
  | bad => rw [q] at h; exact h.elim
/-- .. handing back new objects -/
theorem def_okN {P : Program} {w : World} {K : PySem.W.Frag} {mg : Str → Option Value} {base : Heap} {x qual : Str} {params : Arguments} {body : List Stmt} {scope : Scope} {dvs : List V} {kws : List (Str × V)} {f : Addr} {fd : FuncData} {N ps : List Str} {k : Nat} {b : DS}
    (F : FunD K x qual params body scope dvs kws f fd) (S : FnScope N ps scope)
    (hb : ∀ (cdv : Value) (A : Around) (out : List PySem.Env) (s : Shared) (H : Hp) (E : XK), RmG k (A.deeper (envOfC qual scope s.heap.objs.size f cdv)) →
      PSs (cxOf (L2.CX P w) P w K mg base N qual scope f cdv A out s H E) body (rdS T (fun cls d _ H => E cls d H) b)) : FnG P w K mg base (k + 1) f fd ps (spG T ps.length (dDefN N.length b)) := by
  refine FnG.of F S (fun vs H Q E h => h.1) fun cdv A out s H vs Q E hr h => ⟨_, hb cdv A out s H E hr, ?_⟩
  obtain ⟨hl, Z, α, st0, ds, st, rs, h⟩ := h
  refine ⟨Z, α, _, st0, st, RE.start rs N, ?_⟩
  unfold dDefN at h
  cases q : b (ds.map some ++ List.replicate (N.length - ds.length) none) st0 with
  | nx env' s' => rw [q] at h; exact fun α' H' σ' g st' re' => cutR_ok st g st' (.p .non) h
  | rt d s' => rw [q] at h; exact fun α' H' v g st' r => cutR_ok st g st' r h
  | exc c v env' s' =>
    rw [q] at h
    dsimp only at h
    by_cases c' : (decide (st0.length ≤ s'.length) && shut st0.length (s'.take st0.length)) = true
    · rw [if_pos c'] at h
      intro α' H' σ' dd u g st' re' e1 r1
      obtain ⟨g2, st2, k2⟩ := exc_cut st g st' c'
      exact h α H' dd u g2 st2 (k2.keep _ _ e1 rfl) (r1.ext k2)
    · rw [if_neg c'] at h; exact h.elim
  | bk _ _ => rw [q] at h; exact h.elim
  | ct _ _ => rw [q] at h; exact h.elim
  | bad => rw [q] at h; exact h.elim
/-- the callee runs -/
theorem run_g {k : Nat} {f : Addr} {fd : FuncData} {ps : List Str} {sp : Sp} {pins : List (Addr × Obj)} {σ : L2.St} {H : Hp} {s : Shared} {Q : VK} {us : List Value} {vs : List V} (tk : Takes X W) (F : FnG X.prog X.w X.K X.mg X.base k f fd ps sp) (hr : RmG k X.A) (hb : Binds X.K fd ps [])
    (I : Inv X pins σ H s) (r : Vals vs us) (h : sp vs H Q (WE W σ)) : wpAny (model X.prog X.w) X.A (call (.ref f) us) (EP X pins σ Q) X.xe s := by
  have lu : (us ++ ([] : List Value)).length = ps.length := by rw [List.append_nil, ← r.length]; exact F.len _ _ _ _ h
  have bt := hb s us I.kIn lu
  rw [List.append_nil] at bt
  refine wpAny_call (codeAny_mono (F.go X.A X.stack s H ⟨us, []⟩ us vs Q (WE W σ) hr I.env0 bt r h) fun res s' hq => ?_)
  match res, hq with
  | .error e, hq => exact passAt tk σ pins H s e s' I hq
  | .ok (.ret u), hq => exact I.after hq
  | .ok .next, hq => exact False.elim hq
  | .ok .brk, hq => exact False.elim hq
  | .ok .cont, hq => exact False.elim hq

/-! ### calls: the callee sees just what is handed in -/
/-- the places that are handed in, each once -/
def locs : List D → List Nat
  | [] => []
  | .ref l :: r => l :: (locs r).filter (fun m => decide (m ≠ l))
  | .p _ :: r => locs r
def ren (ls : List Nat) : D → D
  | .ref l => .ref (ls.idxOf l)
  | .p x => .p x
def wr : List Nat → List O → Sto → Sto
  | l :: ls, o :: os, s => wr ls os (s.set l o)
  | _, _, s => s
def subs (s : Sto) : List Nat → Option (List O)
  | [] => some []
  | l :: ls => match s[l]? with
    | some o => if flat o then (subs s ls).map (o :: ·) else none
    | none => none
def callF (g : DF) (ds : List D) (s : Sto) : R D := match subs s (locs ds) with
  | none => .bad
  | some sub => match g (ds.map (ren (locs ds))) sub with
    | .ok (.p x) sub' => if (decide (sub'.length = (locs ds).length) && sub'.all flat) = true then .ok (.p x) (wr (locs ds) sub' s) else .bad
    | .exc c v sub' => if (decide (sub'.length = (locs ds).length) && sub'.all flat) = true then .exc c v (wr (locs ds) sub' s) else .bad
    | .ok (.ref j) sub' => if (decide (sub'.length = (locs ds).length + 1) && (decide (j = (locs ds).length) && sub'.all flat)) = true then .ok (.ref s.length) (wr (locs ds) sub' s ++ [sub'.getD j (.lst [])]) else .bad
    | _ => .bad
theorem locs_nd : ∀ ds : List D, (locs ds).Nodup
  | [] => List.nodup_nil
  | .ref l :: r => List.nodup_cons.mpr ⟨by simp, (locs_nd r).filter _⟩
  | .p _ :: r => locs_nd r
theorem locs_mem : ∀ {ds : List D} {l : Nat}, D.ref l ∈ ds → l ∈ locs ds
  | .ref m :: r, l, h => by
    by_cases e : l = m
    · subst e; exact List.mem_cons_self
    · rcases List.mem_cons.mp h with q | q
      · cases q; exact (e rfl).elim
      · exact List.mem_cons_of_mem _ (List.mem_filter.mpr ⟨locs_mem q, decide_eq_true e⟩)
  | .p _ :: r, l, h => by
    rcases List.mem_cons.mp h with q | q
    · cases q
    · exact locs_mem (ds := r) q
theorem subs_ok {s : Sto} : ∀ {ls : List Nat} {sub : List O}, subs s ls = some sub → sub.length = ls.length ∧ ∀ (i l : Nat), ls[i]? = some l → ∃ o, sub[i]? = some o ∧ s[l]? = some o ∧ flat o = true
  | [], sub, e => by cases e; exact ⟨rfl, fun i l q => by simp at q⟩
  | l :: ls, sub, e => by
    unfold subs at e
    cases q : s[l]? with
    | none => rw [q] at e; cases e
    | some o =>
      rw [q] at e
      dsimp only at e
      by_cases c : flat o = true
      · rw [if_pos c] at e
        cases q2 : subs s ls with
        | none => rw [q2] at e; cases e
        | some r =>
          rw [q2] at e; cases e
          obtain ⟨h1, h2⟩ := subs_ok q2
          refine ⟨by simp [h1], fun i m q3 => ?_⟩
          cases i with
          | zero => simp at q3; subst q3; exact ⟨o, by simp, q, c⟩
          | succ i => simpa using h2 i m (by simpa using q3)
      · rw [if_neg c] at e; cases e
theorem wr_len : ∀ (ls : List Nat) (os : List O) (s : Sto), (wr ls os s).length = s.length
  | [], _, _ => rfl
  | _ :: _, [], _ => rfl
  | l :: ls, o :: os, s => by unfold wr; rw [wr_len]; simp
theorem wr_out : ∀ {ls : List Nat} {os : List O} {s : Sto} {l : Nat}, l ∉ ls → (wr ls os s)[l]? = s[l]?
  | [], _, _, _, _ => rfl
  | _ :: _, [], _, _, _ => rfl
  | m :: ls, o :: os, s, l, h => by
    unfold wr
    rw [wr_out (fun z => h (List.mem_cons_of_mem _ z)), List.getElem?_set_ne (fun e : m = l => h (by subst e; exact List.mem_cons_self))]
theorem wr_in : ∀ {ls : List Nat} {os : List O} {s : Sto} {i l : Nat}, ls.Nodup → ls.length = os.length → (∀ m ∈ ls, m < s.length) → ls[i]? = some l → (wr ls os s)[l]? = os[i]?
  | [], os, s, i, l, _, _, _, e => by simp at e
  | m :: ls, [], s, i, l, _, hl, _, e => by simp at hl
  | m :: ls, o :: os, s, i, l, nd, hl, hs, e => by
    unfold wr
    have nd' := List.nodup_cons.mp nd
    cases i with
    | zero =>
      simp at e; subst e
      rw [wr_out nd'.1, List.getElem?_set_self (hs m List.mem_cons_self)]; rfl
    | succ i => simpa using wr_in nd'.2 (by simpa using hl) (fun k q => by simpa using hs k (List.mem_cons_of_mem _ q)) (by simpa using e)
theorem wr_app : ∀ {ls : List Nat} {os qs : List O} {s : Sto}, os.length = ls.length → wr ls (os ++ qs) s = wr ls os s
  | [], [], _, _, _ => by unfold wr; rfl
  | [], _ :: _, _, _, h => by simp at h
  | _ :: _, [], _, _, h => by simp at h
  | l :: ls, o :: os, qs, s, h => by
    show wr ls (os ++ qs) (s.set l o) = wr ls os (s.set l o)
    exact wr_app (by simpa using h)
theorem hide_congr {L L' : List Addr} (h : ∀ a, a ∈ L ↔ a ∈ L') (H : Hp) : hide L H = hide L' H := by
  funext a
  by_cases q : a ∈ L
  · rw [hide_in q, hide_in ((h a).mp q)]
  · rw [hide_out q, hide_out fun z => q ((h a).mpr z)]
theorem callF_ok {g : DF} {Z α : List Addr} {s : Sto} {H : Hp} {σ : L2.St} {ds : List D} {vs : List V} {Q : VK} {n : Nat} (hn : ds.length = n) (st : St T Z α H s) (rs : RDs T α (pur Z α s H) ds vs) (h : Post T (relD T) Z α s H W σ (callF g ds s) Q) :
    spG T n g vs H Q (WE W σ) := by
  refine ⟨by rw [rs.length]; exact hn, ?_⟩
  unfold callF at h
  cases hs : subs s (locs ds) with
  | none => rw [hs] at h; exact h.elim
  | some sub =>
    rw [hs] at h
    dsimp only at h
    obtain ⟨sl, sg⟩ := subs_ok hs
    generalize hls : locs ds = ls at *
    have lnd : ls.Nodup := hls ▸ locs_nd ds
    -- where they stand
    have lt : ∀ l ∈ ls, l < s.length := fun l m => by
      obtain ⟨i, hi⟩ := List.mem_iff_getElem?.mp m
      obtain ⟨o, _, e, _⟩ := sg i l hi
      exact (List.getElem?_eq_some_iff.mp e).1
    have gt : ∀ l ∈ ls, α[l]? = some (α.getD l 0) := fun l m => by
      have := lt l m
      rw [← st.len] at this
      simp [List.getD_eq_getElem?_getD, this]
    have β : ∃ β : List Addr, β = ls.map fun l => α.getD l 0 := ⟨_, rfl⟩
    obtain ⟨β, hβ⟩ := β
    have bl : β.length = ls.length := by rw [hβ]; simp
    have bg : ∀ (i l : Nat), ls[i]? = some l → ∃ a, β[i]? = some a ∧ α[l]? = some a := fun i l e => ⟨α.getD l 0, by rw [hβ]; simp [e], gt l (List.mem_of_getElem? e)⟩
    have gb : ∀ (i : Nat) a, β[i]? = some a → ∃ l, ls[i]? = some l ∧ α[l]? = some a := fun i a e => by
      rw [hβ, List.getElem?_map] at e
      cases q : ls[i]? with
      | none => rw [q] at e; cases e
      | some l => rw [q] at e; cases e; exact ⟨l, rfl, gt l (List.mem_of_getElem? q)⟩
    have bsub : ∀ a ∈ β, a ∈ hid α s := fun a m => by
      obtain ⟨i, hi⟩ := List.mem_iff_getElem?.mp m
      obtain ⟨l, e1, e2⟩ := gb i a hi
      obtain ⟨o, _, e3, f⟩ := sg i l e1
      exact mem_hid.mpr ⟨l, o, e2, e3, flat_live f⟩
    have bhid : ∀ (sub' : List O), sub'.length = ls.length → sub'.all flat = true → ∀ a, a ∈ hid β sub' ↔ a ∈ β := fun sub' hl hf a => ⟨hid_sub, fun m => by
      obtain ⟨i, hi⟩ := List.mem_iff_getElem?.mp m
      have li := (List.getElem?_eq_some_iff.mp hi).1
      have : i < sub'.length := by omega
      refine mem_hid.mpr ⟨i, sub'[i], hi, by simp [this], flat_live (List.all_eq_true.mp hf _ (List.getElem_mem _))⟩⟩
    have subf : sub.all flat = true := List.all_eq_true.mpr fun o m => by
      obtain ⟨i, hi⟩ := List.mem_iff_getElem?.mp m
      have li := (List.getElem?_eq_some_iff.mp hi).1
      obtain ⟨o', e1, _, f⟩ := sg i (ls[i]'(by omega)) (by simp)
      rw [hi] at e1; cases e1; exact f
    obtain ⟨Y, hY⟩ : ∃ Y : List Addr, Y = Z ++ (hid α s).filter fun a => decide (a ∉ β) := ⟨_, rfl⟩
    have yset : ∀ (sub' : List O), sub'.length = ls.length → sub'.all flat = true → ∀ a, a ∈ Y ++ hid β sub' ↔ a ∈ Z ++ hid α s := fun sub' hl hf a => by
      rw [hY]
      simp only [List.mem_append, List.mem_filter, bhid sub' hl hf a, decide_eq_true_eq]
      constructor
      · rintro ((m | m) | m)
        · exact .inl m
        · exact .inr m.1
        · exact .inr (bsub a m)
      · rintro (m | m)
        · exact .inl (.inl m)
        · by_cases q : a ∈ β
          · exact .inr q
          · exact .inl (.inr ⟨m, q⟩)
    have ypur : ∀ (sub' : List O) (H' : Hp), sub'.length = ls.length → sub'.all flat = true → pur Y β sub' H' = hide (Z ++ hid α s) H' := fun sub' H' hl hf => hide_congr (yset sub' hl hf) H'
    have bnd : β.Nodup := by
      rw [hβ]
      exact List.pairwise_map.mpr (List.Pairwise.imp_of_mem (fun {a b} ma mb hab e => by
        have e5 : α[a]? = α[b]? := by rw [gt a ma, gt b mb, e]
        exact hab ((List.getElem?_inj (List.getElem?_eq_some_iff.mp (gt a ma)).1 st.nd).mp e5)) lnd)
    have stY : St T Y β H sub := ⟨by rw [bl, sl], bnd, fun a m z => by
        rw [hY] at z
        rcases List.mem_append.mp z with z | z
        · exact st.dz a (hid_sub (bsub a m)) z
        · exact of_decide_eq_true (List.mem_filter.mp z).2 m,
      fun a m => st.dom a (hid_sub (bsub a m)), fun a m => by
        rw [hY] at m
        rcases List.mem_append.mp m with m | m
        · exact st.zdom a m
        · exact st.dom a (hid_sub (List.mem_filter.mp m).1), fun i a o e1 e2 => by
        obtain ⟨l, q1, q2⟩ := gb i a e1
        obtain ⟨o', q3, q4, f⟩ := sg i l q1
        rw [e2] at q3; cases q3
        refine (st.obj l a o q2 q4).flat f ?_ rfl
        rw [ypur sub H sl subf]
        exact Ext.refl _⟩
    have rsY : RDs T β (pur Y β sub H) (ds.map (ren ls)) vs := by
      rw [ypur sub H sl subf]
      have aux : ∀ {es : List D} {us : List V}, (∀ d ∈ es, d ∈ ds) → RDs T α (pur Z α s H) es us → RDs T β (hide (Z ++ hid α s) H) (es.map (ren ls)) us := by
        intro es us hsub r
        induction r with
        | nil => exact .nil
        | @cons x v xs us h r ih =>
          refine .cons ?_ (ih fun d m => hsub d (List.mem_cons_of_mem _ m))
          cases h with
          | p h => exact .p h
          | @ref l a h =>
            have ml : l ∈ ls := hls ▸ locs_mem (hsub (.ref l) List.mem_cons_self)
            have il : ls.idxOf l < ls.length := List.idxOf_lt_length_iff.mpr ml
            obtain ⟨a', q1, q2⟩ := bg (ls.idxOf l) l (by rw [List.getElem?_eq_getElem il]; simp)
            rw [h] at q2; cases q2
            exact .ref q1
      exact aux (fun d m => m) rs
    refine ⟨Y, β, sub, ds.map (ren ls), stY, rsY, ?_⟩
    -- back
    have back : ∀ {sub' : List O} {β' : List Addr} {H' : Hp}, (decide (sub'.length = ls.length) && sub'.all flat) = true → Go Y β sub H β' sub' H' → St T Y β' H' sub' →
        Go Z α s H α (wr ls sub' s) H' ∧ St T Z α H' (wr ls sub' s) ∧ pur Z α (wr ls sub' s) H' = pur Y β' sub' H' := fun {sub' β' H'} c gY stY' => by
      obtain ⟨c1, c2⟩ := Bool.and_eq_true_iff.mp c
      have c1 := of_decide_eq_true c1
      have eb : β' = β := by
        obtain ⟨w, e⟩ := gY.pre
        have l1 := stY'.len
        rw [c1, ← bl, ← e] at l1
        simp at l1
        rw [← e, l1]; simp
      subst eb
      have hset : ∀ a, a ∈ hid α (wr ls sub' s) ↔ a ∈ hid α s := fun a => by
        constructor
        · intro m
          obtain ⟨l, o, e1, e2, e3⟩ := mem_hid.mp m
          by_cases q : l ∈ ls
          · obtain ⟨i, hi⟩ := List.mem_iff_getElem?.mp q
            obtain ⟨o', _, e4, f⟩ := sg i l hi
            exact mem_hid.mpr ⟨l, o', e1, e4, flat_live f⟩
          · rw [wr_out q] at e2
            exact mem_hid.mpr ⟨l, o, e1, e2, e3⟩
        · intro m
          obtain ⟨l, o, e1, e2, e3⟩ := mem_hid.mp m
          by_cases q : l ∈ ls
          · obtain ⟨i, hi⟩ := List.mem_iff_getElem?.mp q
            have li : i < sub'.length := by rw [c1]; exact (List.getElem?_eq_some_iff.mp hi).1
            refine mem_hid.mpr ⟨l, sub'[i], e1, by rw [wr_in lnd c1.symm lt hi]; simp [li], flat_live (List.all_eq_true.mp c2 _ (List.getElem_mem _))⟩
          · exact mem_hid.mpr ⟨l, o, e1, by rw [wr_out q]; exact e2, e3⟩
      have ep : pur Z α (wr ls sub' s) H' = hide (Z ++ hid α s) H' := hide_congr (fun a => by simp only [List.mem_append, hset a]) H'
      have ep' : pur Y β' sub' H' = hide (Z ++ hid α s) H' := ypur sub' H' c1 c2
      have gsame : Same (pur Z α s H) (hide (Z ++ hid α s) H') := by
        have := gY.same
        rw [ypur sub H sl subf, ep'] at this
        exact this
      have zk : ∀ a, a ∈ Z ++ hid α s → a ∉ β' → H' a = H a := fun a m nb => gY.zk a (by
        rw [hY]
        rcases List.mem_append.mp m with m | m
        · exact List.mem_append_left _ m
        · exact List.mem_append_right _ (List.mem_filter.mpr ⟨m, decide_eq_true nb⟩))
      refine ⟨⟨List.prefix_refl _, by rw [ep]; exact gsame, fun a m => zk a (List.mem_append_left _ m) fun z => st.dz a (hid_sub (bsub a z)) m⟩, ?_, ep.trans ep'.symm⟩
      have dm : ∀ a, (∃ o, H a = some o) → ∃ o, H' a = some o := fun a ⟨o, e⟩ => gY.dom stY' e
      refine ⟨by rw [wr_len]; exact st.len, st.nd, st.dz, fun a m => dm a (st.dom a m), fun a m => dm a (st.zdom a m), fun l a o e1 e2 => ?_⟩
      rw [ep]
      by_cases q : l ∈ ls
      · obtain ⟨i, hi⟩ := List.mem_iff_getElem?.mp q
        rw [wr_in lnd c1.symm lt hi] at e2
        obtain ⟨a', q1, q2⟩ := bg i l hi
        rw [e1] at q2; cases q2
        have f := List.all_eq_true.mp c2 o (List.mem_of_getElem? e2)
        have r := stY'.obj i a o q1 e2
        rw [ep'] at r
        exact r.flat f (Ext.refl _) rfl
      · rw [wr_out q] at e2
        by_cases lv : o.live = true
        · have ma : a ∈ hid α s := mem_hid.mpr ⟨l, o, e1, e2, lv⟩
          have nb : a ∉ β' := fun z => by
            obtain ⟨i, hi⟩ := List.mem_iff_getElem?.mp z
            obtain ⟨l2, q1, q2⟩ := gb i a hi
            have := (List.getElem?_inj (List.getElem?_eq_some_iff.mp e1).1 st.nd).mp (e1.trans q2.symm)
            subst this
            exact q (List.mem_of_getElem? q1)
          exact (st.obj l a o e1 e2).mono (Ext.same gsame) (List.prefix_refl _) (zk a (List.mem_append_right _ ma) nb)
        · cases o with
          | fz x => exact (show RP T (pur Z α s H) x (.ref a) from st.obj l a _ e1 e2).ext (Ext.same gsame)
          | _ => exact (lv rfl).elim
    have backN : ∀ {sub' : List O} {β' : List Addr} {H' : Hp}, sub'.length = ls.length + 1 → sub'.all flat = true → Go Y β sub H β' sub' H' → St T Y β' H' sub' →
        ∃ a, β' = β ++ [a] ∧ ∃ (sub0 : List O) (o : O), sub' = sub0 ++ [o] ∧ sub0.length = ls.length ∧ Go Z α s H (α ++ [a]) (wr ls sub0 s ++ [o]) H' ∧ St T Z (α ++ [a]) H' (wr ls sub0 s ++ [o]) := fun {sub' β' H'} c1 c2 gY stY' => by
      obtain ⟨w, ew⟩ := gY.pre
      have lw : w.length = 1 := by
        have l1 := stY'.len
        rw [c1, ← ew, List.length_append, bl] at l1
        omega
      obtain ⟨a, rfl⟩ := List.length_eq_one_iff.mp lw
      subst ew
      obtain ⟨sub0, o, rfl⟩ : ∃ sub0 o, sub' = sub0 ++ [o] := ⟨sub'.dropLast, sub'.getLast (fun e => by rw [e] at c1; simp at c1), (List.dropLast_concat_getLast _).symm⟩
      have l0 : sub0.length = ls.length := by simpa using c1
      have f0 : sub0.all flat = true := List.all_eq_true.mpr fun u m => List.all_eq_true.mp c2 u (List.mem_append_left _ m)
      have fo : flat o = true := List.all_eq_true.mp c2 o (by simp)
      have ga : (β ++ [a])[ls.length]? = some a := by rw [← bl]; simp
      have go_ : (sub0 ++ [o])[ls.length]? = some o := by rw [← l0]; simp
      -- what is hidden
      have hb : ∀ b, b ∈ hid (β ++ [a]) (sub0 ++ [o]) ↔ b ∈ β ∨ b = a := fun b => by
        rw [hid_app (by rw [bl, l0]) (flat_live fo), List.mem_append, bhid sub0 l0 f0 b]; simp
      have ahid : a ∈ Y ++ hid (β ++ [a]) (sub0 ++ [o]) := List.mem_append_right _ ((hb a).mpr (.inr rfl))
      have ny : a ∉ Y := stY'.dz a (by simp)
      have nb : a ∉ β := fun m => by
        have := List.nodup_append.mp stY'.nd
        exact this.2.2 a m a (by simp) rfl
      have nhid : a ∉ hid α s := fun m => by
        by_cases q : a ∈ β
        · exact nb q
        · exact ny (by rw [hY]; exact List.mem_append_right _ (List.mem_filter.mpr ⟨m, decide_eq_true q⟩))
      have nz : a ∉ Z := fun m => ny (by rw [hY]; exact List.mem_append_left _ m)
      have na : a ∉ α := fun m => by
        obtain ⟨u, eu⟩ := st.dom a m
        have v1 : pur Y β sub H a = some u := by
          rw [ypur sub H sl subf, hide_out (fun z => (List.mem_append.mp z).elim nz nhid)]; exact eu
        have v2 := gY.same a u v1
        rw [pur_in ahid] at v2
        cases v2
      have hset : ∀ b, b ∈ hid α (wr ls sub0 s) ↔ b ∈ hid α s := fun b => by
        constructor
        · intro m
          obtain ⟨l, u, e1, e2, e3⟩ := mem_hid.mp m
          by_cases q : l ∈ ls
          · obtain ⟨i, hi⟩ := List.mem_iff_getElem?.mp q
            obtain ⟨o', _, e4, f⟩ := sg i l hi
            exact mem_hid.mpr ⟨l, o', e1, e4, flat_live f⟩
          · rw [wr_out q] at e2
            exact mem_hid.mpr ⟨l, u, e1, e2, e3⟩
        · intro m
          obtain ⟨l, u, e1, e2, e3⟩ := mem_hid.mp m
          by_cases q : l ∈ ls
          · obtain ⟨i, hi⟩ := List.mem_iff_getElem?.mp q
            have li : i < sub0.length := by rw [l0]; exact (List.getElem?_eq_some_iff.mp hi).1
            refine mem_hid.mpr ⟨l, sub0[i], e1, by rw [wr_in lnd l0.symm lt hi]; simp [li], flat_live (List.all_eq_true.mp f0 _ (List.getElem_mem _))⟩
          · exact mem_hid.mpr ⟨l, u, e1, by rw [wr_out q]; exact e2, e3⟩
      have lw2 : α.length = (wr ls sub0 s).length := by rw [wr_len]; exact st.len
      have ep : pur Z (α ++ [a]) (wr ls sub0 s ++ [o]) H' = pur Y (β ++ [a]) (sub0 ++ [o]) H' := hide_congr (fun b => by
        rw [List.mem_append, List.mem_append, hb b, hid_app lw2 (flat_live fo), List.mem_append, hset b]
        have y := yset sub0 l0 f0 b
        rw [List.mem_append, List.mem_append, bhid sub0 l0 f0 b] at y
        simp only [List.mem_singleton]
        constructor
        · rintro (m | m | m)
          · rcases y.mpr (.inl m) with z | z
            · exact .inl z
            · exact .inr (.inl z)
          · rcases y.mpr (.inr m) with z | z
            · exact .inl z
            · exact .inr (.inl z)
          · exact .inr (.inr m)
        · rintro (m | m | m)
          · rcases y.mp (.inl m) with z | z
            · exact .inl z
            · exact .inr (.inl z)
          · rcases y.mp (.inr m) with z | z
            · exact .inl z
            · exact .inr (.inl z)
          · exact .inr (.inr m)) H'
      have gs : Same (pur Z α s H) (pur Y (β ++ [a]) (sub0 ++ [o]) H') := by
        have := gY.same
        rw [ypur sub H sl subf] at this
        exact this
      have zk : ∀ b, b ∈ Z ++ hid α s → b ∉ β → H' b = H b := fun b m n => gY.zk b (by
        rw [hY]
        rcases List.mem_append.mp m with m | m
        · exact List.mem_append_left _ m
        · exact List.mem_append_right _ (List.mem_filter.mpr ⟨m, decide_eq_true n⟩))
      have dm : ∀ b, (∃ u, H b = some u) → ∃ u, H' b = some u := fun b ⟨u, e⟩ => gY.dom stY' e
      refine ⟨a, rfl, sub0, o, rfl, l0, ⟨List.prefix_append _ _, by rw [ep]; exact gs, fun b m => zk b (List.mem_append_left _ m) fun z => st.dz b (hid_sub (bsub b z)) m⟩, ?_⟩
      refine ⟨by simp [wr_len, st.len], List.nodup_append.mpr ⟨st.nd, by simp, fun b m c mc => by simp at mc; subst mc; exact fun e => na (e ▸ m)⟩, fun b m => ?_, fun b m => ?_, fun b m => dm b (st.zdom b m), fun l b u e1 e2 => ?_⟩
      · rcases List.mem_append.mp m with m | m
        · exact st.dz b m
        · simp at m; subst m; exact nz
      · rcases List.mem_append.mp m with m | m
        · exact dm b (st.dom b m)
        · simp at m; subst m; exact stY'.dom b (by simp)
      · rw [ep]
        by_cases hl : l < α.length
        · rw [List.getElem?_append_left hl] at e1
          rw [List.getElem?_append_left (by rw [← lw2]; exact hl)] at e2
          by_cases q : l ∈ ls
          · obtain ⟨i, hi⟩ := List.mem_iff_getElem?.mp q
            have li := (List.getElem?_eq_some_iff.mp hi).1
            rw [wr_in lnd l0.symm lt hi] at e2
            obtain ⟨b', q1, q2⟩ := bg i l hi
            rw [e1] at q2; cases q2
            have f := List.all_eq_true.mp f0 u (List.mem_of_getElem? e2)
            have r := stY'.obj i b u (by rw [List.getElem?_append_left (by rw [bl]; exact li)]; exact q1) (by rw [List.getElem?_append_left (by rw [l0]; exact li)]; exact e2)
            exact r.flat f (Ext.refl _) rfl
          · rw [wr_out q] at e2
            by_cases lv : u.live = true
            · have ma : b ∈ hid α s := mem_hid.mpr ⟨l, u, e1, e2, lv⟩
              have nbb : b ∉ β := fun z => by
                obtain ⟨i, hi⟩ := List.mem_iff_getElem?.mp z
                obtain ⟨l2, q1, q2⟩ := gb i b hi
                have := (List.getElem?_inj (List.getElem?_eq_some_iff.mp e1).1 st.nd).mp (e1.trans q2.symm)
                subst this
                exact q (List.mem_of_getElem? q1)
              exact (st.obj l b u e1 e2).mono (Ext.same gs) (List.prefix_append _ _) (zk b (List.mem_append_right _ ma) nbb)
            · cases u with
              | fz x => exact (show RP T (pur Z α s H) x (.ref b) from st.obj l b _ e1 e2).ext (Ext.same gs)
              | _ => exact (lv rfl).elim
        · have el : l = α.length := by
            have := (List.getElem?_eq_some_iff.mp e1).1
            simp at this; omega
          subst el
          rw [List.getElem?_append_right (Nat.le_refl _)] at e1
          rw [List.getElem?_append_right (by rw [← lw2]; exact Nat.le_refl _)] at e2
          simp [← lw2] at e1 e2
          subst e1; subst e2
          exact (stY'.obj ls.length a o ga go_).flat fo (Ext.refl _) rfl
    cases hg : g (ds.map (ren ls)) sub with
    | bad => rw [hg] at h; exact h.elim
    | ok d sub' =>
      rw [hg] at h
      cases d with
      | ref j =>
        dsimp only at h
        by_cases c : (decide (sub'.length = ls.length + 1) && (decide (j = ls.length) && sub'.all flat)) = true
        · rw [if_pos c] at h
          intro β' H' v gY stY' r
          obtain ⟨c1, c⟩ := Bool.and_eq_true_iff.mp c
          obtain ⟨c2, c3⟩ := Bool.and_eq_true_iff.mp c
          have c1 := of_decide_eq_true c1
          have c2 := of_decide_eq_true c2
          subst c2
          obtain ⟨a, ha, sub0, o, es, eo, b1, b2⟩ := backN c1 c3 gY stY'
          cases r with
          | @ref _ a' ra =>
            rw [ha, List.getElem?_append_right (by rw [bl]; exact Nat.le_refl _)] at ra
            rw [bl] at ra
            simp at ra
            subst ra
            have e2 : sub'.getD ls.length (.lst []) = o := by
              rw [es, List.getD_eq_getElem?_getD, List.getElem?_append_right (by omega)]
              simp [eo]
            have e3 : wr ls sub' s = wr ls sub0 s := by rw [es]; exact wr_app eo
            rw [e2, e3] at h
            exact h (α ++ [a]) H' (.ref a) b1 b2 (.ref (by rw [← st.len]; simp))
        · rw [if_neg c] at h; exact h.elim
      | p x =>
        dsimp only at h
        by_cases c : (decide (sub'.length = ls.length) && sub'.all flat) = true
        · rw [if_pos c] at h
          intro β' H' v gY stY' r
          obtain ⟨b1, b2, b3⟩ := back c gY stY'
          cases r with | p r => exact h α H' v b1 b2 (.p (by rw [b3]; exact r))
        · rw [if_neg c] at h; exact h.elim
    | exc c v sub' =>
      rw [hg] at h
      dsimp only at h
      by_cases c : (decide (sub'.length = ls.length) && sub'.all flat) = true
      · rw [if_pos c] at h
        intro β' H' dd u gY stY' e1 r
        obtain ⟨b1, b2, b3⟩ := back c gY stY'
        exact h α H' dd u b1 b2 (by rw [b3]; exact e1) (by rw [b3]; exact r)
      · rw [if_neg c] at h; exact h.elim
/-- f(e, ..) -/
def dCall (n : Nat) (g : DF) (f : DA) : DE := fun env s => (f env s).bind fun ds s => if ds.length = n then callF g ds s else .bad
theorem e_call {k n : Nat} {f : Addr} {fd : FuncData} {ps : List Str} {g : DF} {x : Str} {e : Expr} {es : List Expr} {fa : DA} {p pos : Pos} (tk : Takes X W) (F : FnG X.prog X.w X.K X.mg X.base k f fd ps (spG T n g)) (hr : RmG k X.A) (hg : Gl X x) (hm : X.mg x = some (.ref f)) (hk : PySem.W.keepIn X.K (.ref f) = true)
    (hb : Binds X.K fd ps []) (ha : PA X (e :: es) (rdA T W fa)) (hdb : (x == ("__debug__" : Str)) = false := by decide) (he : starEach (e :: es) X.env = (false, eval e X.env) :: starEach es X.env := by rfl) (hpl : (backTo pos (starEach es X.env)).any (·.1) = false := by rfl) :
    PE X (.Call (.Name x p) (e :: es) [] pos) (rd T W (dCall n g fa)) := by
  constructor
  intro pins s σ H Q I h
  refine wpAny_Call_Name_kw (ld_glob I hg hm ?_ hdb)
  obtain ⟨Z, α, env, s0, st, re, h⟩ := h
  refine PySem.W.callWith_K (h₀ := X.base) I.ok.mod.kin hk (thn (ha.run pos pins s σ H _ I ⟨Z, α, env, s0, st, re, Post.split (Rel := relA T) h⟩) fun us s1 ⟨vs, H1, I1, r, q⟩ => ⟨I1.kIn, ?_⟩) he hpl
  obtain ⟨α1, ds, s2, _, g1, st1, r1, h1⟩ := q
  by_cases q : ds.length = n
  · rw [if_pos q] at h1
    exact run_g tk F hr hb I1 r (callF_ok q st1 r1 h1)
  · rw [if_neg q] at h1; exact h1.elim
end
end Ev

set_option Elab.async false
set_option linter.all false
set_option maxRecDepth 100000
set_option maxHeartbeats 2000000
/-! Ev6: what is walked; for loops, list comprehensions. -/
namespace Ev
open PySem PySem.Spec PyProof.Rows L2
/-- the walked thing J gives these items; G0: the pure part of the heap as it came -/
def Src (T : Tb) (G0 : Hp) (items : List P) (J : It) : Prop := ∃ (n : Nat) (G : Hp → Prop) (Y : Nat → Hp → V → Hp → Prop), Walk J n G Y ∧ n = items.length ∧ (∀ H1, Same G0 H1 → G H1) ∧
  ∀ (i : Nat) H1 x H2 y, Same G0 H1 → items[i]? = some y → Y i H1 x H2 → Same H1 H2 ∧ ∀ L, (∀ a ∈ L, ∃ o, H1 a = some o) → Same G0 (hide L H1) → RP T (hide L H2) y x
abbrev relI (T : Tb) : Rl (List P) It := fun _ G _ items J => Src T G items J
abbrev DI := Env → Sto → R (List P)
abbrev rdI (T : Tb) (W : WX) (f : DI) : TI := rdG T (relI T) W f
section
variable {X : Cx} {T : Tb} {W : WX}
theorem _root_.L2.PI.imp {X : Cx} {tg it : Expr} {t t' : TI} (h : PI X tg it t) (k : ∀ σ H R', t' σ H R' → t σ H R') : PI X tg it t' := ⟨fun pins s σ H R' I q => h.run pins s σ H R' I (k _ _ _ q)⟩
/-! ### sources -/
def dSrcL (f : DE) : DI := fun env s => (f env s).bind fun d s => match d with
  | .p (.lst xs) => .ok xs s
  | _ => .bad
def dSrcT (f : DE) : DI := fun env s => (f env s).bind fun d s => match d with
  | .p (.tup xs) => .ok xs s
  | _ => .bad
theorem i_list {tg l : Expr} {f : DE} (hK : T.K = X.K) (hl : PE X l (rd T W f)) : PI X tg l (rdI T W (dSrcL f)) := (pi_list hl).imp fun σ H R' h => by
  obtain ⟨Z, α, env, s, st, re, h⟩ := h
  refine ⟨Z, α, env, s, st, re, (Post.split (Rel := relD T) h).mono fun v H1 ⟨α1, d, s1, _, g1, st1, r1, h1⟩ => ?_⟩
  cases r1 with
  | ref _ => exact h1.elim
  | @p x v r =>
    cases r with
    | @lst xs a vs hq0 rs =>
      have hq : SqL T.K _ a vs := .inl hq0
      have k := hide_ext (Z ++ hid α1 s1) H1
      rw [hK] at hq
      refine ⟨a, rfl, ⟨vs, (Ext.same k).sqL hq⟩, Post.done (a := xs) h1 st1 ⟨_, _, _, walk_list (xs := vs), rs.length, fun H2 q => (Ext.same q).sqL hq, ?_⟩⟩
      intro i H2 x H3 y q e ⟨e1, e2⟩
      subst e1
      refine ⟨Same.refl _, fun L _ kL => ?_⟩
      obtain ⟨u, e3, r⟩ := rs.get e
      rw [e2] at e3; cases e3
      exact r.ext (Ext.same kL)
    | _ => exact h1.elim
theorem i_tup {tg l : Expr} {f : DE} (hK : T.K = X.K) (hl : PE X l (rd T W f)) : PI X tg l (rdI T W (dSrcT f)) := (pi_tup hl).imp fun σ H R' h => by
  obtain ⟨Z, α, env, s, st, re, h⟩ := h
  refine ⟨Z, α, env, s, st, re, (Post.split (Rel := relD T) h).mono fun v H1 ⟨α1, d, s1, _, g1, st1, r1, h1⟩ => ?_⟩
  cases r1 with
  | ref _ => exact h1.elim
  | @p x v r =>
    cases r with
    | @tup xs a vs hq rs =>
      have k := hide_ext (Z ++ hid α1 s1) H1
      rw [hK] at hq
      refine ⟨a, rfl, ⟨vs, (Ext.same k).sqT hq⟩, Post.done (a := xs) h1 st1 ⟨_, _, _, walk_tup (xs := vs), rs.length, fun H2 q => (Ext.same q).sqT hq, ?_⟩⟩
      intro i H2 x H3 y q e ⟨e1, e2⟩
      subst e1
      refine ⟨Same.refl _, fun L _ kL => ?_⟩
      obtain ⟨u, e3, r⟩ := rs.get e
      rw [e2] at e3; cases e3
      exact r.ext (Ext.same kL)
    | _ => exact h1.elim
/-- range(n), range(a, b) -/
def rng (lo : Int) (n : Nat) : List P := (List.range n).map fun i => P.int (lo + (i : Nat))
def dRng1 (f : DA) : DI := fun env s => (f env s).bind fun ds s => match ds with
  | [.p (.int j)] => if -(2 ^ 62) ≤ j ∧ j < 2 ^ 62 then .ok (rng 0 j.toNat) s else .bad
  | _ => .bad
def dRng2 (f : DA) : DI := fun env s => (f env s).bind fun ds s => match ds with
  | [.p (.int i), .p (.int j)] => if -(2 ^ 62) ≤ i ∧ i < 2 ^ 62 ∧ -(2 ^ 62) ≤ j ∧ j < 2 ^ 62 then .ok (rng i (j - i).toNat) s else .bad
  | _ => .bad
theorem src_rng {G0 : Hp} {lo : Int} {n : Nat} : Src T G0 (rng lo n) (Itr lo n) := by
  refine ⟨n, _, _, walk_range, by simp [rng], fun _ _ => trivial, ?_⟩
  intro i H2 x H3 y q e ⟨e1, e2⟩
  subst e1
  refine ⟨Same.refl _, fun L _ kL => ?_⟩
  unfold rng at e
  rw [List.getElem?_map] at e
  by_cases hi : i < n
  · rw [List.getElem?_range hi] at e
    cases e
    rw [e2]; exact .int _
  · rw [List.getElem?_eq_none (by simpa using hi)] at e; cases e
theorem RDs.int1 {α : List Addr} {G : Hp} {j : Int} {vs : List V} (h : RDs T α G [.p (.int j)] vs) : vs = [.int j] := by
  cases h with | cons h r => cases r; cases h with | p h => cases h; rfl
theorem RDs.int2 {α : List Addr} {G : Hp} {i j : Int} {vs : List V} (h : RDs T α G [.p (.int i), .p (.int j)] vs) : vs = [.int i, .int j] := by
  cases h with | cons h r => cases h with | p h => cases h; rw [r.int1]
theorem i_rng1 {tg a : Expr} {f : DA} {p pos : Pos} (hg : Gl X "range") (hm : X.mg "range" = none) (ha : PA X [a] (rdA T W f)) (hs : starEach [a] X.env = [(false, eval a X.env)] := by rfl) : PI X tg (.Call (.Name "range" p) [a] [] pos) (rdI T W (dRng1 f)) :=
  (pi_range1 hg hm ha hs).imp fun σ H R' h => by
    obtain ⟨Z, α, env, s, st, re, h⟩ := h
    refine ⟨Z, α, env, s, st, re, (Post.split (Rel := relA T) h).mono fun v H1 ⟨α1, ds, s1, _, g1, st1, r1, h1⟩ => ?_⟩
    split at h1
    · rename_i j _
      have e := r1.int1
      split at h1
      · rename_i c
        exact ⟨j, e, c.1, c.2, Post.done (a := rng 0 j.toNat) h1 st1 src_rng⟩
      · exact h1.elim
    · exact h1.elim
theorem i_rng2 {tg a b : Expr} {f : DA} {p pos : Pos} (hg : Gl X "range") (hm : X.mg "range" = none) (ha : PA X [a, b] (rdA T W f)) (hs : starEach [a, b] X.env = [(false, eval a X.env), (false, eval b X.env)] := by rfl) (hs2 : starEach [b] X.env = [(false, eval b X.env)] := by rfl) : PI X tg (.Call (.Name "range" p) [a, b] [] pos) (rdI T W (dRng2 f)) :=
  (pi_range2 hg hm ha hs hs2).imp fun σ H R' h => by
    obtain ⟨Z, α, env, s, st, re, h⟩ := h
    refine ⟨Z, α, env, s, st, re, (Post.split (Rel := relA T) h).mono fun v H1 ⟨α1, ds, s1, _, g1, st1, r1, h1⟩ => ?_⟩
    split at h1
    · rename_i i j _
      have e := r1.int2
      split at h1
      · rename_i c
        exact ⟨i, j, e, ⟨c.1, c.2.1, c.2.2.1, c.2.2.2⟩, Post.done (a := rng i (j - i).toNat) h1 st1 src_rng⟩
      · exact h1.elim
    · exact h1.elim
/-- enumerate(xs) -/
def enums (xs : List P) : List P := xs.zipIdx.map fun q => P.tup [.int (q.2 : Nat), q.1]
def dEnum (f : DA) : DI := fun env s => (f env s).bind fun ds s => match ds with
  | [.p (.lst xs)] => .ok (enums xs) s
  | _ => .bad
theorem pair_new {L : List Addr} {H1 : Hp} {t : Addr} {x y : V} {a b : P} (hL : ∀ a ∈ L, ∃ o, H1 a = some o) (ht : H1 t = none) (ra : RP T (hide L H1) a x) (rb : RP T (hide L H1) b y) : RP T (hide L (upd H1 t (.tup [x, y]))) (.tup [a, b]) (.ref t) :=
  .tup (.of (hide_new hL ht)) (.cons (ra.ext (Ext.same (hide_same (same_new ht)))) (.cons (rb.ext (Ext.same (hide_same (same_new ht)))) .nil))
theorem i_enum {e : Expr} {f : DA} {p pos tpos : Pos} {elts : List Expr} {kk : Nat} (hK : T.K = X.K) (hg : Gl X "enumerate") (hm : X.mg "enumerate" = none) (ha : PA X [e] (rdA T W f)) (hs : starEach [e] X.env = [(false, eval e X.env)] := by rfl) :
    PI X (.Tuple elts kk tpos) (.Call (.Name "enumerate" p) [e] [] pos) (rdI T W (dEnum f)) :=
  (pi_enum hg hm ha hs).imp fun σ H R' h => by
    obtain ⟨Z, α, env, s, st, re, h⟩ := h
    refine ⟨Z, α, env, s, st, re, (Post.split (Rel := relA T) h).mono fun v H1 ⟨α1, ds, s1, _, g1, st1, r1, h1⟩ => ?_⟩
    split at h1
    · rename_i xs _
      cases r1 with
      | cons r1 rr =>
        cases rr
        cases r1 with
        | p r1 =>
          cases r1 with
          | @lst _ a vs hq0 rs =>
            have hq : SqL T.K _ a vs := .inl hq0
            rw [hK] at hq
            refine ⟨a, vs, rfl, (Ext.same (hide_ext _ _)).sqL hq, Post.done (a := enums xs) h1 st1 ⟨_, _, _, walk_enum (xs := vs), by simp [enums, rs.length], fun H2 q => (Ext.same q).sqL hq, ?_⟩⟩
            intro i H2 x H3 y q e ⟨t, x1, x2, e1, e2, e3, e4, e5⟩
            subst e1; subst e3
            refine ⟨same_new e2, fun L hL kL => ?_⟩
            have e4' := Option.some.inj e4
            subst e4'
            obtain ⟨y2, e6, r⟩ := rs.getV e5
            unfold enums at e
            rw [List.getElem?_map, List.getElem?_zipIdx, e6] at e
            cases e
            exact pair_new hL e2 (by rw [Nat.zero_add]; exact .int _) (r.ext (Ext.same kL))
    · exact h1.elim
/-- zip of two lists -/
def dZip (f : DA) : DI := fun env s => (f env s).bind fun ds s => match ds with
  | [.p (.lst xs), .p (.lst ys)] => .ok ((xs.zip ys).map fun q => P.tup [q.1, q.2]) s
  | _ => .bad
theorem i_zip {e e2 : Expr} {f : DA} {p pos tpos : Pos} {elts : List Expr} {kk : Nat} (hK : T.K = X.K) (hg : Gl X "zip") (hm : X.mg "zip" = none) (ha : PA X [e, e2] (rdA T W f))
    (hs : starEach [e, e2] X.env = (false, eval e X.env) :: starEach [e2] X.env := by rfl) (hpl : (backTo pos (starEach [e2] X.env)).any (·.1) = false := by rfl) : PI X (.Tuple elts kk tpos) (.Call (.Name "zip" p) [e, e2] [] pos) (rdI T W (dZip f)) :=
  (pi_zip hg hm ha hs hpl).imp fun σ H R' h => by
    obtain ⟨Z, α, env, s, st, re, h⟩ := h
    refine ⟨Z, α, env, s, st, re, (Post.split (Rel := relA T) h).mono fun v H1 ⟨α1, ds, s1, _, g1, st1, r1, h1⟩ => ?_⟩
    split at h1
    · rename_i xs ys _
      cases r1 with
      | cons r1 rr =>
        cases rr with
        | cons r2 rr =>
          cases rr
          cases r1 with
          | p r1 =>
            cases r2 with
            | p r2 =>
              cases r1 with
              | @lst _ a vs hq0 rs =>
                have hq : SqL T.K _ a vs := .inl hq0
                cases r2 with
                | @lst _ b us hq3 rs2 =>
                  have hq2 : SqL T.K _ b us := .inl hq3
                  rw [hK] at hq hq2
                  refine ⟨a, b, vs, us, rfl, (Ext.same (hide_ext _ _)).sqL hq, (Ext.same (hide_ext _ _)).sqL hq2, Post.done (a := (xs.zip ys).map fun q => P.tup [q.1, q.2]) h1 st1 ⟨_, _, _, walk_zip (xs := vs) (ys := us) rfl, by simp [rs.length, rs2.length], fun H2 q => ⟨(Ext.same q).sqL hq, (Ext.same q).sqL hq2⟩, ?_⟩⟩
                  intro i H2 x H3 y q e ⟨t, x1, x2, e1, e2, e3, e4, e5⟩
                  subst e1; subst e3
                  refine ⟨same_new e2, fun L hL kL => ?_⟩
                  obtain ⟨y1, e6, r⟩ := rs.getV e4
                  obtain ⟨y2, e7, r'⟩ := rs2.getV e5
                  rw [List.getElem?_map, show (xs.zip ys)[i]? = some (y1, y2) from List.getElem?_zip_eq_some.mpr ⟨e6, e7⟩] at e
                  cases e
                  exact pair_new hL e2 (r.ext (Ext.same kL)) (r'.ext (Ext.same kL))
    · exact h1.elim

/-! ### for -/
def forL (t : DG) (b : DS) : List P → DS
  | [] => fun env s => .nx env s
  | x :: r => fun env s => match t (.p x) env with
    | none => .bad
    | some env1 => match b env1 s with
      | .nx env s => forL t b r env s
      | .ct env s => forL t b r env s
      | .bk env s => .nx env s
      | q => q
def dFor (src : DI) (t : DG) (b : DS) : DS := fun env s => (src env s).bindS env fun items s => forL t b items env s
theorem s_for {tg iter : Expr} {body : List Stmt} {src : DI} {g : TG} {t : DG} {fb : DS} {vs : List Nat} {pos : Pos} (hp : PassesOwn (model X.prog X.w) X.A X.env X.xe) (hc : X.calm = true) (hi : PI X tg iter (rdI T W src)) (hg : PG X tg g) (ht : TgtOk T g t vs) (hb : PSs X body (rdS T W fb))
    (hs : ∀ x, foldedSetIterable iter X.env x = pure x := by intro _; rfl) : PS X (.For tg iter body [] pos) (rdS T W (dFor src t fb)) :=
  (ps_for hp hc hi hg hb hs).imp fun D σ H h => by
    obtain ⟨Z, α, env, s, st, re, h⟩ := h
    refine ⟨Z, α, env, s, st, re, (PostS.exp (Rel := relI T) re h).mono fun J H1 ⟨α1, items, s1, _, g1, st1, ⟨n, G, Y, w, hn, hG, hY⟩, re1, h1⟩ => ?_⟩
    refine for_it w (fun i σ' H' => ∃ α' env' s', St T Z α' H' s' ∧ RE T α' (pur Z α' s' H') env' σ' ∧ Same (pur Z α1 s1 H1) (pur Z α' s' H') ∧ PostS T Z α' s' H' W (forL t fb (items.drop i) env' s') D) ?_ ?_ ?_ ?_
    · exact ⟨α1, env, s1, st1, re1, Same.refl _, h1⟩
    · rintro i σ' H' hi ⟨α', env', s', st', re', k, _⟩
      exact hG H' (k.trans (hide_ext _ _))
    · rintro i x σ' H' H2 hi ⟨α', env', s', st', re', k, q⟩ hy
      have li : i < items.length := by omega
      have ei : items[i]? = some items[i] := by simp [li]
      obtain ⟨sm, rx⟩ := hY i H' x H2 items[i] (k.trans (hide_ext _ _)) ei hy
      have rx := rx (Z ++ hid α' s') (hid_dom st') k
      have st2 := st'.same sm
      have g2 := Go.of_same st' sm
      have re2 := re'.go g2.ext (List.prefix_refl _)
      rw [List.drop_eq_getElem_cons li] at q
      unfold forL at q
      cases e : t (.p items[i]) env' with
      | none => rw [e] at q; exact q.elim
      | some env1 =>
        rw [e] at q
        dsimp only at q
        refine ht Z α' s' H2 env' env1 σ' _ x _ st2 re2 (.p rx) e fun σ1 re3 _ => ⟨Z, α', env1, s', st2, re3, ?_⟩
        have go : ∀ {env2 : Env} {s2 : Sto}, PostS T Z α' s' H' W (forL t fb (items.drop (i + 1)) env2 s2) D → ∀ α2 H3 σ3, Go Z α' s' H2 α2 s2 H3 → St T Z α2 H3 s2 → RE T α2 (pur Z α2 s2 H3) env2 σ3 →
            ∃ α' env' s', St T Z α' H3 s' ∧ RE T α' (pur Z α' s' H3) env' σ3 ∧ Same (pur Z α1 s1 H1) (pur Z α' s' H3) ∧ PostS T Z α' s' H3 W (forL t fb (items.drop (i + 1)) env' s') D :=
          fun q α2 H3 σ3 g3 st3 re4 => ⟨α2, _, _, st3, re4, k.trans ((g2.trans g3).same), PostS.from q (g2.trans g3)⟩
        cases eb : fb env1 s' with
        | nx env2 s2 => rw [eb] at q; exact fun α2 H3 σ3 g3 st3 re4 => go q α2 H3 σ3 g3 st3 re4
        | ct env2 s2 => rw [eb] at q; exact fun α2 H3 σ3 g3 st3 re4 => go q α2 H3 σ3 g3 st3 re4
        | bk env2 s2 => rw [eb] at q; exact fun α2 H3 σ3 g3 st3 re4 => q α2 H3 σ3 (g2.trans g3) st3 re4
        | rt d s2 => rw [eb] at q; exact fun α2 H3 σ3 g3 st3 re4 => q α2 H3 σ3 (g2.trans g3) st3 re4
        | exc c v env2 s2 => rw [eb] at q; exact fun α2 H3 σ3 dd u g3 st3 re4 => q α2 H3 σ3 dd u (g2.trans g3) st3 re4
        | bad => rw [eb] at q; exact q.elim
    · rintro σ' H' ⟨α', env', s', st', re', k, q⟩
      rw [hn, List.drop_length] at q
      exact PostS.here st' re' q

/-! ### [e for x in .. if ..] -/
def R.nox {A : Type} : R A → R A
  | .exc _ _ _ => .bad
  | r => r
@[simp] theorem R.nox_ok {A : Type} (a : A) (s : Sto) : (R.ok a s).nox = .ok a s := rfl
def wipeE (env : Env) : List Nat → Env
  | [] => env
  | v :: vs => (wipeE env vs).set v none
def compL (t : DG) (c : DT) (e : DE) (vs : List Nat) : List P → Env → Sto → R (List P)
  | [], _, s => .ok [] s
  | x :: r, env, s => match t (.p x) (wipeE env vs) with
    | none => .bad
    | some env1 => (c env1 s).nox.bind fun k s1 => if k = true then (e env1 s1).nox.bind fun d s2 => match d with
        | .p y => (compL t c e vs r env s2).bind fun ys s3 => .ok (y :: ys) s3
        | _ => .bad
      else compL t c e vs r env s1
def dComp (src : DI) (t : DG) (c : DT) (e : DE) (vs : List Nat) : Env → Sto → R O := fun env s => (src env s).bind fun items s1 => if items.length ≤ 1000000 then (compL t c e vs items env s1).bind fun ys s2 => .ok (.lst ys) s2 else .bad
def dYes : DT := fun _ s => .ok true s
abbrev W0 : WX := fun _ _ _ _ => False
theorem c_nil : PTs X [] (rdT T W dYes) := ⟨fun pins s σ H Q I ⟨Z, α, env, s0, st, re, h⟩ => pts_nil.run pins s σ H Q I (show tYes σ H Q from Post.done (a := true) h st rfl)⟩
theorem c_one {c : Expr} {f : DT} (h : PT X c (rdT T W f)) : PTs X [c] (rdT T W f) := pts_one h
theorem RE.wipe {α : List Addr} {G : Hp} {env : Env} {σ : L2.St} (h : RE T α G env σ) : ∀ vs : List Nat, RE T α G (wipeE env vs) (wipe σ vs)
  | [] => h
  | v :: vs => (h.wipe vs).unset v none
theorem Post.nox {A B : Type} {Rel : Rl A B} {Z α : List Addr} {s : Sto} {H : Hp} {σ : L2.St} {r : R A} {Q : B → Hp → Prop} {k : A → Sto → R (List P)} {f : List P → Sto → R D} {Z' α' : List Addr} {s' : Sto} {H' : Hp} {Q' : VK} {σ' : L2.St} (h : Post T (relD T) Z' α' s' H' W σ' (((r.nox).bind k).bind f) Q')
    (g : ∀ a s1, r = .ok a s1 → Post T (relD T) Z' α' s' H' W σ' ((k a s1).bind f) Q' → ∀ α1 H1 b, Go Z α s H α1 s1 H1 → St T Z α1 H1 s1 → Rel α1 (pur Z α1 s1 H1) H1 a b → Q b H1) : Post T Rel Z α s H W0 σ r Q := by
  cases r with
  | ok a s1 => exact g a s1 rfl h
  | exc c v s1 => exact h.elim
  | bad => exact h.elim
theorem line1M {n : Nat} (h : n < 1000000) : n < sizeLine := by rw [sizeLine_eq]; omega
theorem e_comp {elt tg iter : Expr} {ifs : List Expr} {scope : Scope} {own : List (Str × Nat)} {pos : Pos} {src : DI} {g : TG} {t : DG} {fc : DT} {fe : DE} {vs : List Nat} (hc : X.calm = true) (hN : X.N.Nodup) (hi : PI X tg iter (rdI T W src)) (ok : BlkOk X.N X.env.scope scope own)
    (hg : ∀ (s : Shared) (H : Hp) (C : Addr) (cl : List (Str × Addr)) (fp : List Addr), PG (X.blk s H scope (compEnvC scope cl C X.env) fp) tg g) (ht : TgtOk T g t vs) (hv : ∀ i ∈ vs, i ∈ own.map (·.2))
    (hif : ∀ (s : Shared) (H : Hp) (C : Addr) (cl : List (Str × Addr)) (fp : List Addr), PTs (X.blk s H scope (compEnvC scope cl C X.env) fp) ifs (rdT T W0 fc))
    (he : ∀ (s : Shared) (H : Hp) (C : Addr) (cl : List (Str × Addr)) (fp : List Addr), PE (X.blk s H scope (compEnvC scope cl C X.env) fp) elt (rd T W0 fe)) (hs : ∀ x, foldedSetIterable iter X.env x = pure x := by intro _; rfl) :
    PE X (.ListComp elt [⟨tg, iter, ifs, 0⟩] scope pos) (rd T W (dNew (dComp src t fc fe (own.map (·.2))))) :=
  (pe_lc hc hN hi ok hg hif he hs).imp fun σ H Q h => by
    obtain ⟨Z, α, env, s, st, re, h⟩ := h
    have h' : Post T (relD T) Z α s H W σ ((src env s).bind fun items s1 => (if items.length ≤ 1000000 then (compL t fc fe (own.map (·.2)) items env s1).bind fun ys s2 => R.ok (O.lst ys) s2 else .bad).bind fun o s => .ok (.ref s.length) (s ++ [o])) Q := by
      have e : dNew (dComp src t fc fe (own.map (·.2))) env s = _ := rfl
      rw [e] at h
      unfold dNew dComp at h
      cases q : src env s <;> rw [q] at h <;> exact h
    refine ⟨Z, α, env, s, st, re, (Post.split (Rel := relI T) h').mono fun J H1 ⟨α1, items, s1, _, g1, st1, ⟨n, G, Y, w, hn, hG, hY⟩, h1⟩ => ?_⟩
    by_cases hz : items.length ≤ 1000000
    · rw [if_pos hz] at h1
      intro D hD
      have re1 := re.go g1.ext g1.pre
      obtain ⟨sv, kv⟩ := st1.veil (u := .lst []) hD
      have h2 : Post T (relD T) Z α1 s1 H1 W σ ((compL t fc fe (own.map (·.2)) items env s1).bind fun ys s2 => .ok (.ref s2.length) (s2 ++ [.lst ([] ++ ys)])) Q := by
        cases q : compL t fc fe (own.map (·.2)) items env s1 <;> rw [q] at h1 <;> exact h1
      refine lc_it w (fun i H' => ∃ α' s' acc us, St T (D :: Z) α' H' s' ∧ RE T α' (pur (D :: Z) α' s' H') env σ ∧ α1 <+: α' ∧ Same (pur Z α1 s1 H1) (pur (D :: Z) α' s' H') ∧ (∀ a ∈ Z, H' a = H1 a) ∧ H' D = some (.lst us) ∧ RPs T (pur (D :: Z) α' s' H') acc us ∧ acc.length ≤ i ∧
        Post T (relD T) Z α1 s1 H1 W σ ((compL t fc fe (own.map (·.2)) (items.drop i) env s').bind fun ys s2 => .ok (.ref s2.length) (s2 ++ [.lst (acc ++ ys)])) Q) ?_ ?_ ?_ ?_
      · exact ⟨α1, s1, [], [], sv, re1.go (Ext.same kv) (List.prefix_refl _), List.prefix_refl _, kv, (fun a m => upd_ne (fun e => by obtain ⟨o, z⟩ := st1.zdom a m; rw [e, hD] at z; cases z)), upd_same, .nil, Nat.le_refl _, h2⟩
      · rintro i H' hi ⟨α', s', acc, us, st', re', pr, k, zk, hd, ra, la, q⟩
        exact hG H' (k.trans (hide_ext _ _))
      · rintro i x H' H2 hi ⟨α', s', acc, us, st', re', pr, k, zk, hd, ra, la, q⟩ hy
        have li : i < items.length := by omega
        have ei : items[i]? = some items[i] := by simp [li]
        obtain ⟨sm, rx⟩ := hY i H' x H2 items[i] (k.trans (hide_ext _ _)) ei hy
        have rx := rx ((D :: Z) ++ hid α' s') (hid_dom st') k
        have st2 := st'.same sm
        have g2 := Go.of_same st' sm
        have re2 := (re'.go g2.ext (List.prefix_refl _)).wipe (own.map (·.2))
        rw [List.drop_eq_getElem_cons li] at q
        unfold compL at q
        cases e : t (.p items[i]) (wipeE env (own.map (·.2))) with
        | none => rw [e] at q; exact q.elim
        | some env1 =>
          rw [e] at q
          dsimp only at q
          refine ht (D :: Z) α' s' H2 _ env1 _ _ x _ st2 re2 (.p rx) e fun σ1 re3 wp => ⟨(wp _ hv).trans (by
            apply List.ext_getElem?
            intro j
            by_cases hj : j < σ.length
            · rw [wipe_get _ _ _ (by rw [wipe_length]; exact hj), wipe_get _ _ _ hj]
              split <;> rfl
            · rw [List.getElem?_eq_none (by rw [wipe_length, wipe_length]; omega), List.getElem?_eq_none (by rw [wipe_length]; omega)]), D :: Z, α', env1, s', st2, re3, ?_⟩
          -- what stays, from any later state
          have later : ∀ {α3 : List Addr} {s3 : Sto} {H3 : Hp}, Go (D :: Z) α' s' H2 α3 s3 H3 → RE T α3 (pur (D :: Z) α3 s3 H3) env σ ∧ α1 <+: α3 ∧ Same (pur Z α1 s1 H1) (pur (D :: Z) α3 s3 H3) ∧ (∀ a ∈ Z, H3 a = H1 a) ∧ H3 D = some (.lst us) ∧ RPs T (pur (D :: Z) α3 s3 H3) acc us :=
            fun {α3 s3 H3} g3 => by
              have g := g2.trans g3
              exact ⟨re'.go g.ext g.pre, pr.trans g.pre, k.trans g.same, fun a m => (g.zk a (List.mem_cons_of_mem _ m)).trans (zk a m), (g.zk D List.mem_cons_self).trans hd, ra.ext g.ext⟩
          refine Post.nox q fun kb s3 ec q3 α3 H3 b g3 st3 rb => ?_
          have rb' : b = kb := rb
          subst rb'
          cases b with
          | false =>
            rw [if_neg Bool.false_ne_true] at q3 ⊢
            obtain ⟨l1, l2, l3, l4, l5, l6⟩ := later g3
            exact ⟨α3, s3, acc, us, st3, l1, l2, l3, l4, l5, l6, Nat.le_succ_of_le la, q3⟩
          | true =>
            rw [if_pos rfl] at q3 ⊢
            refine ⟨D :: Z, α3, env1, s3, st3, re3.go g3.ext g3.pre, ?_⟩
            refine Post.nox q3 fun d s4 ee q4 α4 H4 y g4 st4 ry => ?_
            cases ry with
            | ref _ => exact q4.elim
            | @p z v rz =>
              obtain ⟨l1, l2, l3, l4, l5, l6⟩ := later (g3.trans g4)
              have lus : us.length ≤ i := by rw [l6.length]; exact la
              refine ⟨us, l5, line1M (by omega), ?_⟩
              have sD : Same (pur (D :: Z) α4 s4 H4) (pur (D :: Z) α4 s4 (upd H4 D (.lst (us ++ [y])))) := fun a o ea => by
                obtain ⟨na, ea⟩ := hide_some ea
                have nD : a ≠ D := fun e => na (by rw [e]; simp)
                rw [pur_out na, upd_ne nD]; exact ea
              have st5 : St T (D :: Z) α4 (upd H4 D (.lst (us ++ [y]))) s4 := by
                have nD : ∀ a ∈ α4, a ≠ D := fun a m e => st4.dz a m (by rw [e]; simp)
                refine ⟨st4.len, st4.nd, st4.dz, fun a m => ?_, fun a m => ?_, fun l a o e1 e2 => ?_⟩
                · rw [upd_ne (nD a m)]; exact st4.dom a m
                · by_cases e : a = D
                  · rw [e, upd_same]; exact ⟨_, rfl⟩
                  · rw [upd_ne e]; exact st4.zdom a m
                · exact (st4.obj l a o e1 e2).mono (Ext.same sD) (List.prefix_refl _) (upd_ne (nD a (List.mem_of_getElem? e1)))
              refine ⟨α4, s4, acc ++ [z], us ++ [y], st5, l1.go (Ext.same sD) (List.prefix_refl _), l2, l3.trans sD, fun a m => ?_, upd_same, (l6.append (.cons rz .nil)).ext (Ext.same sD), by simp; omega, ?_⟩
              · have : a ≠ D := fun e => by obtain ⟨o, z⟩ := st1.zdom a m; rw [e, hD] at z; cases z
                rw [upd_ne this]; exact l4 a m
              · dsimp only at q4
                cases qc : compL t fc fe (own.map (·.2)) (items.drop (i + 1)) env s4 with
                | ok ys s5 => rw [qc] at q4; simpa using q4
                | exc c v s5 => rw [qc] at q4; exact q4
                | bad => rw [qc] at q4; exact q4
      · rintro H' ⟨α', s', acc, us, st', re', pr, k, zk, hd, ra, la, q⟩
        rw [hn, List.drop_length] at q
        have q' : Post T (relD T) Z α1 s1 H1 W σ (.ok (.ref s'.length) (s' ++ [.lst (acc ++ [])])) Q := q
        rw [List.append_nil] at q'
        have nz : D ∉ Z := fun m => by obtain ⟨o, z⟩ := st1.zdom D m; rw [hD] at z; cases z
        have sj := st'.join (o := .lst acc) hd rfl ⟨us, hd, ra⟩ nz
        exact q' (α' ++ [D]) H' _ ⟨pr.trans (List.prefix_append _ _), by rw [pur_join st'.len rfl]; exact k, zk⟩ sj (ref_last st'.len)
    · rw [if_neg hz] at h1; exact h1.elim
end
end Ev

set_option Elab.async false
set_option linter.all false
set_option maxRecDepth 100000
set_option maxHeartbeats 2000000
/-! Ev7: operators on values of any kind. -/
namespace Ev
open PySem PySem.Spec PyProof.Rows L2

/-! ### plain data -/
mutual
def P.dat : P → Option PyData
  | .non => some .none
  | .bl b => some (.bool b)
  | .int i => some (.int i)
  | .str x => some (.str x)
  | .tup xs => (datAll xs).map .tuple
  | .lst xs => (datAll xs).map .list
  | _ => none
def datAll : List P → Option (List PyData)
  | [] => some []
  | x :: xs => match x.dat, datAll xs with
    | some d, some ds => some (d :: ds)
    | _, _ => none
end
mutual
theorem dat_ok {T : Tb} {G : Hp} : ∀ {x : P} {v : V} {d : PyData}, RP T G x v → x.dat = some d → Dp T.K G v d
  | .non, _, _, h, e => by cases h; cases e; exact .non
  | .bl b, _, _, h, e => by cases h; cases e; exact .bl b
  | .int b, _, _, h, e => by cases h; cases e; exact .int b
  | .str b, _, _, h, e => by cases h; cases e; exact .str b
  | .tup xs, _, d, h, e => by
    cases h with
    | tup h r =>
      have e' : (datAll xs).map PyData.tuple = some d := e
      cases q : datAll xs with
      | none => rw [q] at e'; cases e'
      | some ds => rw [q] at e'; cases e'; exact .tup h (datAll_ok r q)
  | .lst xs, _, d, h, e => by
    cases h with
    | lst h r =>
      have e' : (datAll xs).map PyData.list = some d := e
      cases q : datAll xs with
      | none => rw [q] at e'; cases e'
      | some ds => rw [q] at e'; cases e'; exact .lst (.inl h) (datAll_ok r q)
  | .ty _, _, _, _, e => by cases e
  | .glb _, _, _, _, e => by cases e
  | .dct _, _, _, _, e => by cases e
  | .dcT _, _, _, _, e => by cases e
  | .obj _ _, _, _, _, e => by cases e
  | .slt _ _, _, _, _, e => by cases e
  | .exc _ _, _, _, _, e => by cases e
theorem datAll_ok {T : Tb} {G : Hp} : ∀ {xs : List P} {vs : List V} {ds : List PyData}, RPs T G xs vs → datAll xs = some ds → DpAll T.K G vs ds
  | [], _, _, h, e => by cases h; cases e; exact .nil
  | x :: xs, _, ds, h, e => by
    cases h with
    | cons h r =>
      unfold datAll at e
      cases q1 : x.dat with
      | none => rw [q1] at e; cases e
      | some d =>
        cases q2 : datAll xs with
        | none => rw [q1, q2] at e; cases e
        | some es => rw [q1, q2] at e; cases e; exact .cons (dat_ok h q1) (datAll_ok r q2)
end
/-- plain values that are compared at once -/
def P.flt : P → Option V
  | .non => some .non
  | .bl b => some (.bl b)
  | .int i => some (.int i)
  | .str x => some (.str x)
  | _ => none
def fltAll : List P → Option (List V)
  | [] => some []
  | x :: xs => match x.flt, fltAll xs with
    | some d, some ds => some (d :: ds)
    | _, _ => none
theorem flt_ok {T : Tb} {G : Hp} {x : P} {v u : V} (h : RP T G x v) (e : x.flt = some u) : v = u ∧ flatV u = true := by
  cases x <;> first | (cases e; done) | (cases h; cases e; exact ⟨rfl, rfl⟩)
theorem fltAll_ok {T : Tb} {G : Hp} : ∀ {xs : List P} {vs us : List V}, RPs T G xs vs → fltAll xs = some us → vs = us ∧ us.all flatV = true
  | [], _, _, h, e => by cases h; cases e; exact ⟨rfl, rfl⟩
  | x :: xs, _, us, h, e => by
    cases h with
    | cons h r =>
      unfold fltAll at e
      cases q1 : x.flt with
      | none => rw [q1] at e; cases e
      | some d =>
        cases q2 : fltAll xs with
        | none => rw [q1, q2] at e; cases e
        | some es =>
          rw [q1, q2] at e; cases e
          obtain ⟨h1, h2⟩ := flt_ok h q1
          obtain ⟨h3, h4⟩ := fltAll_ok r q2
          subst h1; subst h3
          exact ⟨rfl, by simp [h2, h4]⟩
/-- the key of a dict -/
def P.key : P → Option Key
  | .int i => some (.inl i)
  | .str x => some (.inr x)
  | _ => none
def keyAll : List P → Option (List Key)
  | [] => some []
  | x :: xs => match x.key, keyAll xs with
    | some d, some ds => some (d :: ds)
    | _, _ => none
theorem key_ok {T : Tb} {G : Hp} {x : P} {v : V} {k : Key} (h : RP T G x v) (e : x.key = some k) : v = kV k := by
  cases x <;> first | (cases e; done) | (cases h; cases e; rfl)
theorem keyAll_ok {T : Tb} {G : Hp} : ∀ {xs : List P} {vs : List V} {us : List Key}, RPs T G xs vs → keyAll xs = some us → vs = us.map kV
  | [], _, _, h, e => by cases h; cases e; rfl
  | x :: xs, _, us, h, e => by
    cases h with
    | cons h r =>
      unfold keyAll at e
      cases q1 : x.key with
      | none => rw [q1] at e; cases e
      | some d =>
        cases q2 : keyAll xs with
        | none => rw [q1, q2] at e; cases e
        | some es =>
          rw [q1, q2] at e; cases e
          rw [key_ok h q1, keyAll_ok r q2]; rfl

section
variable {X : Cx} {T : Tb} {W : WX}
/-- either of two rules -/
def rOr (r r' : R2) : R2 := fun x y H Q => r x y H Q ∨ r' x y H Q
theorem opOr {f : Value → Value → Sem Value} {r r' : R2} (h : OpR X f r) (h' : OpR X f r') : OpR X f (rOr r r') := by
  intro pins s σ H x y v u Q I rx ry q
  rcases q with q | q
  · exact h pins s σ H x y v u Q I rx ry q
  · exact h' pins s σ H x y v u Q I rx ry q
theorem sameH (H : Hp) : Same H H := Same.refl H

/-! ### + -/
def rCatS : R2 := fun x y H Q => ∃ l b xs zs, x = .ref l ∧ y = .ref b ∧ Rd H l (.lst xs) ∧ Rd H b (.lst zs) ∧ xs.length + zs.length ≤ sizeLine ∧ ∀ p, H p = none → Q (.ref p) (upd H p (.lst (xs ++ zs)))
theorem op_catS : OpR X (binaryOp .Add) rCatS := by
  intro pins s σ H x y v u Q I rx ry h
  obtain ⟨l, b, xs, zs, rfl, rfl, hH, hB, hz, q⟩ := h
  cases rx
  cases ry
  obtain ⟨z, its, n, r, e⟩ := hH.ok I.hok
  obtain ⟨z2, its2, n2, r2, e2⟩ := hB.ok I.hok
  have hl := r.length
  have hl2 := r2.length
  refine PySem.P.add_list e e2 (show EP X pins σ Q (.ref s.heap.objs.size) _ from ?_) (by rw [List.size_toArray, List.size_toArray, ← hl, ← hl2]; exact hz)
  have e3 : its.toArray ++ its2.toArray = (its ++ its2).toArray := by simp
  rw [e3]
  exact ⟨.ref s.heap.objs.size, _, I.lnew (t' := s.toks) (r.append r2) (by rw [List.length_append]; exact hz), rfl, q _ I.fresh⟩
def rAddS : R2 := fun x y H Q => ∃ i j, x = .str i ∧ y = .str j ∧ i.length + j.length ≤ sizeLine ∧ Q (.str (i ++ j)) H
def rAdd (K : PySem.W.Frag) : R2 := rOr (rI0 fun i j => .int (i + j)) (rOr rAddS (rOr (rCatA K) rCatS))
theorem op_addAll : OpR X (binaryOp .Add) (rAdd X.K) := opOr op_add (opOr op_add_str (opOr op_catA op_catS))
theorem iadd_str : OpR X (inplaceOp .Add) (rI0 fun i j => .int (i + j)) := iop_add
def gAdd : P → P → Option P
  | .int i, .int j => some (.int (i + j))
  | .str a, .str b => if a.length + b.length ≤ 1000000 then some (.str (a ++ b)) else none
  | .tup a, .tup b => if a.length + b.length ≤ 1000000 then some (.tup (a ++ b)) else none
  | .lst a, .lst b => if a.length + b.length ≤ 1000000 then some (.lst (a ++ b)) else none
  | _, _ => none
theorem lineM {n : Nat} (h : n ≤ 1000000) : n ≤ sizeLine := by rw [sizeLine_eq]; omega
/-- a new list, a new tuple -/
theorem new_lst {L : List Addr} {H : Hp} {p : Addr} {xs : List P} {vs : List V} (hL : ∀ a ∈ L, ∃ o, H a = some o) (np : H p = none) (r : RPs T (hide L H) xs vs) : RP T (hide L (upd H p (.lst vs))) (.lst xs) (.ref p) :=
  .lst (.inl (hide_new hL np)) (r.ext (Ext.same (hide_same (same_new np))))
theorem new_tup {L : List Addr} {H : Hp} {p : Addr} {xs : List P} {vs : List V} (hL : ∀ a ∈ L, ∃ o, H a = some o) (np : H p = none) (r : RPs T (hide L H) xs vs) : RP T (hide L (upd H p (.tup vs))) (.tup xs) (.ref p) :=
  .tup (.of (hide_new hL np)) (r.ext (Ext.same (hide_same (same_new np))))
/-- a tuple is read off the pure part alone -/
theorem RT.tupG {G H : Hp} {xs : List P} {v : V} (h : RT T G H (.tup xs) v) : RP T G (.tup xs) v := by
  rcases h with h | h
  · exact h
  · exact h.elim
theorem gAdd_ok (hK : T.K = X.K) : Op2 T (rAdd X.K) gAdd := fun L H x y v w z Q rx ry hL e k => by
  rw [← hK]
  unfold gAdd at e
  split at e
  · cases e; rw [rx.int, ry.int]; exact .inl ⟨_, _, rfl, rfl, k _ _ (sameH H) (.int _)⟩
  · split at e
    · rename_i c; cases e; rw [rx.str, ry.str]; exact .inr (.inl ⟨_, _, rfl, rfl, lineM c, k _ _ (sameH H) (.str _)⟩)
    · cases e
  · split at e
    · rename_i a b c; cases e
      have hx := rx.tupG
      have hy := ry.tupG
      obtain ⟨p, vs, rfl, hp, rs⟩ := rx.tup (hide_ext L H)
      obtain ⟨q, us, rfl, hq, rs2⟩ := ry.tup (hide_ext L H)
      refine .inr (.inr (.inl ⟨p, q, vs, us, rfl, rfl, hp, hq, by rw [rs.length, rs2.length]; exact lineM c, fun e0 => ?_, fun _ e0 => ?_, fun _ _ t nt => ?_⟩))
      · subst e0
        have := rs.length
        have ea : a = [] := by cases a with | nil => rfl | cons _ _ => simp at this
        subst ea
        exact k _ _ (sameH H) hy
      · subst e0
        have := rs2.length
        have ea : b = [] := by cases b with | nil => rfl | cons _ _ => simp at this
        subst ea
        exact k _ _ (sameH H) (by rw [List.append_nil]; exact hx)
      · exact k _ _ (same_new nt) (new_tup hL nt (rs.append rs2))
    · cases e
  · split at e
    · rename_i a b c; cases e
      obtain ⟨p, vs, rfl, hp, rs⟩ := rx.lst (hide_ext L H)
      obtain ⟨q, us, rfl, hq, rs2⟩ := ry.lst (hide_ext L H)
      exact .inr (.inr (.inr ⟨p, q, vs, us, rfl, rfl, hp, hq, by rw [rs.length, rs2.length]; exact lineM c, fun t nt => k _ _ (same_new nt) (new_lst hL nt (rs.append rs2))⟩))
    · cases e
  · cases e
/-! ### - * // % ** of ints -/
theorem op2_int {C : Int → Int → Prop} [∀ i j, Decidable (C i j)] {h : Int → Int → Int} {g : P → P → Option P} (hg : ∀ x y z, g x y = some z → ∃ i j, x = .int i ∧ y = .int j ∧ C i j ∧ z = .int (h i j)) : Op2 T (rI C fun i j => .int (h i j)) g := fun L H x y v w z Q rx ry hL e k => by
  obtain ⟨i, j, rfl, rfl, c, rfl⟩ := hg x y z e
  rw [rx.int, ry.int]
  exact ⟨_, _, rfl, rfl, c, k _ _ (sameH H) (.int _)⟩
def gSub : P → P → Option P
  | .int i, .int j => some (.int (i - j))
  | _, _ => none
theorem gSub_ok : Op2 T (rI0 fun i j => .int (i - j)) gSub := fun L H x y v w z Q rx ry hL e k => by
  unfold gSub at e
  split at e
  · cases e; rw [rx.int, ry.int]; exact ⟨_, _, rfl, rfl, k _ _ (sameH H) (.int _)⟩
  · cases e
def gMul : P → P → Option P
  | .int i, .int j => if i.natAbs.log2 + j.natAbs.log2 < 1000000 then some (.int (i * j)) else none
  | _, _ => none
theorem gMul_ok : Op2 T (rI CMulW fun i j => .int (i * j)) gMul := fun L H x y v w z Q rx ry hL e k => by
  unfold gMul at e
  split at e
  · split at e
    · rename_i c; cases e; rw [rx.int, ry.int]; exact ⟨_, _, rfl, rfl, c, k _ _ (sameH H) (.int _)⟩
    · cases e
  · cases e
def gDiv : P → P → Option P
  | .int i, .int j => if 0 < j ∧ j.natAbs.log2 < 9000 then some (.int (i / j)) else none
  | _, _ => none
theorem gDiv_ok : Op2 T (rI CDivW fun i j => .int (i / j)) gDiv := fun L H x y v w z Q rx ry hL e k => by
  unfold gDiv at e
  split at e
  · split at e
    · rename_i c; cases e; rw [rx.int, ry.int]; exact ⟨_, _, rfl, rfl, c, k _ _ (sameH H) (.int _)⟩
    · cases e
  · cases e
def gMod : P → P → Option P
  | .int i, .int j => if 0 < j then some (.int (i % j)) else none
  | _, _ => none
theorem gMod_ok : Op2 T (rI (fun _ j => 0 < j) fun i j => .int (i % j)) gMod := fun L H x y v w z Q rx ry hL e k => by
  unfold gMod at e
  split at e
  · split at e
    · rename_i c; cases e; rw [rx.int, ry.int]; exact ⟨_, _, rfl, rfl, c, k _ _ (sameH H) (.int _)⟩
    · cases e
  · cases e
def CPowW (i j : Int) : Prop := 0 ≤ j ∧ (Builtin.Int.intBits i : Int) * j ≤ 2 ^ 27
theorem op_powW : OpR X (binaryOp .Pow) (rI CPowW fun i j => .int (i ^ j.toNat)) := opI fun _ _ _ _ _ _ _ hc q => pow_int hc.1 hc.2 q
def gPow : P → P → Option P
  | .int i, .int j => if 0 ≤ j ∧ (Builtin.Int.intBits i : Int) * j ≤ 2 ^ 27 then some (.int (i ^ j.toNat)) else none
  | _, _ => none
theorem gPow_ok : Op2 T (rI CPowW fun i j => .int (i ^ j.toNat)) gPow := fun L H x y v w z Q rx ry hL e k => by
  unfold gPow at e
  split at e
  · split at e
    · rename_i c; cases e; rw [rx.int, ry.int]; exact ⟨_, _, rfl, rfl, c, k _ _ (sameH H) (.int _)⟩
    · cases e
  · cases e
/-! ### == != -/
def eqP (x y : P) : Option Bool := match x.dat, y.dat with
  | some d, some e => if SeqAt.shaped d = true ∧ SeqAt.shaped e = true then some (PyData.eqv d e) else none
  | _, _ => none
def gEq (x y : P) : Option P := (eqP x y).map .bl
def gNe (x y : P) : Option P := (eqP x y).map fun b => .bl (!b)
theorem eqP_ok {x y : P} {b : Bool} (e : eqP x y = some b) : ∃ d e, x.dat = some d ∧ y.dat = some e ∧ SeqAt.shaped d = true ∧ SeqAt.shaped e = true ∧ PyData.eqv d e = b := by
  unfold eqP at e
  split at e
  · split at e
    · rename_i d e' q1 q2 c; cases e; exact ⟨d, e', q1, q2, c.1, c.2, rfl⟩
    · cases e
  · cases e
theorem gEq_ok (hK : T.K = X.K) : Op2 T (rEqD X.K) gEq := fun L H x y v w z Q rx ry hL e k => by
  obtain ⟨b, hb, rfl⟩ := Option.map_eq_some_iff.mp e
  obtain ⟨d, e', q1, q2, c1, c2, rfl⟩ := eqP_ok hb
  rw [← hK]
  exact ⟨d, e', dat_ok (rx.full (hide_ext L H)) q1, dat_ok (ry.full (hide_ext L H)) q2, c1, c2, k _ _ (sameH H) (.bl _)⟩
theorem gNe_ok (hK : T.K = X.K) : Op2 T (rNeD X.K) gNe := fun L H x y v w z Q rx ry hL e k => by
  obtain ⟨b, hb, rfl⟩ := Option.map_eq_some_iff.mp e
  obtain ⟨d, e', q1, q2, c1, c2, rfl⟩ := eqP_ok hb
  rw [← hK]
  exact ⟨d, e', dat_ok (rx.full (hide_ext L H)) q1, dat_ok (ry.full (hide_ext L H)) q2, c1, c2, k _ _ (sameH H) (.bl _)⟩
/-! ### < <= > >= -/
def rOrdS (g : Str → Str → Bool) : R2 := fun x y H Q => ∃ i j, x = .str i ∧ y = .str j ∧ Q (.bl (g i j)) H
theorem op_ltA : OpR X (compareOp .Lt) (rOr (rI0 fun i j => .bl (decide (i < j))) (rOrdS fun i j => decide (i.cps.toList < j.cps.toList))) := opOr op_lt op_lt_str
theorem op_leA : OpR X (compareOp .LtE) (rOr (rI0 fun i j => .bl (decide (i ≤ j))) (rOrdS fun i j => !decide (j.cps.toList < i.cps.toList))) := opOr op_le op_le_str
theorem op_gtA : OpR X (compareOp .Gt) (rOr (rI0 fun i j => .bl (decide (j < i))) (rOrdS fun i j => decide (j.cps.toList < i.cps.toList))) := opOr op_gt op_gt_str
theorem op_geA : OpR X (compareOp .GtE) (rOr (rI0 fun i j => .bl (decide (j ≤ i))) (rOrdS fun i j => !decide (i.cps.toList < j.cps.toList))) := opOr op_ge op_ge_str
def gOrd (f : Int → Int → Bool) (g : Str → Str → Bool) : P → P → Option P
  | .int i, .int j => some (.bl (f i j))
  | .str i, .str j => some (.bl (g i j))
  | _, _ => none
theorem gOrd_ok {f : Int → Int → Bool} {g : Str → Str → Bool} : Op2 T (rOr (rI0 fun i j => .bl (f i j)) (rOrdS g)) (gOrd f g) := fun L H x y v w z Q rx ry hL e k => by
  unfold gOrd at e
  split at e
  · cases e; rw [rx.int, ry.int]; exact .inl ⟨_, _, rfl, rfl, k _ _ (sameH H) (.bl _)⟩
  · cases e; rw [rx.str, ry.str]; exact .inr ⟨_, _, rfl, rfl, k _ _ (sameH H) (.bl _)⟩
  · cases e
abbrev gLt := gOrd (fun i j => decide (i < j)) fun i j => decide (i.cps.toList < j.cps.toList)
abbrev gLe := gOrd (fun i j => decide (i ≤ j)) fun i j => !decide (j.cps.toList < i.cps.toList)
abbrev gGt := gOrd (fun i j => decide (j < i)) fun i j => decide (j.cps.toList < i.cps.toList)
abbrev gGe := gOrd (fun i j => decide (j ≤ i)) fun i j => !decide (i.cps.toList < j.cps.toList)
/-! ### in, not in -/
def rDIn (neg : Bool) : R2 := fun y x H Q => ∃ a o, x = .ref a ∧ DGet H a y o ∧ Q (.bl (if neg then !o.isSome else o.isSome)) H
theorem op_inDc (hu : X.A.units + 1 < cLine) : OpR X (compareOp .In) (rDIn false) := by
  intro pins s σ H x y v u Q I rx ry h
  obtain ⟨a, o, rfl, g, q⟩ := h
  obtain rfl : u = Value.ref a := ry
  exact d_in hu I g rx fun s' I' => ⟨.bl o.isSome, H, I', rfl, q⟩
theorem op_notInDc (hu : X.A.units + 1 < cLine) : OpR X (compareOp .NotIn) (rDIn true) := by
  intro pins s σ H x y v u Q I rx ry h
  obtain ⟨a, o, rfl, g, q⟩ := h
  obtain rfl : u = Value.ref a := ry
  exact d_notIn hu I g rx fun s' I' => ⟨.bl (!o.isSome), H, I', rfl, q⟩
def rInS (neg : Bool) : R2 := fun x y H Q => ∃ i j, x = .str i ∧ y = .str j ∧ Q (.bl (if neg then !(!(Builtin.Str.occurrences j i 0 j.length 1).isEmpty) else !(Builtin.Str.occurrences j i 0 j.length 1).isEmpty)) H
def rInA (K : PySem.W.Frag) : R2 := rOr (rInD K) (rOr (L2.rIn K false) (rOr (rDIn false) (rInS false)))
def rNotInA (K : PySem.W.Frag) : R2 := rOr (rNotInD K) (rOr (L2.rIn K true) (rOr (rDIn true) (rInS true)))
theorem op_inA (hu : X.A.units + 65 < cLine) : OpR X (compareOp .In) (rInA X.K) := opOr (op_inD hu) (opOr op_in_seq (opOr (op_inDc (by omega)) op_in_str))
theorem op_notInA (hu : X.A.units + 65 < cLine) : OpR X (compareOp .NotIn) (rNotInA X.K) := opOr (op_notInD hu) (opOr op_notIn_seq (opOr (op_notInDc (by omega)) op_notIn_str))
/-! ### dicts -/
variable {κ : Type} [DecidableEq κ]
def lkp (kvs : List (κ × P)) (k : κ) : Option P := (kvs.find? fun q => decide (q.1 = k)).map Prod.snd
def putP (kvs : List (κ × P)) (k : κ) (x : P) : List (κ × P) := if kvs.any (fun q => decide (q.1 = k)) = true then kvs.map fun q => if q.1 = k then (q.1, x) else q else kvs ++ [(k, x)]
theorem lkp_nil {k : κ} : lkp ([] : List (κ × P)) k = none := rfl
theorem lkp_pos {p : κ × P} {r : List (κ × P)} {k : κ} (e : p.1 = k) : lkp (p :: r) k = some p.2 := by simp [lkp, e]
theorem lkp_neg {p : κ × P} {r : List (κ × P)} {k : κ} (e : ¬ p.1 = k) : lkp (p :: r) k = lkp r k := by simp [lkp, e]
theorem lkp_rel {G : Hp} (k : κ) : ∀ {kvs : List (κ × P)} {us : List (κ × V)}, us.map Prod.fst = kvs.map Prod.fst → RPs T G (kvs.map Prod.snd) (us.map Prod.snd) →
    (lkp kvs k = none ∧ valV us k = none) ∨ ∃ x v, lkp kvs k = some x ∧ valV us k = some v ∧ RP T G x v
  | [], [], _, _ => .inl ⟨rfl, rfl⟩
  | [], _ :: _, e, _ => by simp at e
  | _ :: _, [], e, _ => by simp at e
  | q :: kvs, u :: us, e, r => by
    simp only [List.map_cons, List.cons.injEq] at e r
    cases r with
    | cons h r =>
      by_cases c : q.1 = k
      · exact .inr ⟨_, _, lkp_pos c, valV_pos (e.1.trans c), h⟩
      · rw [lkp_neg c, valV_neg (fun z => c (e.1.symm.trans z))]
        exact lkp_rel k e.2 r
theorem any_rel (k : κ) : ∀ {kvs : List (κ × P)} {us : List (κ × V)}, us.map Prod.fst = kvs.map Prod.fst → us.any (fun q => decide (q.1 = k)) = kvs.any (fun q => decide (q.1 = k))
  | [], [], _ => rfl
  | [], _ :: _, e => by simp at e
  | _ :: _, [], e => by simp at e
  | q :: kvs, u :: us, e => by
    simp only [List.map_cons, List.cons.injEq] at e
    rw [List.any_cons, List.any_cons, any_rel k e.2, e.1]
theorem RPs.mapPut {G : Hp} {k : κ} {x : P} {v : V} (hv : RP T G x v) : ∀ {kvs : List (κ × P)} {us : List (κ × V)}, us.map Prod.fst = kvs.map Prod.fst → RPs T G (kvs.map Prod.snd) (us.map Prod.snd) →
    (us.map fun q => if q.1 = k then (q.1, v) else q).map Prod.fst = (kvs.map fun q => if q.1 = k then (q.1, x) else q).map Prod.fst ∧ RPs T G ((kvs.map fun q => if q.1 = k then (q.1, x) else q).map Prod.snd) ((us.map fun q => if q.1 = k then (q.1, v) else q).map Prod.snd)
  | [], [], _, _ => ⟨rfl, .nil⟩
  | [], _ :: _, e, _ => by simp at e
  | _ :: _, [], e, _ => by simp at e
  | q :: kvs, u :: us, e, r => by
    simp only [List.map_cons, List.cons.injEq] at e r
    cases r with
    | cons h r =>
      obtain ⟨h1, h2⟩ := RPs.mapPut hv e.2 r
      simp only [List.map_cons]
      by_cases c : q.1 = k
      · rw [if_pos c, if_pos (e.1.trans c)]
        exact ⟨by rw [h1, e.1], .cons hv h2⟩
      · rw [if_neg c, if_neg (fun z => c (e.1.symm.trans z))]
        exact ⟨by rw [h1, e.1], .cons h h2⟩
theorem put_rel {G : Hp} {k : κ} {x : P} {v : V} (hv : RP T G x v) {kvs : List (κ × P)} {us : List (κ × V)} (e : us.map Prod.fst = kvs.map Prod.fst) (r : RPs T G (kvs.map Prod.snd) (us.map Prod.snd)) :
    (putK us k v).map Prod.fst = (putP kvs k x).map Prod.fst ∧ RPs T G ((putP kvs k x).map Prod.snd) ((putK us k v).map Prod.snd) := by
  unfold putK putP
  rw [any_rel k e]
  split
  · exact RPs.mapPut hv e r
  · exact ⟨by rw [List.map_append, List.map_append, e]; rfl, by rw [List.map_append, List.map_append]; exact r.append (.cons hv .nil)⟩
/-- is x in y -/
def inP (x y : P) : Option Bool := match y with
  | .lst ys => match x.dat, datAll ys with
    | some d, some ds => if SeqAt.shaped d = true ∧ SeqAt.shaped (.list ds) = true then some (ds.any fun z => PyData.eqv z d) else none
    | _, _ => none
  | .tup ys => match x.flt, fltAll ys with
    | some d, some ds => some (inV d ds)
    | _, _ => none
  | .str j => match x with
    | .str i => some (!(Builtin.Str.occurrences j i 0 j.length 1).isEmpty)
    | _ => none
  | .dct kvs => x.key.map fun k => (lkp kvs k).isSome
  | _ => none
def gIn (x y : P) : Option P := (inP x y).map .bl
def gNotIn (x y : P) : Option P := (inP x y).map fun b => .bl (!b)
theorem in_ok {x y : P} {b : Bool} (e : inP x y = some b) {L : List Addr} {H : Hp} {v w : V} (rx : RT T (hide L H) H x v) (ry : RT T (hide L H) H y w) :
    (∃ d ds, Dp T.K H v d ∧ Dp T.K H w (.list ds) ∧ SeqAt.shaped d = true ∧ SeqAt.shaped (.list ds) = true ∧ b = ds.any fun z => PyData.eqv z d) ∨
    (∃ p xs, w = .ref p ∧ SqT T.K H p xs ∧ flatV v = true ∧ xs.all flatV = true ∧ b = inV v xs) ∨
    (∃ i j, v = .str i ∧ w = .str j ∧ b = !(Builtin.Str.occurrences j i 0 j.length 1).isEmpty) ∨
    (∃ a o, w = .ref a ∧ DGet H a v o ∧ b = o.isSome) := by
  unfold inP at e
  split at e
  · split at e
    · split at e
      · rename_i d ds q1 q2 c; cases e
        exact .inl ⟨d, ds, dat_ok (rx.full (hide_ext L H)) q1, dat_ok (ry.full (hide_ext L H)) (by unfold P.dat; rw [q2]; rfl), c.1, c.2, rfl⟩
      · cases e
    · cases e
  · split at e
    · rename_i d ds q1 q2; cases e
      obtain ⟨p, vs, rfl, hp, rs⟩ := ry.tup (hide_ext L H)
      obtain ⟨rfl, f1⟩ := flt_ok (rx.full (hide_ext L H)) q1
      obtain ⟨rfl, f2⟩ := fltAll_ok rs q2
      exact .inr (.inl ⟨p, _, rfl, hp, f1, f2, rfl⟩)
    · cases e
  · split at e
    · cases e; exact .inr (.inr (.inl ⟨_, _, rx.str, ry.str, rfl⟩))
    · cases e
  · obtain ⟨k, hk, rfl⟩ := Option.map_eq_some_iff.mp e
    obtain ⟨a, us, rfl, hr, e2, rs⟩ := ry.dct (hide_ext L H)
    have hv := key_ok (rx.full (hide_ext L H)) hk
    refine .inr (.inr (.inr ⟨a, valV us k, rfl, .inl ⟨us, k, hr, hv, rfl⟩, ?_⟩))
    rcases lkp_rel k e2 rs with ⟨h1, h2⟩ | ⟨x', v', h1, h2, _⟩ <;> rw [h1, h2] <;> rfl
  · cases e
theorem gIn_ok (hK : T.K = X.K) : Op2 T (rInA X.K) gIn := fun L H x y v w z Q rx ry hL e k => by
  obtain ⟨b, hb, rfl⟩ := Option.map_eq_some_iff.mp e
  have q := k _ _ (sameH H) (.bl b)
  rw [← hK]
  rcases in_ok hb rx ry with ⟨d, ds, h1, h2, h3, h4, rfl⟩ | ⟨p, xs, rfl, h1, h2, h3, rfl⟩ | ⟨i, j, rfl, rfl, rfl⟩ | ⟨a, o, rfl, h1, rfl⟩
  · exact .inl ⟨d, ds, h1, h2, h3, h4, q⟩
  · exact .inr (.inl ⟨p, xs, rfl, .inr h1, h2, h3, q⟩)
  · exact .inr (.inr (.inr ⟨i, j, rfl, rfl, q⟩))
  · exact .inr (.inr (.inl ⟨a, o, rfl, h1, q⟩))
theorem gNotIn_ok (hK : T.K = X.K) : Op2 T (rNotInA X.K) gNotIn := fun L H x y v w z Q rx ry hL e k => by
  obtain ⟨b, hb, rfl⟩ := Option.map_eq_some_iff.mp e
  have q := k _ _ (sameH H) (.bl (!b))
  rw [← hK]
  rcases in_ok hb rx ry with ⟨d, ds, h1, h2, h3, h4, rfl⟩ | ⟨p, xs, rfl, h1, h2, h3, rfl⟩ | ⟨i, j, rfl, rfl, rfl⟩ | ⟨a, o, rfl, h1, rfl⟩
  · exact .inl ⟨d, ds, h1, h2, h3, h4, q⟩
  · exact .inr (.inl ⟨p, xs, rfl, .inr h1, h2, h3, q⟩)
  · exact .inr (.inr (.inr ⟨i, j, rfl, rfl, q⟩))
  · exact .inr (.inr (.inl ⟨a, o, rfl, h1, q⟩))
/-! ### is None, is True -/
def P.isN : P → Bool
  | .non => true
  | _ => false
def gIsN : P → P → Option P
  | x, .non => some (.bl x.isN)
  | _, _ => none
def gNotN : P → P → Option P
  | x, .non => some (.bl (!x.isN))
  | _, _ => none
theorem non_iff {G : Hp} {x : P} {v : V} (r : RP T G x v) : decide (v = .non) = x.isN := by cases r <;> rfl
theorem gIsN_ok : Op2 T (fun x y H Q => y = .non ∧ Q (.bl (decide (x = .non))) H) gIsN := fun L H x y v w z Q rx ry hL e k => by
  unfold gIsN at e
  split at e
  · cases e; refine ⟨ry.non, ?_⟩; rw [non_iff (rx.full (hide_ext L H))]; exact k _ _ (sameH H) (.bl _)
  · cases e
theorem gNotN_ok : Op2 T (fun x y H Q => y = .non ∧ Q (.bl (!decide (x = .non))) H) gNotN := fun L H x y v w z Q rx ry hL e k => by
  unfold gNotN at e
  split at e
  · cases e; refine ⟨ry.non, ?_⟩; rw [non_iff (rx.full (hide_ext L H))]; exact k _ _ (sameH H) (.bl _)
  · cases e
/-! ### minus -/
def dNeg (f : DE) : DE := fun env s => (f env s).bind fun d s => match d with
  | .p (.int i) => .ok (.p (.int (-i))) s
  | _ => .bad
theorem e_neg {a : Expr} {f : DE} {pos : Pos} (h : PE X a (rd T W f)) : PE X (.UnaryOp .USub a pos) (rd T W (dNeg f)) := (pe_un un_neg h).imp fun σ H Q h => by
  obtain ⟨Z, α, env, s, st, re, h⟩ := h
  refine ⟨Z, α, env, s, st, re, (Post.split (Rel := relD T) h).mono fun v H1 ⟨α1, d, s1, _, g1, st1, r1, h1⟩ => ?_⟩
  split at h1
  · rename_i i _
    cases r1 with | p r => cases r; exact ⟨i, rfl, Post.done (a := D.p (.int (-i))) h1 st1 (.p (.int _))⟩
  · exact h1.elim
end
end Ev

set_option Elab.async false
set_option linter.all false
set_option maxRecDepth 100000
set_option maxHeartbeats 2000000
/-! Ev8: subscripts, slices. -/
namespace HT
open PySem PySem.Spec PyProof.Rows L2
section
variable {prog : Program} {w : World} {A : Around} {E : Value → Shared → Prop} {s : Shared}
theorem adjust_back (n : Nat) : Builtin.Slice.sliceAdjust none none (-1) (n : Int) = ((n : Int) - 1, -1) := by
  unfold Builtin.Slice.sliceAdjust
  simp
theorem places_back (n : Nat) : Builtin.Slice.slicePlaces ((n : Int) - 1) (-1) (-1) = n := by
  unfold Builtin.Slice.slicePlaces
  simp
  split <;> omega
theorem applied_back {sl : Addr} {n k : Nat} {t : Tok} {Q : Int × Int × Nat → Shared → Prop} (hs : s.heap.IsSliceOf sl .none .none (.int (-1) t))
    (h : Q ((n : Int) - 1, -1, n) s) : wpAny (model prog w) A (Builtin.Slice.sliceApplied (.ref sl) (pure (n : Int))) Q E s := by
  obtain ⟨os, e1, e2, e3⟩ := id hs
  unfold Builtin.Slice.sliceApplied Builtin.Slice.sliceFields
  refine wpAny_bind (wpAny_bind (wpAny_field e1 e3 (x := .none) rfl (wpAny_bind (wpAny_field e1 e3 (x := .none) rfl (wpAny_bind (wpAny_field e1 e3 (x := .int (-1) t) rfl (wpAny_pure ?_)))))))
  refine wpAny_bind (slicePart_int ?_)
  show wpAny _ _ (if ((-1 : Int) == 0) = true then _ else _) _ _ s
  rw [if_neg (by decide)]
  refine wpAny_bind (slicePart_none (wpAny_bind (slicePart_none (wpAny_bind (wpAny_pure ?_)))))
  show wpAny _ _ (match Builtin.Slice.sliceAdjust none none (-1) (n : Int) with | (a, b) => pure (a, (-1 : Int), Builtin.Slice.slicePlaces a b (-1))) _ _ s
  rw [adjust_back n]
  show wpAny _ _ (pure ((n : Int) - 1, (-1 : Int), Builtin.Slice.slicePlaces ((n : Int) - 1) (-1) (-1))) _ _ s
  rw [places_back]
  exact wpAny_pure h
theorem pick_back (xs : Array Value) : ((List.range xs.size).filterMap fun (m : Nat) => xs[((xs.size : Int) - 1 + (m : Int) * (-1)).toNat]?).toArray = xs.toList.reverse.toArray := by
  congr 1
  have key : ∀ (l : List Nat), (∀ m ∈ l, m < xs.size) → l.filterMap (fun (m : Nat) => xs[((xs.size : Int) - 1 + (m : Int) * (-1)).toNat]?) = l.map fun m => xs.toList.reverse.getD m default := by
    intro l
    induction l with
    | nil => intro _; rfl
    | cons m l ih =>
      intro hm
      have h1 := hm m List.mem_cons_self
      have e : ((xs.size : Int) - 1 + (m : Int) * (-1)).toNat = xs.size - 1 - m := by omega
      have e2 : xs[xs.size - 1 - m]? = some (xs.toList.reverse.getD m default) := by
        rw [List.getD_eq_getElem?_getD, List.getElem?_reverse (by simpa using h1)]
        simp only [Array.length_toList, Array.getElem?_toList]
        rw [Array.getElem?_eq_getElem (by omega)]
        rfl
      rw [List.filterMap_cons, e, e2, List.map_cons, ih fun k q => hm k (List.mem_cons_of_mem _ q)]
  rw [key _ fun m h => List.mem_range.mp h]
  apply List.ext_getElem?
  intro i
  rw [List.getElem?_map]
  by_cases hi : i < xs.size
  · rw [List.getElem?_range hi]
    simp only [Option.map_some]
    rw [List.getD_eq_getElem?_getD, List.getElem?_eq_getElem (by simpa using hi)]
    rfl
  · rw [List.getElem?_eq_none (by simpa using hi), List.getElem?_eq_none (by simpa using hi)]
    rfl
theorem getItem_tuple_back {t sl : Addr} {items : Array Value} {tk : Tok} {Q : Value → Shared → Prop} (ht : IsTup s.heap t items) (hs : s.heap.IsSliceOf sl .none .none (.int (-1) tk))
    (h : Q (.ref s.heap.objs.size) { s with heap := s.heap.push { cls := .type "tuple", data := .seq items.toList.reverse.toArray } })
    (hz : items.size ≤ sizeLine) : wpAny (model prog w) A (getItem (.ref t) (.ref sl)) Q E s := by
  have fits : sizeOk (.seq items.toList.reverse.toArray) := by
    show items.toList.reverse.toArray.size ≤ sizeLine
    rw [List.size_toArray, List.length_reverse, Array.length_toList]
    exact hz
  obtain ⟨os, e1, e2, e3⟩ := id hs
  have ty : s.TypeIs (.ref sl) "slice" := ⟨os, e1, e2⟩
  unfold getItem
  try with_reducible refine wpAny_holding ?_
  first | refine wpAny_bind (wpAny_pure ?_) | skip
  refine wpAny_bind (wpAny_sequenceKey ht.typeIs (by decide) ?_)
  refine wpAny_bind (wpAny_callSpecial?_slot (name := Str.ofString "__getitem__") ht.typeIs slot_tuple_getitem (wpAny_call_entry slot_tuple_getitem ht.typeIs entry_tuple_getitem ?_ (args_tuple_getitem _ _)))
  show wpAny _ _ (Builtin.Tuple.tupleItemsOf (.ref t) >>= _) _ _ s
  refine wpAny_bind (tupleItemsOf_ ht ?_)
  refine wpAny_bind (wpAny_typeOf ty ?_)
  rw [if_pos (by decide)]
  refine wpAny_bind (applied_back (k := 0) hs ?_)
  have no : ¬ ((((items.size : Int) - 1 == 0 && (-1 : Int) == 1 && items.size == items.size) : Bool) = true) := by simp
  show wpAny _ _ (if (((items.size : Int) - 1 == 0 && (-1 : Int) == 1 && items.size == items.size) : Bool) = true then _ else _) _ _ s
  rw [if_neg no, pick_back]
  first
    | exact wpAny_bind (m := Builtin.Tuple.tupleExact _) (wpAny_newObj_type (wpAny_pure ⟨_, rfl, wpAny_pure h⟩) fits)
    | exact wpAny_bind (m := Builtin.Tuple.tupleExact _) (wpAny_newObj_type (wpAny_bind (wpAny_pure (wpAny_pure ⟨_, rfl, wpAny_pure h⟩))) fits)
    | exact wpAny_bind (wpAny_bind (m := Builtin.Tuple.tupleExact _) (wpAny_newObj_type (wpAny_pure (wpAny_pure ⟨_, rfl, wpAny_pure h⟩)) fits))
    | exact wpAny_bind (wpAny_bind (m := Builtin.Tuple.tupleExact _) (wpAny_newObj_type (wpAny_pure ⟨_, rfl, wpAny_pure h⟩) fits))
end
end HT
namespace Ev
open PySem PySem.Spec PyProof.Rows L2
section
variable {X : Cx} {T : Tb} {W : WX}
/-! ### xs[i] -/
def rIxDc : R2 := fun x y H Q => ∃ a v, x = .ref a ∧ DGet H a y (some v) ∧ Q v H
theorem ix_dict (hu : X.A.units + 1 < cLine) : IxR X rIxDc := by
  intro value slice pins s σ H x y v u Q I rx ry h hs
  obtain ⟨a, z, rfl, g, q⟩ := h
  obtain rfl : v = Value.ref a := rx
  exact tail_any (dict_typeIs I g) PySem.F.slot_dict_getitem.lookup (d_getItem hu I g ry fun w' s' I' r' => ⟨z, H, I', r', q⟩) hs
def rIxA (K : PySem.W.Frag) : R2 := fun x y H Q => L2.rIx K x y H Q ∨ rIxDc x y H Q
theorem ix_all (hu : X.A.units + 1 < cLine) : IxR X (rIxA X.K) := ix_seq.or (ix_dict hu)
def ixP (x y : P) : Option P := match x with
  | .lst xs => match y with
    | .int i => atI xs i
    | _ => none
  | .tup xs => match y with
    | .int i => atI xs i
    | _ => none
  | .str z => match y with
    | .int i => if z.length ≤ 1000000 then (atI z.cps.toList i).map fun c => .str ⟨#[c]⟩ else none
    | _ => none
  | .dct kvs => y.key.bind fun k => lkp kvs k
  | _ => none
theorem RPs.atI {G : Hp} {xs : List P} {vs : List V} (r : RPs T G xs vs) {i : Int} {x : P} (e : L2.atI xs i = some x) : ∃ v, L2.atI vs i = some v ∧ RP T G x v := by
  unfold L2.atI at e ⊢
  rw [r.length]
  obtain ⟨j, hj, e⟩ := Option.bind_eq_some_iff.mp e
  obtain ⟨v, hv, q⟩ := r.get e
  exact ⟨v, by rw [hj]; exact hv, q⟩
theorem ixP_ok (hK : T.K = X.K) : Op2 T (rIxA X.K) ixP := fun L H x y v w z Q rx ry hL e k => by
  rw [← hK]
  unfold ixP at e
  split at e
  · split at e
    · obtain ⟨a, vs, rfl, h1, h2⟩ := rx.lst (hide_ext L H)
      obtain ⟨u, hu, q⟩ := h2.atI e
      rw [ry.int]
      exact .inl (.inl ⟨a, vs, _, u, rfl, rfl, .inl h1, hu, k _ _ (sameH H) q⟩)
    · cases e
  · split at e
    · obtain ⟨a, vs, rfl, h1, h2⟩ := rx.tup (hide_ext L H)
      obtain ⟨u, hu, q⟩ := h2.atI e
      rw [ry.int]
      exact .inl (.inr (.inl ⟨a, vs, _, u, rfl, rfl, h1, hu, k _ _ (sameH H) q⟩))
    · cases e
  · split at e
    · split at e
      · rename_i c
        obtain ⟨b, hb, rfl⟩ := Option.map_eq_some_iff.mp e
        rw [ry.int, rx.str]
        exact .inl (.inr (.inr ⟨_, _, b, rfl, rfl, lineM c, hb, k _ _ (sameH H) (.str _)⟩))
      · cases e
    · cases e
  · obtain ⟨c, hc, e⟩ := Option.bind_eq_some_iff.mp e
    obtain ⟨a, us, rfl, hr, e2, rs⟩ := rx.dct (hide_ext L H)
    have hv := key_ok (ry.full (hide_ext L H)) hc
    rcases lkp_rel c e2 rs with ⟨h1, h2⟩ | ⟨x', v', h1, h2, q⟩
    · rw [h1] at e; cases e
    · rw [h1] at e; cases e
      exact .inr ⟨a, v', rfl, .inl ⟨us, c, hr, hv, h2.symm⟩, k _ _ (sameH H) q⟩
  · cases e
theorem e_ix {a b : Expr} {fa fb : DE} {pos : Pos} (hK : T.K = X.K) (hu : X.A.units + 1 < cLine) (ha : PE X a (rd T W fa)) (hb : PE X b (rd T W fb)) (hs : PlainIx b) : PE X (.Subscript a b pos) (rd T W (dOp ixP fa fb)) :=
  (pe_ix (ix_all hu) ha hb hs).imp fun _ _ _ h => bin_ok h fun st r1 r2 q => op2_ok (ixP_ok hK) st r1 r2 q
/-! ### xs[a:b] -/
abbrev DO := Env → Sto → R (Option Int)
abbrev relO : Rl (Option Int) (Option Int) := fun _ _ _ a b => b = a
abbrev rdO (T : Tb) (W : WX) (f : DO) : TO := rdG T relO W f
def dNoP : DO := fun _ s => .ok none s
def dPart (f : DE) : DO := fun env s => (f env s).bind fun d s => match d with
  | .p (.int i) => .ok (some i) s
  | _ => .bad
theorem _root_.L2.PO.imp {X : Cx} {e : Option Expr} {t t' : TO} (h : PO X e t) (k : ∀ σ H Q, t' σ H Q → t σ H Q) : PO X e t' := ⟨fun pins s σ H Q I q => h.run pins s σ H Q I (k _ _ _ q)⟩
theorem o_none : PO X none (rdO T W dNoP) := po_none.imp fun σ H Q ⟨Z, α, env, s, st, re, h⟩ => Post.done (a := (none : Option Int)) h st rfl
theorem o_some {e : Expr} {f : DE} (h : PE X e (rd T W f)) : PO X (some e) (rdO T W (dPart f)) := (po_some h).imp fun σ H Q ⟨Z, α, env, s, st, re, h⟩ => by
  refine ⟨Z, α, env, s, st, re, (Post.split (Rel := relD T) h).mono fun v H1 ⟨α1, d, s1, _, g1, st1, r1, h1⟩ => ?_⟩
  split at h1
  · rename_i i _
    cases r1 with | p r => cases r; exact ⟨i, rfl, Post.done (a := some i) h1 st1 rfl⟩
  · exact h1.elim
def cutL {A : Type} (xs : List A) (lo hi : Option Int) : List A := (xs.drop (HT.sIx xs.length 0 lo)).take (HT.sIx xs.length xs.length hi - HT.sIx xs.length 0 lo)
def slP (x : P) (lo hi : Option Int) : Option P := match x with
  | .lst xs => some (.lst (cutL xs lo hi))
  | .tup xs => some (.tup (cutL xs lo hi))
  | .str z => if z.length ≤ 1000000 then some (.str ⟨(cutL z.cps.toList lo hi).toArray⟩) else none
  | _ => none
theorem RPs.cut {G : Hp} {xs : List P} {vs : List V} (r : RPs T G xs vs) (lo hi : Option Int) : RPs T G (cutL xs lo hi) (cutV vs lo hi) := by
  unfold cutL cutV
  rw [r.length]
  exact (r.drop _).take _
def rSlAll (K : PySem.W.Frag) : V → Option Int → Option Int → Hp → VK → Prop := fun x lo hi H Q => rSlL K x lo hi H Q ∨ rSlA K x lo hi H Q ∨ rSlS x lo hi H Q
theorem sl_all : SlR X (rSlAll X.K) := sl_list.or (sl_tupA.or sl_str)
def dSl (f : DE) (lo hi : DO) : DE := fun env s => (f env s).bind fun d s => (lo env s).bind fun l s => (hi env s).bind fun u s => match look s d with
  | some x => match slP x l u with
    | some z => .ok (.p z) s
    | none => .bad
  | none => .bad
theorem slP_ok (hK : T.K = X.K) {L : List Addr} {H : Hp} {x z : P} {v : V} {l u : Option Int} {Q : VK} (rx : RT T (hide L H) H x v) (hL : ∀ a ∈ L, ∃ o, H a = some o) (e : slP x l u = some z)
    (k : ∀ w H', Same H H' → RP T (hide L H') z w → Q w H') : rSlAll X.K v l u H Q := by
  rw [← hK]
  unfold slP at e
  split at e
  · rename_i xs
    cases e
    obtain ⟨a, vs, rfl, h1, h2⟩ := rx.lst (hide_ext L H)
    exact .inl ⟨a, vs, rfl, .inl h1, fun p np => k _ _ (same_new np) (new_lst hL np (h2.cut l u))⟩
  · rename_i xs
    cases e
    have hx := rx.tupG
    obtain ⟨a, vs, rfl, h1, h2⟩ := rx.tup (hide_ext L H)
    refine .inr (.inl ⟨a, vs, rfl, h1, fun c => k _ _ (sameH H) ?_, fun _ p np => k _ _ (same_new np) (new_tup hL np (h2.cut l u))⟩)
    rw [h2.length] at c
    have : cutL xs l u = xs := by
      unfold cutL
      rw [c.1, c.2]
      simp
    rw [this]; exact hx
  · split at e
    · rename_i c; cases e
      rw [rx.str]
      refine .inr (.inr ⟨_, rfl, lineM c, k _ _ (sameH H) ?_⟩)
      have : ∀ z : Str, cutS z l u = ⟨(cutL z.cps.toList l u).toArray⟩ := fun z => by
        unfold cutS cutL
        simp [Str.length]
      rw [this]; exact .str _
    · cases e
  · cases e
theorem e_slice {a : Expr} {lo hi : Option Expr} {fa : DE} {fl fh : DO} {pos p2 : Pos} (hK : T.K = X.K) (ha : PE X a (rd T W fa)) (hl : PO X lo (rdO T W fl)) (hh : PO X hi (rdO T W fh)) : PE X (.Subscript a (.Slice lo hi none p2) pos) (rd T W (dSl fa fl fh)) :=
  (pe_slice sl_all ha hl hh).imp fun σ H Q h => by
    obtain ⟨Z, α, env, s, st, re, h⟩ := h
    refine ⟨Z, α, env, s, st, re, (Post.split (Rel := relD T) h).mono fun v H1 ⟨α1, d, s1, _, g1, st1, r1, h1⟩ => ?_⟩
    refine ⟨Z, α1, env, s1, st1, re.go g1.ext g1.pre, (Post.split (Rel := relO) h1).mono fun l H2 ⟨α2, l', s2, _, g2, st2, e2, h2⟩ => ?_⟩
    refine ⟨Z, α2, env, s2, st2, (re.go g1.ext g1.pre).go g2.ext g2.pre, (Post.split (Rel := relO) h2).mono fun u H3 ⟨α3, u', s3, _, g3, st3, e3, h3⟩ => ?_⟩
    have e2' : l = l' := e2
    have e3' : u = u' := e3
    subst e2'; subst e3'
    have r3 := (r1.go g2.ext g2.pre).go g3.ext g3.pre
    cases q1 : look s3 d with
    | none => rw [q1] at h3; exact h3.elim
    | some x =>
      rw [q1] at h3
      dsimp only at h3
      cases q2 : slP x l u with
      | none => rw [q2] at h3; exact h3.elim
      | some z =>
        rw [q2] at h3
        exact slP_ok hK (look_ok st3 r3 q1) (hid_dom st3) q2 fun w H' k q => Post.done' (a := D.p z) h3 st3 k (.p q)
/-! ### xs[::-1] -/
def revP : P → Option P
  | .lst xs => some (.lst xs.reverse)
  | .tup xs => some (.tup xs.reverse)
  | _ => none
def tRevA (K : PySem.W.Frag) (te : TE) : TE := fun σ H Q => te σ H fun x H1 => ∃ a xs, x = .ref a ∧ ((Rd H1 a (.lst xs) ∧ ∀ p, H1 p = none → Q (.ref p) (upd H1 p (.lst xs.reverse))) ∨ (SqT K H1 a xs ∧ ∀ p, H1 p = none → Q (.ref p) (upd H1 p (.tup xs.reverse))))
theorem pe_revA {e : Expr} {te : TE} {k : Nat} {p1 p2 p3 pos : Pos} (he : PE X e te) : PE X (.Subscript e (.Slice none none (some (.UnaryOp .USub (.Constant (.int 1) k p1) p2)) p3) pos) (tRevA X.K te) := by
  refine ⟨fun pins s σ H Q I h => ?_⟩
  refine Subscript_ (thn (he.run pins s σ H _ I h) fun v s1 ⟨x, H1, I1, r1, q1⟩ => ?_)
  obtain ⟨a, xs, rfl, q⟩ := q1
  cases r1
  have part : PO X (some (.UnaryOp .USub (.Constant (.int 1) k p1) p2)) (tPart (tUn (rU fun i => .int (-i)) (tC (.int 1)))) := po_some (pe_un un_neg pe_int)
  refine wpAny_Slice (thn (po_none.run pins s1 σ H1 (fun o H2 => o = none ∧ H2 = H1) I1 ⟨rfl, rfl⟩) fun vl s2 ⟨l, H2, I2, pl, e1, e2⟩ => ?_)
  subst e1 e2
  refine thn (po_none.run pins s2 σ H2 (fun o H3 => o = none ∧ H3 = H2) I2 ⟨rfl, rfl⟩) fun vu s3 ⟨u, H3, I3, pu, e1, e2⟩ => ?_
  subst e1 e2
  refine thn (part.run pins s3 σ H3 (fun o H4 => o = some (-1) ∧ H4 = H3) I3 ⟨1, rfl, -1, rfl, rfl, rfl⟩) fun vs s4 ⟨o, H4, I4, ps, e1, e2⟩ => ?_
  subst e1 e2
  have I5 : Inv X pins σ H4 { s4 with heap := s4.heap.push { cls := .type "slice", data := .fields #[vl, vu, vs] } } := I4.kept (t' := s4.toks) fun b ob e => Heap.get?_push_of_some _ e
  rcases q with ⟨hx, q⟩ | ⟨hx, q⟩
  · obtain ⟨its, r, ht, hz⟩ := I5.list (.inl hx)
    have hn := r.length
    show wpAny (model X.prog X.w) X.A (subscriptTail e (.Slice none none (some (.UnaryOp .USub (.Constant (.int 1) k p1) p2)) p3) (.ref a) (.ref s4.heap.objs.size)) (EP X pins σ Q) X.xe { s4 with heap := s4.heap.push { cls := .type "slice", data := .fields #[vl, vu, vs] } }
    refine tail_any (ops := [.ref a, .ref s4.heap.objs.size]) ht.isList.typeIs slot_list_getitem.lookup ?_ (by with_unfolding_all rfl)
    refine wpAny_getItem_list_slice ht.isList (Heap.IsSliceOf.new _ vl vu vs) pl pu ps (by decide) ?_ (by rw [List.size_toArray, ← hn]; exact hz)
    rw [PySem.W.krv_pick]
    refine ⟨.ref _, _, I5.laid (t' := s4.toks) (o := .lst xs.reverse) (fun b ob e => Heap.get?_push_of_some _ e) (Nat.le_refl _) ?_, rfl, q _ (I5.hok.fresh (Nat.le_refl _))⟩
    exact ⟨by rw [List.length_reverse]; exact hz, _, 0, r.reverse, Heap.get?_push_size _ rfl⟩
  · obtain ⟨its, r, ht, hz⟩ := I5.tuple hx
    have hn := r.length
    cases pl
    cases pu
    cases ps with
    | int _ tk =>
    show wpAny (model X.prog X.w) X.A (subscriptTail e (.Slice none none (some (.UnaryOp .USub (.Constant (.int 1) k p1) p2)) p3) (.ref a) (.ref s4.heap.objs.size)) (EP X pins σ Q) X.xe { s4 with heap := s4.heap.push { cls := .type "slice", data := .fields #[.none, .none, .int (-1) tk] } }
    refine tail_any (ops := [.ref a, .ref s4.heap.objs.size]) ht.typeIs slot_tuple_getitem.lookup ?_ (by with_unfolding_all rfl)
    refine HT.getItem_tuple_back ht (Heap.IsSliceOf.new _ _ _ _) ?_ (by rw [List.size_toArray, ← hn]; exact hz)
    refine ⟨.ref _, _, I5.laid (t' := s4.toks) (o := .tup xs.reverse) (fun b ob e => Heap.get?_push_of_some _ e) (Nat.le_refl _) ?_, rfl, q _ (I5.hok.fresh (Nat.le_refl _))⟩
    exact ⟨by rw [List.length_reverse]; exact hz, _, r.reverse, IsTup.new _ _⟩
def dRev (f : DE) : DE := fun env s => (f env s).bind fun d s => match look s d with
  | some x => match revP x with
    | some z => .ok (.p z) s
    | none => .bad
  | none => .bad
theorem e_rev {e : Expr} {f : DE} {k : Nat} {p1 p2 p3 pos : Pos} (hK : T.K = X.K) (he : PE X e (rd T W f)) : PE X (.Subscript e (.Slice none none (some (.UnaryOp .USub (.Constant (.int 1) k p1) p2)) p3) pos) (rd T W (dRev f)) :=
  (pe_revA he).imp fun σ H Q h => by
    obtain ⟨Z, α, env, s, st, re, h⟩ := h
    refine ⟨Z, α, env, s, st, re, (Post.split (Rel := relD T) h).mono fun v H1 ⟨α1, d, s1, _, g1, st1, r1, h1⟩ => ?_⟩
    cases q1 : look s1 d with
    | none => rw [q1] at h1; exact h1.elim
    | some x =>
      rw [q1] at h1
      dsimp only at h1
      have rx := look_ok st1 r1 q1
      have hL := hid_dom st1
      rw [← hK]
      unfold revP at h1
      cases x with
      | lst xs =>
        obtain ⟨a, vs, rfl, k1, k2⟩ := rx.lst (hide_ext _ H1)
        exact ⟨a, vs, rfl, .inl ⟨k1, fun p np => Post.done' (a := D.p (.lst xs.reverse)) h1 st1 (same_new np) (.p (new_lst hL np k2.reverse))⟩⟩
      | tup xs =>
        obtain ⟨a, vs, rfl, k1, k2⟩ := rx.tup (hide_ext _ H1)
        exact ⟨a, vs, rfl, .inr ⟨k1, fun p np => Post.done' (a := D.p (.tup xs.reverse)) h1 st1 (same_new np) (.p (new_tup hL np k2.reverse))⟩⟩
      | _ => exact h1.elim
end
end Ev

set_option Elab.async false
set_option linter.all false
set_option maxRecDepth 100000
set_option maxHeartbeats 2000000
/-! Ev9: repr of plain data. -/
namespace Ev
open PySem PySem.Spec PyProof.Rows L2
section
variable {prog : Program} {w : World} {A : Around} {E : Value → Shared → Prop} {s : Shared} {Q : Value → Shared → Prop}
/-- repr(x) of a list, a tuple, a dict -/
theorem repr_reads {v : Value} {d : PyData} {as : List Addr} (r : Reads s.heap v d as) (hs : d.showable = true) (hsm : d.hasDict = true → sysModules ∉ as) (hz : d.shown.length ≤ sizeLine) (hg : A.guards = some []) (hu : A.units + 1 + d.depth < cLine)
    (hQ : ∀ h' u tk, (∀ b o, s.heap.get? b = some o → h'.get? b = some o) → Q (.str d.shown u) { s with heap := h', toks := tk }) : wpAny (model prog w) A (call (.builtin "repr") [v]) Q E s := by
  cases r with
  | none => exact PySem.P.repr_of_none (hQ s.heap _ _ fun _ _ e => e)
  | bool b => exact PySem.P.repr_of_bool (hQ s.heap _ _ fun _ _ e => e)
  | int i t => exact PySem.P.repr_of_int (by simpa [PyData.showable] using hs) (hQ s.heap _ _ fun _ _ e => e)
  | str x t => exact PySem.P.repr_of_str (hQ s.heap _ _ fun _ _ e => e) (by simpa only [PyData.shown] using hz)
  | @list a o vs n xs as h1 h2 h3 h4 =>
    have hz' : (listText (PyData.shownAll xs)).length ≤ sizeLine := by simpa only [PyData.shown] using hz
    obtain ⟨bs, hb, hk⟩ := ReprAllK.of_readsAll (prog := prog) (w := w) h4 (by simpa [PyData.showable] using hs) (fun hx hm => hsm (by simpa [PyData.hasDict] using hx) (List.mem_cons_of_mem _ hm)) fun t ht => Nat.le_trans (listText_mem_le ht) hz'
    have whole : Reads s.heap (.ref a) (.list xs) _ := .list h1 h2 h3 h4
    have na : a ∉ bs := not_mem_of_deeper whole (by simp only [PyData.depth]; omega) hb
    simp only [PyData.depth] at hu
    simp only [PyData.shown] at hQ
    refine call_repr_slot (by omega) ⟨o, h1, h2⟩ F.slot_list_repr.toG ?_
    obtain ⟨l⟩ := vs
    cases l with
    | nil =>
      have h4' : ReadsAll s.heap [] xs _ := h4
      cases h4'
      simp only [PyData.shownAll, listText_nil] at hQ
      exact call_list_repr_empty ⟨o, h1, h2⟩ h1 h3 ⟨_, _, rfl, hQ s.heap _ _ fun _ _ e => e⟩
    | cons x l =>
      exact call_list_reprK h1 h2 h3 na (by simpa using hk.length_eq) (fun i y e => hk.item i y (by simpa using e)) (show A.in1.guards = some [] from hg) (fun b _ => Clear.nil b) (show A.units + 1 + (_ + 1) < cLine from hu) (fun _ _ e => e) (fun h' u tk k => ⟨_, _, rfl, hQ h' u tk k⟩) hz'
  | @tuple a o vs n xs as h1 h2 h3 h4 =>
    have hz' : (tupleText (PyData.shownAll xs)).length ≤ sizeLine := by simpa only [PyData.shown] using hz
    obtain ⟨bs, hb, hk⟩ := ReprAllK.of_readsAll (prog := prog) (w := w) h4 (by simpa [PyData.showable] using hs) (fun hx => hsm (by simpa [PyData.hasDict] using hx)) fun t ht => Nat.le_trans (tupleText_mem_le ht) hz'
    have whole : Reads s.heap (.ref a) (.tuple xs) _ := .tuple h1 h2 h3 h4
    have na : a ∉ bs := not_mem_of_deeper whole (by simp only [PyData.depth]; omega) hb
    simp only [PyData.depth] at hu
    simp only [PyData.shown] at hQ
    exact call_repr_slot (by omega) ⟨o, h1, h2⟩ F.slot_tuple_repr
      (call_tuple_reprK h1 h2 h3 na hk (show A.in1.guards = some [] from hg) (fun b _ => Clear.nil b) (show A.units + 1 + (_ + 1) < cLine from hu) (fun _ _ e => e) (fun h' u tk k => ⟨_, _, rfl, hQ h' u tk k⟩) hz')
  | @dict a o es n kvs as bs h1 h2 h3 h4 h5 =>
    have hz' : (dictText (PyData.shownKv kvs)).length ≤ sizeLine := by simpa only [PyData.shown] using hz
    have no : sysModules ∉ a :: as ++ bs := hsm (by simp only [PyData.hasDict])
    obtain ⟨s1, s2⟩ := PyData.showableKv_split kvs (by simpa [PyData.showable] using hs)
    obtain ⟨b1, hb1, k1⟩ := ReprAllK.of_readsAll (prog := prog) (w := w) h4 s1 (fun _ hm => no (List.mem_cons_of_mem _ (List.mem_append_left _ hm))) fun t ht => let ⟨p, hp, hl⟩ := PyData.shownKv_key_le kvs t ht; Nat.le_trans hl (Nat.le_trans (dictText_mem_le hp) hz')
    obtain ⟨b2, hb2, k2⟩ := ReprAllK.of_readsAll (prog := prog) (w := w) h5 s2 (fun _ hm => no (List.mem_cons_of_mem _ (List.mem_append_right _ hm))) fun t ht => let ⟨p, hp, hl⟩ := PyData.shownKv_val_le kvs t ht; Nat.le_trans hl (Nat.le_trans (dictText_mem_le hp) hz')
    have whole : Reads s.heap (.ref a) (.dict kvs) _ := .dict h1 h2 h3 h4 h5
    have hb : ReadAtMost s.heap (PyData.depthKv kvs) (b1 ++ b2) := (hb1.mono (PyData.depthAll_keys_le kvs)).append (hb2.mono (PyData.depthAll_vals_le kvs))
    have na : a ∉ b1 ++ b2 := not_mem_of_deeper whole (by simp only [PyData.depth]; omega) hb
    have sys : (a == sysModules) = false := beq_eq_false_iff_ne.mpr fun e => no (e ▸ List.mem_cons_self ..)
    simp only [PyData.depth] at hu
    simp only [PyData.shown, PyData.shownKv_eq] at hQ
    refine call_repr_slot (by omega) ⟨o, h1, h2⟩ F.slot_dict_repr (call_dict_reprK h1 h2 h3 sys na (ReprEntriesK.of_two es.toList _ _
      (k1.more_le (fun b hb => List.mem_append_left _ hb) (PyData.depthAll_keys_le kvs)) (k2.more_le (fun b hb => List.mem_append_right _ hb) (PyData.depthAll_vals_le kvs)))
      (show A.in1.guards = some [] from hg) (fun b _ => Clear.nil b) (show A.units + 1 + (_ + 1) < cLine from hu) (fun _ _ e => e) (fun h' u tk k => ⟨_, _, rfl, hQ h' u tk k⟩) (by rw [← PyData.shownKv_eq]; exact hz'))
end
/-- data, the empty dict, too -/
def P.datR : P → Option PyData
  | .dct [] => some (.dict [])
  | x => x.dat
def reprP (x : P) : Option Str := match x.datR with
  | some d => if d.showable = true ∧ d.shown.length ≤ 1000000 ∧ d.depth ≤ 60 then some d.shown else none
  | none => none
section
variable {X : Cx} {T : Tb} {W : WX}
mutual
theorem dat_noDict : ∀ {x : P} {d : PyData}, x.dat = some d → d.hasDict = false
  | .non, _, e => by cases e; rfl
  | .bl _, _, e => by cases e; rfl
  | .int _, _, e => by cases e; rfl
  | .str _, _, e => by cases e; rfl
  | .tup xs, d, e => by
    have e' : (datAll xs).map PyData.tuple = some d := e
    obtain ⟨ds, h, rfl⟩ := Option.map_eq_some_iff.mp e'
    simp only [PyData.hasDict]; exact datAll_noDict h
  | .lst xs, d, e => by
    have e' : (datAll xs).map PyData.list = some d := e
    obtain ⟨ds, h, rfl⟩ := Option.map_eq_some_iff.mp e'
    simp only [PyData.hasDict]; exact datAll_noDict h
  | .ty _, _, e => by cases e
  | .glb _, _, e => by cases e
  | .dct _, _, e => by cases e
  | .dcT _, _, e => by cases e
  | .obj _ _, _, e => by cases e
  | .slt _ _, _, e => by cases e
  | .exc _ _, _, e => by cases e
theorem datAll_noDict : ∀ {xs : List P} {ds : List PyData}, datAll xs = some ds → PyData.hasDictAll ds = false
  | [], _, e => by cases e; rfl
  | x :: xs, ds, e => by
    unfold datAll at e
    cases q1 : x.dat with
    | none => rw [q1] at e; cases e
    | some d =>
      cases q2 : datAll xs with
      | none => rw [q1, q2] at e; cases e
      | some es => rw [q1, q2] at e; cases e; simp only [PyData.hasDictAll, dat_noDict q1, datAll_noDict q2, Bool.or_self]
end
theorem datR_reads {pins : List (Addr × Obj)} {σ : L2.St} {H : Hp} {s : Shared} (I : Inv X pins σ H s) (hK : T.K = X.K) {x : P} {v : V} {u : Value} {d : PyData} (r : RP T H x v) (ru : RelV v u) (e : x.datR = some d) : ∃ as, Reads s.heap u d as ∧ (d.hasDict = true → sysModules ∉ as) := by
  by_cases c : x = .dct []
  · subst c
    cases e
    cases r with
    | @dct _ a us h e2 _ =>
      cases us with
      | cons _ _ => simp at e2
      | nil =>
      cases (show u = Value.ref a from ru)
      obtain ⟨_, ne, vs, kv, o, es, ep, h1, h2, h3, _, h5, _⟩ := dk_rd I.hok h
      cases kv
      have z : es.toList = [] := by cases q : es.toList with
        | nil => rfl
        | cons _ _ => rw [q] at h5; cases h5
      refine ⟨a :: [] ++ [], .dict h1 h2.1 h3 (by rw [z]; exact .nil) (by rw [z]; exact .nil), fun _ m => ?_⟩
      simp at m
      rw [m] at ne
      simp at ne
  · have e' : x.dat = some d := by
      rw [← e]
      unfold P.datR
      split
      · exact (c rfl).elim
      · rfl
    obtain ⟨as, q⟩ := Dp.reads I d v u (hK ▸ dat_ok r e') ru
    exact ⟨as, q, fun z => by rw [dat_noDict e'] at z; cases z⟩
def rRepr (T : Tb) : List V → Hp → VK → Prop := fun xs H Q => ∃ x v t, xs = [v] ∧ RP T H x v ∧ reprP x = some t ∧ Q (.str t) H
theorem call_repr (hK : T.K = X.K) (hg : X.A.guards = some []) (hu : X.A.units + 61 < cLine) : CallR X (.builtin "repr") (rRepr T) := by
  intro pins s σ H xs us Q I r h
  obtain ⟨x, v, t, rfl, rx, e, q⟩ := h
  obtain ⟨u, rfl, ru⟩ := vals1 r
  unfold reprP at e
  split at e
  · rename_i d hd
    split at e
    · rename_i c
      cases e
      obtain ⟨as, q1, q2⟩ := datR_reads I hK rx ru hd
      exact repr_reads q1 c.1 q2 (lineM c.2.1) hg (by omega) fun h' u tk k => ⟨.str _, H, I.kept k, ⟨_, rfl⟩, q⟩
    · cases e
  · cases e
end
end Ev

set_option Elab.async false
set_option linter.all false
set_option maxRecDepth 100000
set_option maxHeartbeats 2000000
/-! Ev10: frozen places, writing into the store. -/
namespace Ev
open PySem PySem.Spec PyProof.Rows L2
section
variable {X : Cx} {T : Tb} {W : WX}
/-! ### a place becomes a value -/
def norm (s : Sto) : D → D
  | .p x => .p x
  | .ref l => match s[l]? with
    | some (.fz x) => .p x
    | _ => .ref l
theorem norm_ok {Z α : List Addr} {s : Sto} {H : Hp} {d : D} {v : V} (st : St T Z α H s) (r : RD T α (pur Z α s H) d v) : RD T α (pur Z α s H) (norm s d) v := by
  cases r with
  | p h => exact .p h
  | @ref l a h =>
    unfold norm
    dsimp only
    split
    · rename_i x e
      exact .p (st.obj l a _ h e)
    · exact .ref h
theorem norms_ok {Z α : List Addr} {s : Sto} {H : Hp} {ds : List D} {vs : List V} (st : St T Z α H s) (r : RDs T α (pur Z α s H) ds vs) : RDs T α (pur Z α s H) (ds.map (norm s)) vs := by
  induction r with
  | nil => exact .nil
  | cons h r ih => exact .cons (norm_ok st h) ih
/-- the value of an object, its fields looked up -/
def O.purS (s : Sto) : O → Option P
  | .ins c fs => (pures ((fs.map Prod.snd).map (norm s))).map fun xs => .obj c ((fs.map Prod.fst).zip xs)
  | o => o.pur
def fz (d : D) (s : Sto) : Option (P × Sto) := match norm s d with
  | .p x => some (x, s)
  | .ref l => match s[l]? with
    | some o => (o.purS s).map fun x => (x, s.set l (.fz x))
    | none => none
/-- after the freezing -/
theorem fz_ok {Z α : List Addr} {s s' : Sto} {H : Hp} {d : D} {v : V} {x : P} (st : St T Z α H s) (r : RD T α (pur Z α s H) d v) (e : fz d s = some (x, s')) :
    St T Z α H s' ∧ Go Z α s H α s' H ∧ RP T (pur Z α s' H) x v := by
  have r := norm_ok st r
  unfold fz at e
  cases q : norm s d with
  | p y =>
    rw [q] at e r
    cases e
    cases r with | p r => exact ⟨st, Go.refl .., r⟩
  | ref l =>
    rw [q] at e r
    dsimp only at e
    cases r with
    | @ref _ a h =>
      cases ho : s[l]? with
      | none => rw [ho] at e; cases e
      | some o =>
        rw [ho] at e
        dsimp only at e
        obtain ⟨y, hy, e⟩ := Option.map_eq_some_iff.mp e
        cases e
        have hl : l < s.length := (List.getElem?_eq_some_iff.mp ho).1
        have sub : ∀ b, b ∈ Z ++ hid α (s.set l (.fz x)) → b ∈ Z ++ hid α s := fun b m => by
          rcases List.mem_append.mp m with m | m
          · exact List.mem_append_left _ m
          · refine List.mem_append_right _ ?_
            obtain ⟨j, u, h1, h2, h3⟩ := mem_hid.mp m
            by_cases c : l = j
            · subst c; rw [List.getElem?_set_self hl] at h2; cases h2; cases h3
            · rw [List.getElem?_set_ne c] at h2; exact mem_hid.mpr ⟨j, u, h1, h2, h3⟩
        have k : Same (pur Z α s H) (pur Z α (s.set l (.fz x)) H) := hide_sub sub H
        have vis : a ∉ Z ++ hid α (s.set l (.fz x)) := fun m => by
          rcases List.mem_append.mp m with m | m
          · exact st.dz a (List.mem_of_getElem? h) m
          · obtain ⟨j, u, h1, h2, h3⟩ := mem_hid.mp m
            have e5 : α[l]? = α[j]? := h.trans h1.symm
            have := (List.getElem?_inj (List.getElem?_eq_some_iff.mp h).1 st.nd).mp e5
            subst this
            rw [List.getElem?_set_self hl] at h2; cases h2; cases h3
        have rx : RP T (pur Z α (s.set l (.fz x)) H) x (.ref a) := by
          have ob := st.obj l a o h ho
          cases o with
          | ins c fs =>
            obtain ⟨dx, us, h1, h2, h3⟩ := ob
            have hy' : (pures ((fs.map Prod.snd).map (norm s))).map (fun xs => P.obj c ((fs.map Prod.fst).zip xs)) = some x := hy
            obtain ⟨xs, p, rfl⟩ := Option.map_eq_some_iff.mp hy'
            have hn : (fs.map Prod.fst).length = xs.length := by rw [pures_len p]; simp
            exact .obj ((pur_out vis).trans h1) (by rw [zip_fst hn]; exact h2) (by rw [zip_snd hn]; exact (pures_ok (norms_ok st h3) p).ext (Ext.same k))
          | lst _ => exact ob.value (Ext.same k) (pur_out vis) hy
          | dct _ => exact ob.value (Ext.same k) (pur_out vis) hy
          | dcT _ => exact ob.value (Ext.same k) (pur_out vis) hy
          | fz _ => exact ob.value (Ext.same k) (pur_out vis) hy
        refine ⟨⟨by simp [st.len], st.nd, st.dz, st.dom, st.zdom, fun j b u h1 h2 => ?_⟩, ⟨List.prefix_refl _, k, fun _ _ => rfl⟩, rx⟩
        by_cases c : l = j
        · subst c
          rw [List.getElem?_set_self hl] at h2; cases h2
          rw [h] at h1; cases h1
          exact rx
        · rw [List.getElem?_set_ne c] at h2
          exact (st.obj j b u h1 h2).mono (Ext.same k) (List.prefix_refl _) rfl
def fzs : List D → Sto → Option (List P × Sto)
  | [], s => some ([], s)
  | d :: ds, s => match fz d s with
    | some (x, s1) => match fzs ds s1 with
      | some (xs, s2) => some (x :: xs, s2)
      | none => none
    | none => none
theorem fzs_ok {Z α : List Addr} {H : Hp} : ∀ {ds : List D} {vs : List V} {s s' : Sto} {xs : List P}, St T Z α H s → RDs T α (pur Z α s H) ds vs → fzs ds s = some (xs, s') →
    St T Z α H s' ∧ Go Z α s H α s' H ∧ RPs T (pur Z α s' H) xs vs
  | [], _, s, s', xs, st, r, e => by cases r; cases e; exact ⟨st, Go.refl .., .nil⟩
  | d :: ds, _, s, s', xs, st, r, e => by
    cases r with
    | cons h r =>
      unfold fzs at e
      cases q : fz d s with
      | none => rw [q] at e; cases e
      | some w =>
        obtain ⟨x, s1⟩ := w
        rw [q] at e
        dsimp only at e
        obtain ⟨st1, g1, r1⟩ := fz_ok st h q
        cases q2 : fzs ds s1 with
        | none => rw [q2] at e; cases e
        | some w =>
          obtain ⟨ys, s2⟩ := w
          rw [q2] at e; cases e
          obtain ⟨st2, g2, r2⟩ := fzs_ok st1 (r.go g1.ext g1.pre) q2
          exact ⟨st2, g1.trans g2, .cons (r1.ext g2.ext) r2⟩
def dNm (f : DE) : DE := fun env s => (f env s).bind fun d s => .ok (norm s d) s
def dFz (f : DE) : DE := fun env s => (f env s).bind fun d s => match fz d s with
  | some (x, s') => .ok (.p x) s'
  | none => .bad
def aFz (f : DA) : DA := fun env s => (f env s).bind fun ds s => match fzs ds s with
  | some (xs, s') => .ok (xs.map .p) s'
  | none => .bad
theorem e_nm {e : Expr} {f : DE} (h : PE X e (rd T W f)) : PE X e (rd T W (dNm f)) := h.imp fun σ H Q ⟨Z, α, env, s, st, re, h⟩ =>
  ⟨Z, α, env, s, st, re, (Post.split (Rel := relD T) h).mono fun v H1 ⟨α1, d, s1, _, g1, st1, r1, h1⟩ => Post.done (a := norm s1 d) h1 st1 (norm_ok st1 r1)⟩
theorem e_fz {e : Expr} {f : DE} (h : PE X e (rd T W f)) : PE X e (rd T W (dFz f)) := h.imp fun σ H Q ⟨Z, α, env, s, st, re, h⟩ =>
  ⟨Z, α, env, s, st, re, (Post.split (Rel := relD T) h).mono fun v H1 ⟨α1, d, s1, _, g1, st1, r1, h1⟩ => by
    cases q : fz d s1 with
    | none => rw [q] at h1; exact h1.elim
    | some w =>
      obtain ⟨x, s2⟩ := w
      rw [q] at h1
      obtain ⟨st2, g2, r2⟩ := fz_ok st1 r1 q
      exact h1 α1 H1 v g2 st2 (.p r2)⟩
theorem RPs.toRDs {α : List Addr} {G : Hp} : ∀ {xs : List P} {vs : List V}, RPs T G xs vs → RDs T α G (xs.map .p) vs
  | [], _, h => by cases h; exact .nil
  | x :: xs, _, h => by cases h with | cons h r => exact .cons (.p h) (RPs.toRDs r)
theorem a_fz {es : List Expr} {f : DA} (h : PA X es (rdA T W f)) : PA X es (rdA T W (aFz f)) := h.imp fun σ H Q ⟨Z, α, env, s, st, re, h⟩ =>
  ⟨Z, α, env, s, st, re, (Post.split (Rel := relA T) h).mono fun v H1 ⟨α1, d, s1, _, g1, st1, r1, h1⟩ => by
    cases q : fzs d s1 with
    | none => rw [q] at h1; exact h1.elim
    | some w =>
      obtain ⟨x, s2⟩ := w
      rw [q] at h1
      obtain ⟨st2, g2, r2⟩ := fzs_ok st1 r1 q
      exact h1 α1 H1 v g2 st2 r2.toRDs⟩
theorem pures_p (xs : List P) : pures (xs.map .p) = some xs := by
  induction xs with
  | nil => rfl
  | cons x xs ih => show (pures (xs.map .p)).map (x :: ·) = _; rw [ih]; rfl

/-! ### an object of the store is written -/
theorem hid_set {α : List Addr} {s : Sto} {l : Nat} {o o' : O} (ho : s[l]? = some o) (lo : o.live = true) (lo' : o'.live = true) (a : Addr) : a ∈ hid α (s.set l o') ↔ a ∈ hid α s := by
  have hl : l < s.length := (List.getElem?_eq_some_iff.mp ho).1
  constructor
  · intro m
    obtain ⟨j, u, h1, h2, h3⟩ := mem_hid.mp m
    by_cases c : l = j
    · subst c; exact mem_hid.mpr ⟨l, o, h1, ho, lo⟩
    · rw [List.getElem?_set_ne c] at h2; exact mem_hid.mpr ⟨j, u, h1, h2, h3⟩
  · intro m
    obtain ⟨j, u, h1, h2, h3⟩ := mem_hid.mp m
    by_cases c : l = j
    · subst c; exact mem_hid.mpr ⟨l, o', h1, List.getElem?_set_self hl, lo'⟩
    · exact mem_hid.mpr ⟨j, u, h1, by rw [List.getElem?_set_ne c]; exact h2, h3⟩
theorem St.write {Z α : List Addr} {s : Sto} {H : Hp} {l : Nat} {a : Addr} {o o' : O} {u : HO} (st : St T Z α H s) (ha : α[l]? = some a) (ho : s[l]? = some o) (lo : o.live = true) (lo' : o'.live = true)
    (r : RO T α (pur Z α s H) (upd H a u) a o') : St T Z α (upd H a u) (s.set l o') ∧ Go Z α s H α (s.set l o') (upd H a u) := by
  have hl : l < s.length := (List.getElem?_eq_some_iff.mp ho).1
  have am : a ∈ α := List.mem_of_getElem? ha
  have ah : a ∈ hid α s := mem_hid.mpr ⟨l, o, ha, ho, lo⟩
  have ep : pur Z α (s.set l o') (upd H a u) = pur Z α s H := by
    funext b
    have iff : b ∈ Z ++ hid α (s.set l o') ↔ b ∈ Z ++ hid α s := by simp only [List.mem_append, hid_set ho lo lo' b]
    by_cases c : b ∈ Z ++ hid α s
    · rw [pur_in c, pur_in (iff.mpr c)]
    · rw [pur_out c, pur_out fun z => c (iff.mp z), upd_ne fun e => c (by rw [e]; exact List.mem_append_right _ ah)]
  refine ⟨⟨by simp [st.len], st.nd, st.dz, fun b m => ?_, fun b m => ?_, fun j b w h1 h2 => ?_⟩, ⟨List.prefix_refl _, by rw [ep]; exact Same.refl _, fun b m => upd_ne fun e => st.dz a am (by rw [← e]; exact m)⟩⟩
  · by_cases c : b = a
    · exact ⟨u, by rw [c, upd_same]⟩
    · rw [upd_ne c]; exact st.dom b m
  · by_cases c : b = a
    · exact ⟨u, by rw [c, upd_same]⟩
    · rw [upd_ne c]; exact st.zdom b m
  · rw [ep]
    by_cases c : l = j
    · subst c
      rw [List.getElem?_set_self hl] at h2; cases h2
      rw [ha] at h1; cases h1
      exact r
    · rw [List.getElem?_set_ne c] at h2
      have nb : b ≠ a := fun e => by
        subst e
        have e5 : α[l]? = α[j]? := ha.trans h1.symm
        exact c ((List.getElem?_inj (List.getElem?_eq_some_iff.mp ha).1 st.nd).mp e5)
      exact (st.obj j b w h1 h2).mono (Ext.refl _) (List.prefix_refl _) (upd_ne nb)
theorem isLst_ty_ {Z α : List Addr} {s : Sto} {H : Hp} {l : Nat} {a : Addr} {K : PySem.W.Frag} (st : St T Z α H s) (ha : α[l]? = some a) (xs : List P) (e : s[l]? = some (.lst xs)) : tyV K "list" (.ref a) H := by
  obtain ⟨vs, h, _⟩ := st.obj l a _ ha e
  exact .inl ⟨rfl, vs, .inl (.inl h)⟩
/-! ### methods of lists -/
abbrev GM := List P → List P → Option (P × List P)
def MutL (T : Tb) (r : V → List V → Hp → VK → Prop) (g : GM) : Prop := ∀ (G H : Hp) (a : Addr) (vs us : List V) (xs ys : List P) (z : P) (xs' : List P) (Q : VK), Same G H → H a = some (.lst vs) → RPs T G xs vs → RPs T G ys us → g xs ys = some (z, xs') →
  (∀ u vs', RPs T G xs' vs' → RP T G z u → Q u (upd H a (.lst vs'))) → r (.ref a) us H Q
def isLst (s : Sto) (l : Nat) : Bool := match s[l]? with
  | some (.lst _) => true
  | _ => false
def mutK (g : GM) (l : Nat) (ds : List D) (s : Sto) : R D := match fzs ds s with
  | some (ys, s) => match s[l]? with
    | some (.lst xs) => match g xs ys with
      | some (z, xs') => .ok (.p z) (s.set l (.lst xs'))
      | none => .bad
    | _ => .bad
  | none => .bad
def dMut (g : GM) (fo : DE) (fa : DA) : DE := fun env s => (fo env s).bind fun d s => match d with
  | .ref l => if isLst s l = true then (fa env s).bind fun ds s => mutK g l ds s else .bad
  | _ => .bad
def dMut0 (g : GM) (fo : DE) : DE := fun env s => (fo env s).bind fun d s => match d with
  | .ref l => if isLst s l = true then mutK g l [] s else .bad
  | _ => .bad
theorem mut_ok {r : V → List V → Hp → VK → Prop} {g : GM} (hr : MutL T r g) {Z α : List Addr} {s : Sto} {H : Hp} {σ : L2.St} {l : Nat} {a : Addr} {ds : List D} {us : List V} {Q : VK} (st : St T Z α H s) (ha : α[l]? = some a) (rs : RDs T α (pur Z α s H) ds us)
    (h : Post T (relD T) Z α s H W σ (mutK g l ds s) Q) : r (.ref a) us H Q := by
  unfold mutK at h
  cases q : fzs ds s with
  | none => rw [q] at h; exact h.elim
  | some w =>
    obtain ⟨ys, s1⟩ := w
    rw [q] at h
    dsimp only at h
    obtain ⟨st1, g1, r1⟩ := fzs_ok st rs q
    split at h
    · rename_i xs ho
      cases e : g xs ys with
      | none => rw [e] at h; exact h.elim
      | some w =>
        obtain ⟨z, xs'⟩ := w
        rw [e] at h
        dsimp only at h
        obtain ⟨vs, hv, rv⟩ := st1.obj l a _ ha ho
        refine hr (pur Z α s1 H) H a vs us xs ys z xs' Q (hide_ext _ _) hv rv r1 e fun u vs' h1 h2 => ?_
        obtain ⟨st2, g2⟩ := st1.write (o' := .lst xs') (u := .lst vs') ha ho rfl rfl ⟨vs', upd_same, h1⟩
        exact h α _ u (g1.trans g2) st2 (.p (h2.ext g2.ext))
    · exact h.elim
theorem isLst_ty {Z α : List Addr} {s : Sto} {H : Hp} {l : Nat} {a : Addr} {K : PySem.W.Frag} (st : St T Z α H s) (ha : α[l]? = some a) (c : isLst s l = true) : tyV K "list" (.ref a) H := by
  unfold isLst at c
  split at c
  · rename_i xs e; exact isLst_ty_ st ha xs e
  · cases c
theorem e_mut {o e : Expr} {es : List Expr} {fo : DE} {fa : DA} {name : Str} {id : String} {r : V → List V → Hp → VK → Prop} {g : GM} {apos cpos : Pos} (hg : MutL T r g) (slot : Slot "list" name id) (hty : typeOf (.builtin id) = pure (.type "method_descriptor")) (hm : MtR X id r)
    (ho : PE X o (rd T W fo)) (ha : PA X (e :: es) (rdA T W fa)) (hbase : attributeBase o name X.env (eval o X.env) = eval o X.env := by rfl)
    (hfew : ((backTo cpos (starEach (e :: es) X.env)).all (fun x => !x.1) && (backToKw cpos (keywordEach [] X.env)).all (fun x => x.1.isSome)
      && decide ((e :: es).length + ([] : List Keyword).length + (if ([] : List Keyword).isEmpty then 0 else 1) < 30)) = true := by rfl)
    (hline : (apos.endLine == cpos.line) = true := by rfl) (hs : starEach (e :: es) X.env = (false, eval e X.env) :: starEach es X.env := by rfl) (hplain : (backTo cpos (starEach es X.env)).any (·.1) = false := by rfl) :
    PE X (.Call (.Attribute o name apos) (e :: es) [] cpos) (rd T W (dMut g fo fa)) :=
  (pe_bm PySem.F.plainAttrs_list slot hty hm ho ha hbase hfew hline hs hplain).imp fun σ H Q ⟨Z, α, env, s, st, re, h⟩ =>
    ⟨Z, α, env, s, st, re, (Post.split (Rel := relD T) h).mono fun v H1 ⟨α1, d, s1, _, g1, st1, r1, h1⟩ => by
      cases r1 with
      | p _ => exact h1.elim
      | @ref l a hα =>
        dsimp only at h1
        by_cases c : isLst s1 l = true
        · rw [if_pos c] at h1
          refine ⟨isLst_ty st1 hα c, Z, α1, env, s1, st1, re.go g1.ext g1.pre, (Post.split (Rel := relA T) h1).mono fun us H2 ⟨α2, ds, s2, _, g2, st2, r2, h2⟩ => ?_⟩
          obtain ⟨t, et⟩ := g2.pre
          have hα2 : α2[l]? = some a := by rw [← et, List.getElem?_append_left (List.getElem?_eq_some_iff.mp hα).1]; exact hα
          exact mut_ok hg st2 hα2 r2 h2
        · rw [if_neg c] at h1; exact h1.elim⟩
theorem e_mut0 {o : Expr} {fo : DE} {name : Str} {id : String} {r : V → List V → Hp → VK → Prop} {g : GM} {apos cpos : Pos} (hg : MutL T r g) (slot : Slot "list" name id) (hty : typeOf (.builtin id) = pure (.type "method_descriptor")) (hm : MtR X id r)
    (ho : PE X o (rd T W fo)) (hbase : attributeBase o name X.env (eval o X.env) = eval o X.env := by rfl) (hline : (apos.endLine == cpos.line) = true := by rfl) :
    PE X (.Call (.Attribute o name apos) [] [] cpos) (rd T W (dMut0 g fo)) :=
  (pe_bm0 PySem.F.plainAttrs_list slot hty hm ho hbase hline).imp fun σ H Q ⟨Z, α, env, s, st, re, h⟩ =>
    ⟨Z, α, env, s, st, re, (Post.split (Rel := relD T) h).mono fun v H1 ⟨α1, d, s1, _, g1, st1, r1, h1⟩ => by
      cases r1 with
      | p _ => exact h1.elim
      | @ref l a hα =>
        dsimp only at h1
        by_cases c : isLst s1 l = true
        · rw [if_pos c] at h1
          exact ⟨isLst_ty st1 hα c, mut_ok hg st1 hα .nil h1⟩
        · rw [if_neg c] at h1; exact h1.elim⟩
/-! append, extend, pop -/
def gAppend : GM := fun xs ys => match ys with
  | [y] => if xs.length < 1000000 then some (.non, xs ++ [y]) else none
  | _ => none
theorem RPs.one {G : Hp} {y : P} {us : List V} (h : RPs T G [y] us) : ∃ u, us = [u] ∧ RP T G y u := by
  cases h with | cons h r => cases r; exact ⟨_, rfl, h⟩
theorem mut_append : MutL T rAppend gAppend := fun G H a vs us xs ys z xs' Q k hH rx ry e h => by
  unfold gAppend at e
  split at e
  · split at e
    · rename_i c; cases e
      obtain ⟨u, rfl, ru⟩ := ry.one
      exact ⟨a, vs, u, rfl, rfl, hH, by rw [rx.length]; exact line1M c, h _ _ (rx.append (.cons ru .nil)) .non⟩
    · cases e
  · cases e
def rExtR : V → List V → Hp → VK → Prop := fun x vs H Q => ∃ l b xs zs, x = .ref l ∧ vs = [.ref b] ∧ H l = some (.lst xs) ∧ Rd H b (.lst zs) ∧ xs.length + zs.length ≤ sizeLine ∧ Q .non (upd H l (.lst (xs ++ zs)))
theorem mt_extR : MtR X "list.extend" rExtR := by
  intro pins s σ H x vs v us Q I rx rv h
  obtain ⟨l, b, xs, zs, rfl, rfl, hH, hB, hz, q⟩ := h
  cases rx
  obtain ⟨u, rfl, ru⟩ := rv.one
  cases ru
  obtain ⟨_, its, n, r, hl, e⟩ := I.lstM hH
  obtain ⟨_, its2, n2, r2, e2⟩ := hB.ok I.hok
  have hl2 := r2.length
  have fits : its.toArray.size + its2.toArray.size ≤ sizeLine := by rw [List.size_toArray, List.size_toArray, ← hl, ← hl2]; exact hz
  have short : ¬ (!its.toArray.isEmpty && Builtin.List.listTooLong (its.toArray.size + its2.toArray.size)) = true := by
    rw [notLongL fits, Bool.and_false]
    simp
  refine call_meets PySem.F.slot_list_extend ⟨_, e, rfl⟩ PySem.F.entry_list_extend (PySem.F.args_list_extend_2 _ _) (AutoSeq1.list_extend_list_list_0 l its.toArray n b its2.toArray n2 short (by omega) (by omega)) ⟨e, e2, ?_⟩
  exact ⟨.non, _, I.lset (its' := its ++ its2) hH e (by simp) (r.append r2) (by rw [List.length_append]; exact hz), rfl, q⟩
def gExtend : GM := fun xs ys => match ys with
  | [.lst zs] => if xs.length + zs.length ≤ 1000000 then some (.non, xs ++ zs) else none
  | _ => none
theorem mut_extend : MutL T rExtR gExtend := fun G H a vs us xs ys z xs' Q k hH rx ry e h => by
  unfold gExtend at e
  split at e
  · split at e
    · rename_i c; cases e
      obtain ⟨u, rfl, ru⟩ := ry.one
      cases ru with
      | @lst _ b ws hb rs => exact ⟨a, b, vs, ws, rfl, rfl, hH, (Ext.same k).rd hb, by rw [rx.length, rs.length]; exact lineM c, h _ _ (rx.append rs) .non⟩
    · cases e
  · cases e
def gPop0 : GM := fun xs ys => match ys with
  | [] => (xs[xs.length - 1]?).map fun y => (y, xs.dropLast)
  | _ => none
theorem RPs.dropLast {G : Hp} {xs : List P} {vs : List V} (h : RPs T G xs vs) : RPs T G xs.dropLast vs.dropLast := by
  rw [List.dropLast_eq_take, List.dropLast_eq_take, h.length]; exact h.take _
theorem mut_pop0 : MutL T rPop gPop0 := fun G H a vs us xs ys z xs' Q k hH rx ry e h => by
  unfold gPop0 at e
  split at e
  · obtain ⟨y, hy, e⟩ := Option.map_eq_some_iff.mp e
    cases e
    cases ry
    obtain ⟨u, hu, ru⟩ := rx.get hy
    exact ⟨a, vs, u, rfl, rfl, hH, by rw [rx.length]; exact hu, h _ _ rx.dropLast ru⟩
  · cases e
def gPop1 : GM := fun xs ys => match ys with
  | [.int i] => if -(2 ^ 63) ≤ i ∧ i < 2 ^ 63 then match seqIndex? i xs.length with
    | some k => (xs[k]?).map fun y => (y, xs.eraseIdx k)
    | none => none
    else none
  | _ => none
theorem mut_pop1 : MutL T rPopAt gPop1 := fun G H a vs us xs ys z xs' Q k hH rx ry e h => by
  unfold gPop1 at e
  split at e
  · split at e
    · rename_i c
      split at e
      · rename_i j hj
        obtain ⟨y, hy, e⟩ := Option.map_eq_some_iff.mp e
        cases e
        obtain ⟨w, rfl, rw'⟩ := ry.one
        cases rw'
        obtain ⟨u, hu, ru⟩ := rx.get hy
        exact ⟨a, vs, _, j, u, rfl, rfl, hH, c.1, c.2, by rw [rx.length]; exact hj, hu, h _ _ (rx.eraseIdx j) ru⟩
      · cases e
    · cases e
  · cases e
/-! ### xs[i] = v, d[k] = v -/
def rSetA : TSet := fun o i v H Q => rSetL o i v H Q ∨ rSetD o i v H Q
theorem set_all (hu : X.A.units + 1 < cLine) : PSet X rSetA := by
  intro pins s σ H o i v ov iv u Q I ro ri rv h
  rcases h with h | h
  · exact set_list pins s σ H o i v ov iv u Q I ro ri rv h
  · exact set_dict hu pins s σ H o i v ov iv u Q I ro ri rv h
def setP (o : O) (i x : P) : Option O := match o with
  | .lst xs => match i with
    | .int k => (ixN xs.length k).map fun j => .lst (xs.set j x)
    | _ => none
  | .dct kvs => match i.key with
    | some k => if kvs.length < 1000000 then some (.dct (putP kvs k x)) else none
    | none => none
  | _ => none
theorem setP_ok {Z α : List Addr} {s : Sto} {H : Hp} {l : Nat} {a : Addr} {o o' : O} {i x : P} {iv v : V} {Q : Hp → Prop} (st : St T Z α H s) (ha : α[l]? = some a) (ho : s[l]? = some o) (e : setP o i x = some o') (ri : RT T (pur Z α s H) H i iv) (rx : RP T (pur Z α s H) x v)
    (h : ∀ H', St T Z α H' (s.set l o') → Go Z α s H α (s.set l o') H' → Q H') : rSetA (.ref a) iv v H Q := by
  have ob := st.obj l a o ha ho
  unfold setP at e
  split at e
  · split at e
    · rename_i xs _ k
      obtain ⟨j, hj, rfl⟩ := Option.map_eq_some_iff.mp e
      obtain ⟨vs, h1, h2⟩ := ob
      obtain ⟨st2, g2⟩ := st.write (o' := .lst (xs.set j x)) (u := .lst (vs.set j v)) ha ho rfl rfl ⟨_, upd_same, h2.set rx j⟩
      rw [ri.int]
      exact .inl ⟨a, vs, k, j, rfl, rfl, h1, by rw [h2.length]; exact hj, h _ st2 g2⟩
    · cases e
  · split at e
    · rename_i kvs _ k hk
      split at e
      · rename_i c; cases e
        obtain ⟨us, h1, h2, h3⟩ := ob
        obtain ⟨p1, p2⟩ := put_rel (k := k) rx h2 h3
        obtain ⟨st2, g2⟩ := st.write (o' := .dct (putP kvs k x)) (u := .dK (putK us k v)) ha ho rfl rfl ⟨_, upd_same, p1, p2⟩
        have e1 : iv = kV k := key_ok (ri.full (hide_ext _ _)) hk
        have e2 : us.length = kvs.length := by have := congrArg List.length h2; simpa using this
        exact .inr ⟨a, _, rfl, .inl ⟨us, k, h1, e1, by rw [e2]; exact line1M c, rfl⟩, h _ st2 g2⟩
      · cases e
    · cases e
  · cases e
def dSet (fv fo fi : DE) : DS := fun env s => (fv env s).bindS env fun dv s => match fz dv s with
  | some (x, s) => (fo env s).bindS env fun d s => match d with
    | .ref l => (fi env s).bindS env fun di s => match look s di with
      | some i => match s[l]? with
        | some o => match setP o i x with
          | some o' => .nx env (s.set l o')
          | none => .bad
        | none => .bad
      | none => .bad
    | _ => .bad
  | none => .bad
theorem s_setI {o i e : Expr} {fo fi fv : DE} {pos tpos : Pos} (hu : X.A.units + 1 < cLine) (hv : PE X e (rd T W fv)) (ho : PE X o (rd T W fo)) (hi : PE X i (rd T W fi))
    (ha : ∀ v, assign (.Subscript o i tpos) X.env v = (do
      let ov ← holding [v] (eval o X.env)
      let iv ← holding [v, ov] (eval i X.env)
      standAt tpos
      holding [v, ov, iv] (setItem ov iv v)
      release [v, ov, iv] []) := by intro _; rfl) (hs : swapsWithSole [.Subscript o i tpos] e pos.line X.env = pure false := by rfl) (hw : swappedStores [.Subscript o i tpos] e X.env = pure none := by rfl)
    (h1 : (assignEach [.Subscript o i tpos] X.env).map (·.2) = [assign (.Subscript o i tpos) X.env] := by rfl) : PS X (.Assign [.Subscript o i tpos] e pos) (rdS T W (dSet fv fo fi)) :=
  (ps_asg hv (pg_sub ho hi (set_all hu) ha) hs hw h1).imp fun D σ H ⟨Z, α, env, s, st, re, h⟩ =>
    ⟨Z, α, env, s, st, re, (PostS.exp (Rel := relD T) re h).mono fun v H1 ⟨α1, d, s1, _, g1, st1, r1, re1, h1⟩ => by
      cases q : fz d s1 with
      | none => rw [q] at h1; exact h1.elim
      | some w =>
        obtain ⟨x, s2⟩ := w
        rw [q] at h1
        dsimp only at h1
        obtain ⟨st2, g2, rx⟩ := fz_ok st1 r1 q
        have h1 := PostS.from h1 g2
        refine ⟨Z, α1, env, s2, st2, re1.go g2.ext g2.pre, (PostS.exp (Rel := relD T) (re1.go g2.ext g2.pre) h1).mono fun ov H2 ⟨α3, d3, s3, _, g3, st3, r3, re3, h3⟩ => ?_⟩
        cases r3 with
        | p _ => exact h3.elim
        | @ref l a hα =>
          dsimp only at h3
          refine ⟨Z, α3, env, s3, st3, re3, (PostS.exp (Rel := relD T) re3 h3).mono fun iv H3 ⟨α4, d4, s4, _, g4, st4, r4, re4, h4⟩ => ?_⟩
          cases q1 : look s4 d4 with
          | none => rw [q1] at h4; exact h4.elim
          | some y =>
            rw [q1] at h4
            dsimp only at h4
            cases q2 : s4[l]? with
            | none => rw [q2] at h4; exact h4.elim
            | some ob =>
              rw [q2] at h4
              dsimp only at h4
              cases q3 : setP ob y x with
              | none => rw [q3] at h4; exact h4.elim
              | some ob' =>
                rw [q3] at h4
                obtain ⟨t, et⟩ := g4.pre
                have hα2 : α4[l]? = some a := by rw [← et, List.getElem?_append_left (List.getElem?_eq_some_iff.mp hα).1]; exact hα
                refine setP_ok st4 hα2 q2 q3 (look_ok st4 r4 q1) ((rx.ext g3.ext).ext g4.ext) fun H' st5 g5 => ?_
                exact PostS.here st5 (re4.go g5.ext g5.pre) (PostS.from h4 g5)⟩
end
end Ev

set_option Elab.async false
set_option linter.all false
set_option maxRecDepth 100000
set_option maxHeartbeats 2000000
/-! Ev11: calls of builtins. -/
namespace Ev
open PySem PySem.Spec PyProof.Rows L2
inductive RTs (T : Tb) (G H : Hp) : List P → List V → Prop
  | nil : RTs T G H [] []
  | cons {x : P} {v : V} {xs : List P} {vs : List V} (h : RT T G H x v) (r : RTs T G H xs vs) : RTs T G H (x :: xs) (v :: vs)
def looks (s : Sto) : List D → Option (List P)
  | [] => some []
  | d :: ds => match look s d, looks s ds with
    | some x, some xs => some (x :: xs)
    | _, _ => none
section
variable {prog : Program} {w : World} {A : Around} {E : Value → Shared → Prop} {sh : Shared} {Kf : PySem.W.Frag} {xa Da : Addr} {obj own : Obj}
open PySem.W in
theorem class_of_exc {R : Option Value → Shared → Prop} (F : ExcC Kf Da) (kin : Kf.In sh.heap) (at_ : InstAt sh.heap xa obj Da (some own)) (done : R (some (.ref Da)) { sh with toks := sh.toks + 1 }) : wpAny (model prog w) A (getAttr? (.ref xa) "__class__") R E sh := by
  have ic : isClsIn Kf Da = true := by
    obtain ⟨cd, hc, _⟩ := any_some F.hd
    unfold isClsIn; rw [hc]; rfl
  have found : findObj Kf Da (some own) "__class__" = some (.bind (.builtin "getset_descriptor.__get__") (.builtin "object.__class__")) := findObj_data ic F.ha F.hn F.ht
  obtain ⟨hp, g, d, t, os⟩ := sh
  have ty := at_.type (M := model prog w)
  have l1 := looks_findIn (M := model prog w) kin F.hg
  have l2 := looks_findIn (M := model prog w) kin F.hk
  have l3 := looks_find (M := model prog w) kin at_ found
  have isB : Looks (model prog w) hp (isInstance (.ref xa) (.type "BaseException")) true := ty.andThen (looks_subIn kin F.hs)
  have c0 : (false && onTheHeap (Value.builtin "BaseException.__getattribute__")) = false := rfl
  have c2 : (Value.builtin "BaseException.__getattribute__" == Value.builtin "object.__getattribute__") = false := by decide +kernel
  have c1 : (onTheHeap (Value.ref Da) && Value.builtin "BaseException.__getattribute__" == Value.builtin "object.__getattribute__") = false := by rw [c2]; rfl
  unfold getAttr? getAttrBy? getAttrBy
  refine wpAny_bind (wpAny_mkText (wpAny_bind (wpAny_attempt (wpAny_holding (wpAny_bind (ty.at (wpAny_bind (l1.at ?_))))))))
  show wpAny _ _ (if (onTheHeap (Value.ref Da) && Value.builtin "BaseException.__getattribute__" == Value.builtin "object.__getattribute__") = true then _ else _) _ _ _
  rw [c1, if_neg Bool.false_ne_true]
  unfold getAttrByItsOwn hookBefore
  refine wpAny_bind ?_
  rw [if_pos (show onTheHeap (Value.ref Da) = true from rfl)]
  refine l2.at ?_
  refine wpAny_bind (wpAny_attempt (wpAny_holding ?_))
  unfold callGetattribute
  rw [c0, if_neg Bool.false_ne_true]
  unfold boundAndCalled
  rw [PySem.F.excAttr_ValueError.ga.bind (.ref xa)]
  refine wpAny_bind (wpAny_pure ?_)
  show wpAny _ _ (call (.builtin "BaseException.__getattribute__") [.ref xa, .str "__class__" t]) _ _ _
  refine wpAny_call (codeAny_call_builtin PySem.F.excAttr_ValueError.ga.plain PySem.F.entry_bexc_ga ?_)
  refine @check_slot (model prog w) _ _ ⟨hp, g, d, t + 1, os⟩ "BaseException.__getattribute__" "BaseException" "__getattribute__" (.ref xa) [.str "__class__" t] [] _ (by decide +kernel) (by decide +kernel) isB (PySem.F.args_bexc_ga (.ref xa) (.str "__class__" t)) ?_
  unfold Builtin.«object.__getattribute__»
  refine wpAny_bind (wpAny_of_eq (a := ((Value.ref xa : Value), [Value.str "__class__" t])) (by first | rfl | (simp only [slotArgs]; rfl)) ?_)
  refine wpAny_bind (wpAny_pure (wpAny_bind (ty.at (wpAny_bind (l3.at ?_)))))
  show wpAny _ _ (holding [Value.builtin "object.__class__"] (call (.builtin "getset_descriptor.__get__") [.builtin "object.__class__", .ref xa, .ref Da]) >>= ret) _ _ _
  refine wpAny_bind (wpAny_holding (wpAny_call (class_get (s := ⟨hp, g, d, t + 1, os⟩) (ox := obj) (od := some own) kin at_ F.hm ?_)))
  refine wpAny_pure ?_
  show wpAny _ _ (handedOut (.ref Da)) _ _ _
  rw [handedOut_of (v := .ref Da) rfl]
  first
    | exact wpAny_pure (wpAny_pure done)
    | exact wpAny_pure done
    | exact wpAny_pure (wpAny_bind (wpAny_pure (wpAny_pure done)))
open PySem.W in
theorem kitx_exd (F : ExcC Kf Da) : KitX Kf (.ref xa) (.ref Da) (fun h => InstAt h xa obj Da (some own)) where
  ty := fun _ _ _ I => I.type
  it := fun _ _ kin _ => by
    obtain ⟨cd, hc, _⟩ := any_some F.hd
    unfold clsIn at hc
    split at hc
    · rename_i ho
      intro A' Q' E' s' k q
      unfold isType loadHead
      exact wpAny_bind (wpAny_loadPart (k _ _ (kin _ _ ho)) (wpAny_pure q))
    · cases hc
  ne := fun h tp dd its n sl kin htp => by
    obtain ⟨cd, hc, _⟩ := any_some F.hd
    refine Bool.eq_false_iff.mpr fun q => ?_
    have e : Da = tp := Value.ref.inj (beq_iff_eq.mp q)
    subst e
    unfold clsIn at hc
    split at hc
    · rename_i ho
      have z := (kin _ _ ho).symm.trans htp
      cases z
    · cases hc
  ca := fun kin I k => class_of_exc F kin I k
theorem ns1_at {h : Heap} {a : Addr} {m : Str → Option Value} (n : h.Ns1 a m) : ∃ o, h.get? a = some o := by
  obtain ⟨o, _, _, e, _⟩ := n
  exact ⟨o, e⟩
end
section
variable {X : Cx} {T : Tb} {W : WX}
theorem looks_ok {Z α : List Addr} {s : Sto} {H : Hp} (st : St T Z α H s) : ∀ {ds : List D} {vs : List V} {xs : List P}, RDs T α (pur Z α s H) ds vs → looks s ds = some xs → RTs T (pur Z α s H) H xs vs
  | [], _, _, r, e => by cases r; cases e; exact .nil
  | d :: ds, _, xs, r, e => by
    cases r with
    | cons h r =>
      unfold looks at e
      cases q1 : look s d with
      | none => rw [q1] at e; cases e
      | some x =>
        cases q2 : looks s ds with
        | none => rw [q1, q2] at e; cases e
        | some ys => rw [q1, q2] at e; cases e; exact .cons (look_ok st h q1) (looks_ok st r q2)
theorem RTs.one {G H : Hp} {x : P} {vs : List V} (h : RTs T G H [x] vs) : ∃ v, vs = [v] ∧ RT T G H x v := by
  cases h with | cons h r => cases r; exact ⟨_, rfl, h⟩
theorem RTs.two {G H : Hp} {x y : P} {vs : List V} (h : RTs T G H [x, y] vs) : ∃ v w, vs = [v, w] ∧ RT T G H x v ∧ RT T G H y w := by
  cases h with | cons h r => obtain ⟨w, rfl, q⟩ := r.one; exact ⟨_, w, rfl, h, q⟩
/-- g tells what a call by r gives -/
abbrev GF := List P → Option P
def CallOk (T : Tb) (r : List V → Hp → VK → Prop) (g : GF) : Prop := ∀ (L : List Addr) (H : Hp) (xs : List P) (vs : List V) (z : P) (Q : VK), RTs T (hide L H) H xs vs → (∀ a ∈ L, ∃ o, H a = some o) → g xs = some z →
  (∀ u H', Same H H' → RP T (hide L H') z u → Q u H') → r vs H Q
def gOr (g g' : GF) : GF := fun xs => match g xs with
  | some z => some z
  | none => g' xs
def cOr (r r' : List V → Hp → VK → Prop) : List V → Hp → VK → Prop := fun xs H Q => r xs H Q ∨ r' xs H Q
theorem callOr {f : Value} {r r' : List V → Hp → VK → Prop} (h : CallR X f r) (h' : CallR X f r') : CallR X f (cOr r r') := h.or h'
theorem CallOk.or {r r' : List V → Hp → VK → Prop} {g g' : GF} (h : CallOk T r g) (h' : CallOk T r' g') : CallOk T (cOr r r') (gOr g g') := fun L H xs vs z Q rs hL e k => by
  unfold gOr at e
  cases q : g xs with
  | some y => rw [q] at e; cases e; exact .inl (h L H xs vs _ Q rs hL q k)
  | none => rw [q] at e; exact .inr (h' L H xs vs _ Q rs hL e k)
def fnK (g : GF) (ds : List D) (s : Sto) : R D := match looks s ds with
  | some xs => match g xs with
    | some z => .ok (.p z) s
    | none => .bad
  | none => .bad
def dFn (g : GF) (fa : DA) : DE := fun env s => (fa env s).bind (fnK g)
theorem fnK_ok {r : List V → Hp → VK → Prop} {g : GF} (hg : CallOk T r g) {Z α : List Addr} {s : Sto} {H : Hp} {σ : L2.St} {ds : List D} {vs : List V} {Q : VK} (st : St T Z α H s) (rs : RDs T α (pur Z α s H) ds vs) (h : Post T (relD T) Z α s H W σ (fnK g ds s) Q) : r vs H Q := by
  unfold fnK at h
  cases q : looks s ds with
  | none => rw [q] at h; exact h.elim
  | some xs =>
    rw [q] at h
    dsimp only at h
    cases e : g xs with
    | none => rw [e] at h; exact h.elim
    | some z =>
      rw [e] at h
      exact hg (Z ++ hid α s) H xs vs z Q (looks_ok st rs q) (hid_dom st) e fun u H' k rz => Post.done' (a := D.p z) h st k (.p rz)
theorem fn_ok {r : List V → Hp → VK → Prop} {g : GF} (hg : CallOk T r g) {fa : DA} {σ : L2.St} {H : Hp} {Q : VK} (h : rd T W (dFn g fa) σ H Q) : tCB r (rdA T W fa) σ H Q := by
  obtain ⟨Z, α, env, s, st, re, h⟩ := h
  exact ⟨Z, α, env, s, st, re, (Post.split (Rel := relA T) h).mono fun vs H1 ⟨α1, ds, s1, _, g1, st1, r1, h1⟩ => fnK_ok hg st1 r1 h1⟩
theorem e_fnB {id : String} {x : Str} {e : Expr} {es : List Expr} {fa : DA} {r : List V → Hp → VK → Prop} {g : GF} {p pos : Pos} (hc : CallR X (.builtin id) r) (hG : CallOk T r g) (hg : Gl X x) (hm : X.mg x = none) (hv : bootBuiltins x = some (.builtin id)) (ha : PA X (e :: es) (rdA T W fa))
    (hn : x ≠ "__name__" := by decide) (hdb : (x == ("__debug__" : Str)) = false := by decide)
    (he : starEach (e :: es) X.env = (false, eval e X.env) :: starEach es X.env := by rfl) (hpl : (backTo pos (starEach es X.env)).any (·.1) = false := by rfl) : PE X (.Call (.Name x p) (e :: es) [] pos) (rd T W (dFn g fa)) :=
  (pe_callB hc hg hm hv ha hn hdb he hpl).imp fun _ _ _ h => fn_ok hG h
theorem e_fnT {id : String} {x : Str} {e : Expr} {es : List Expr} {fa : DA} {r : List V → Hp → VK → Prop} {g : GF} {p pos : Pos} (hc : CallR X (.type id) r) (hG : CallOk T r g) (hg : Gl X x) (hm : X.mg x = none) (hv : bootBuiltins x = some (.type id)) (ha : PA X (e :: es) (rdA T W fa))
    (hn : x ≠ "__name__" := by decide) (hdb : (x == ("__debug__" : Str)) = false := by decide)
    (he : starEach (e :: es) X.env = (false, eval e X.env) :: starEach es X.env := by rfl) (hpl : (backTo pos (starEach es X.env)).any (·.1) = false := by rfl) : PE X (.Call (.Name x p) (e :: es) [] pos) (rd T W (dFn g fa)) :=
  (pe_callTy hc hg hm hv ha hn hdb he hpl).imp fun _ _ _ h => fn_ok hG h
/-! ### a call that makes a new object -/
def CallNew (T : Tb) (r : List V → Hp → VK → Prop) (g : List P → Option O) : Prop := ∀ (G H : Hp) (xs : List P) (vs : List V) (o : O) (Q : VK), Same G H → RTs T G H xs vs → g xs = some o →
  (o.live = true → ∀ p u, H p = none → (∀ α G' , Ext G G' → RO T α G' (upd H p u) p o) → Q (.ref p) (upd H p u)) → r vs H Q
def newK (g : List P → Option O) (ds : List D) (s : Sto) : R D := match looks s ds with
  | some xs => match g xs with
    | some o => if o.live = true then .ok (.ref s.length) (s ++ [o]) else .bad
    | none => .bad
  | none => .bad
def dFnN (g : List P → Option O) (fa : DA) : DE := fun env s => (fa env s).bind (newK g)
theorem newK_ok {r : List V → Hp → VK → Prop} {g : List P → Option O} (hg : CallNew T r g) {Z α : List Addr} {s : Sto} {H : Hp} {σ : L2.St} {ds : List D} {vs : List V} {Q : VK} (st : St T Z α H s) (rs : RDs T α (pur Z α s H) ds vs) (h : Post T (relD T) Z α s H W σ (newK g ds s) Q) : r vs H Q := by
  unfold newK at h
  cases q : looks s ds with
  | none => rw [q] at h; exact h.elim
  | some xs =>
    rw [q] at h
    dsimp only at h
    cases e : g xs with
    | none => rw [e] at h; exact h.elim
    | some o =>
      rw [e] at h
      dsimp only at h
      by_cases c : o.live = true
      · rw [if_pos c] at h
        refine hg (pur Z α s H) H xs vs o Q (hide_ext _ _) (looks_ok st rs q) e fun _ p u np ro => ?_
        obtain ⟨sn, gn⟩ := st.new (o := o) (u := u) np c fun G' k => ro α G' k
        exact h (α ++ [p]) _ _ gn sn (ref_last st.len)
      · rw [if_neg c] at h; exact h.elim
theorem new_ok {r : List V → Hp → VK → Prop} {g : List P → Option O} (hg : CallNew T r g) {fa : DA} {σ : L2.St} {H : Hp} {Q : VK} (h : rd T W (dFnN g fa) σ H Q) : tCB r (rdA T W fa) σ H Q := by
  obtain ⟨Z, α, env, s, st, re, h⟩ := h
  exact ⟨Z, α, env, s, st, re, (Post.split (Rel := relA T) h).mono fun vs H1 ⟨α1, ds, s1, _, g1, st1, r1, h1⟩ => newK_ok hg st1 r1 h1⟩
theorem e_fnTN {id : String} {x : Str} {e : Expr} {es : List Expr} {fa : DA} {r : List V → Hp → VK → Prop} {g : List P → Option O} {p pos : Pos} (hc : CallR X (.type id) r) (hG : CallNew T r g) (hg : Gl X x) (hm : X.mg x = none) (hv : bootBuiltins x = some (.type id)) (ha : PA X (e :: es) (rdA T W fa))
    (hn : x ≠ "__name__" := by decide) (hdb : (x == ("__debug__" : Str)) = false := by decide)
    (he : starEach (e :: es) X.env = (false, eval e X.env) :: starEach es X.env := by rfl) (hpl : (backTo pos (starEach es X.env)).any (·.1) = false := by rfl) : PE X (.Call (.Name x p) (e :: es) [] pos) (rd T W (dFnN g fa)) :=
  (pe_callTy hc hg hm hv ha hn hdb he hpl).imp fun _ _ _ h => new_ok hG h
/-! ### the builtins -/
abbrev RAbs : List V → Hp → VK → Prop := fun xs H Q => ∃ i, xs = [.int i] ∧ Q (.int (if i < 0 then -i else i)) H
def gAbs : GF := fun xs => match xs with
  | [.int i] => some (.int (if i < 0 then -i else i))
  | _ => none
theorem ok_abs : CallOk T RAbs gAbs := fun L H xs vs z Q rs hL e k => by
  unfold gAbs at e
  split at e
  · cases e; obtain ⟨v, rfl, r⟩ := rs.one; rw [r.int]; exact ⟨_, rfl, k _ _ (sameH H) (.int _)⟩
  · cases e
abbrev RInt : List V → Hp → VK → Prop := cOr (fun xs H Q => (∃ i, xs = [.int i] ∧ Q (.int i) H) ∨ ∃ k, xs = [.bl k] ∧ Q (.int (if k then 1 else 0)) H) (fun xs H Q => ∃ a n, xs = [.str a] ∧ PySem.intText? a = some n ∧ a.length ≤ 640 ∧ Q (.int n) H)
def gInt : GF := fun xs => match xs with
  | [.int i] => some (.int i)
  | [.bl b] => some (.int (if b then 1 else 0))
  | [.str a] => if a.length ≤ 640 then (PySem.intText? a).map .int else none
  | _ => none
theorem ok_int : CallOk T RInt gInt := fun L H xs vs z Q rs hL e k => by
  unfold gInt at e
  split at e
  · cases e; obtain ⟨v, rfl, r⟩ := rs.one; rw [r.int]; exact .inl (.inl ⟨_, rfl, k _ _ (sameH H) (.int _)⟩)
  · cases e; obtain ⟨v, rfl, r⟩ := rs.one; rw [r.bl]; exact .inl (.inr ⟨_, rfl, k _ _ (sameH H) (.int _)⟩)
  · split at e
    · rename_i c
      obtain ⟨n, hn, rfl⟩ := Option.map_eq_some_iff.mp e
      obtain ⟨v, rfl, r⟩ := rs.one; rw [r.str]; exact .inr ⟨_, n, rfl, hn, c, k _ _ (sameH H) (.int _)⟩
    · cases e
  · cases e
theorem cr_int : CallR X (.type "int") RInt := callOr call_int1 call_int_str
def RLenD : List V → Hp → VK → Prop := fun xs H Q => ∃ a kvs, xs = [V.ref a] ∧ Rd H a (.dK kvs) ∧ Q (.int kvs.length) H
theorem cr_lenD : CallR X (.builtin "len") RLenD := by
  intro pins s σ H xs us Q I r h
  obtain ⟨a, kvs, rfl, ha, q⟩ := h
  obtain ⟨u, rfl, ru⟩ := vals1 r
  cases ru
  exact d_len I ha fun t s' I' => ⟨.int kvs.length, H, I', ⟨t, rfl⟩, q⟩
abbrev RLen (K : PySem.W.Frag) : List V → Hp → VK → Prop := cOr (fun xs H Q => ∃ x n, xs = [x] ∧ LenV K x H n ∧ Q (.int n) H) RLenD
theorem cr_len : CallR X (.builtin "len") (RLen X.K) := callOr call_len cr_lenD
def gLen : GF := fun xs => match xs with
  | [.lst xs] => some (.int xs.length)
  | [.tup xs] => some (.int xs.length)
  | [.str z] => if z.length ≤ 1000000 then some (.int z.length) else none
  | [.dct kvs] => some (.int kvs.length)
  | _ => none
theorem ok_len (hK : T.K = X.K) : CallOk T (RLen X.K) gLen := fun L H xs vs z Q rs hL e k => by
  rw [← hK]
  unfold gLen at e
  split at e
  · cases e; obtain ⟨v, rfl, r⟩ := rs.one
    obtain ⟨a, us, rfl, h1, h2⟩ := r.lst (hide_ext L H)
    exact .inl ⟨_, us.length, rfl, .inl ⟨us, .inl h1, rfl⟩, by rw [h2.length]; exact k _ _ (sameH H) (.int _)⟩
  · cases e; obtain ⟨v, rfl, r⟩ := rs.one
    obtain ⟨a, us, rfl, h1, h2⟩ := r.tup (hide_ext L H)
    exact .inl ⟨_, us.length, rfl, .inr ⟨us, h1, rfl⟩, by rw [h2.length]; exact k _ _ (sameH H) (.int _)⟩
  · split at e
    · rename_i c; cases e; obtain ⟨v, rfl, r⟩ := rs.one; rw [r.str]
      exact .inl ⟨_, _, rfl, ⟨lineM c, rfl⟩, k _ _ (sameH H) (.int _)⟩
    · cases e
  · cases e; obtain ⟨v, rfl, r⟩ := rs.one
    obtain ⟨a, us, rfl, h1, h2, h3⟩ := r.dct (hide_ext L H)
    have e2 := congrArg List.length h2
    simp only [List.length_map] at e2
    exact .inr ⟨a, us, rfl, h1, by rw [e2]; exact k _ _ (sameH H) (.int _)⟩
  · cases e
abbrev RMax2 : List V → Hp → VK → Prop := fun xs H Q => ∃ i j, xs = [.int i, .int j] ∧ Q (.int (if j > i then j else i)) H
def gMax2 : GF := fun xs => match xs with
  | [.int i, .int j] => some (.int (if j > i then j else i))
  | _ => none
theorem ok_max2 : CallOk T RMax2 gMax2 := fun L H xs vs z Q rs hL e k => by
  unfold gMax2 at e
  split at e
  · cases e; obtain ⟨v, w, rfl, r1, r2⟩ := rs.two; rw [r1.int, r2.int]; exact ⟨_, _, rfl, k _ _ (sameH H) (.int _)⟩
  · cases e
abbrev RMin2 : List V → Hp → VK → Prop := fun xs H Q => ∃ i j, xs = [.int i, .int j] ∧ Q (.int (if j < i then j else i)) H
def gMin2 : GF := fun xs => match xs with
  | [.int i, .int j] => some (.int (if j < i then j else i))
  | _ => none
theorem ok_min2 : CallOk T RMin2 gMin2 := fun L H xs vs z Q rs hL e k => by
  unfold gMin2 at e
  split at e
  · cases e; obtain ⟨v, w, rfl, r1, r2⟩ := rs.two; rw [r1.int, r2.int]; exact ⟨_, _, rfl, k _ _ (sameH H) (.int _)⟩
  · cases e
abbrev RStr : List V → Hp → VK → Prop := cOr (fun xs H Q => ∃ i, xs = [.int i] ∧ i.natAbs.log2 < 1920 ∧ Q (.str (toString i)) H) (fun xs H Q => ∃ a, xs = [.str a] ∧ Q (.str a) H)
theorem cr_str : CallR X (.type "str") RStr := callOr call_str_int SkE.call_str_str
def gStr : GF := fun xs => match xs with
  | [.int i] => if i.natAbs.log2 < 1920 then some (.str (toString i)) else none
  | [.str a] => some (.str a)
  | _ => none
theorem ok_str : CallOk T RStr gStr := fun L H xs vs z Q rs hL e k => by
  unfold gStr at e
  split at e
  · split at e
    · rename_i c; cases e; obtain ⟨v, rfl, r⟩ := rs.one; rw [r.int]; exact .inl ⟨_, rfl, c, k _ _ (sameH H) (.str _)⟩
    · cases e
  · cases e; obtain ⟨v, rfl, r⟩ := rs.one; rw [r.str]; exact .inr ⟨_, rfl, k _ _ (sameH H) (.str _)⟩
  · cases e
def gRepr : GF := fun xs => match xs with
  | [x] => (reprP x).map .str
  | _ => none
theorem ok_repr : CallOk T (rRepr T) gRepr := fun L H xs vs z Q rs hL e k => by
  unfold gRepr at e
  split at e
  · obtain ⟨t, ht, rfl⟩ := Option.map_eq_some_iff.mp e
    obtain ⟨v, rfl, r⟩ := rs.one
    exact ⟨_, v, t, rfl, r.full (hide_ext L H), ht, k _ _ (sameH H) (.str _)⟩
  · cases e
/-! all, any: a list of bools -/
def blAll : List P → Option (List Bool)
  | [] => some []
  | .bl b :: r => (blAll r).map (b :: ·)
  | _ => none
theorem blAll_ok {G : Hp} : ∀ {xs : List P} {vs : List V} {bs : List Bool}, RPs T G xs vs → blAll xs = some bs → vs = bs.map V.bl
  | [], _, _, h, e => by cases h; cases e; rfl
  | .bl b :: xs, _, bs, h, e => by
    cases h with
    | cons h r =>
      have e' : (blAll xs).map (b :: ·) = some bs := e
      obtain ⟨cs, hc, rfl⟩ := Option.map_eq_some_iff.mp e'
      cases h
      rw [blAll_ok r hc]; rfl
  | .non :: _, _, _, _, e => by cases e
  | .int _ :: _, _, _, _, e => by cases e
  | .str _ :: _, _, _, _, e => by cases e
  | .ty _ :: _, _, _, _, e => by cases e
  | .glb _ :: _, _, _, _, e => by cases e
  | .tup _ :: _, _, _, _, e => by cases e
  | .lst _ :: _, _, _, _, e => by cases e
  | .dct _ :: _, _, _, _, e => by cases e
  | .dcT _ :: _, _, _, _, e => by cases e
  | .obj _ _ :: _, _, _, _, e => by cases e
  | .slt _ _ :: _, _, _, _, e => by cases e
  | .exc _ _ :: _, _, _, _, e => by cases e
def gAll : GF := fun xs => match xs with
  | [.lst xs] => (blAll xs).map fun bs => .bl (bs.all id)
  | _ => none
def gAny : GF := fun xs => match xs with
  | [.lst xs] => (blAll xs).map fun bs => .bl (bs.any id)
  | _ => none
theorem ok_all (hK : T.K = X.K) : CallOk T (rAll X.K) gAll := fun L H xs vs z Q rs hL e k => by
  rw [← hK]
  unfold gAll at e
  split at e
  · obtain ⟨bs, hb, rfl⟩ := Option.map_eq_some_iff.mp e
    obtain ⟨v, rfl, r⟩ := rs.one
    obtain ⟨a, us, rfl, h1, h2⟩ := r.lst (hide_ext L H)
    have := blAll_ok h2 hb
    subst this
    exact ⟨a, bs, rfl, .inl h1, k _ _ (sameH H) (.bl _)⟩
  · cases e
theorem ok_any (hK : T.K = X.K) : CallOk T (rAny X.K) gAny := fun L H xs vs z Q rs hL e k => by
  rw [← hK]
  unfold gAny at e
  split at e
  · obtain ⟨bs, hb, rfl⟩ := Option.map_eq_some_iff.mp e
    obtain ⟨v, rfl, r⟩ := rs.one
    obtain ⟨a, us, rfl, h1, h2⟩ := r.lst (hide_ext L H)
    have := blAll_ok h2 hb
    subst this
    exact ⟨a, bs, rfl, .inl h1, k _ _ (sameH H) (.bl _)⟩
  · cases e
/-! list(xs), tuple(xs) -/
abbrev RListS (K : PySem.W.Frag) : List V → Hp → VK → Prop := fun xs H Q => ∃ p ys, xs = [.ref p] ∧ (SqL K H p ys ∨ SqT K H p ys) ∧ ∀ l, H l = none → Q (.ref l) (upd H l (.lst ys))
def gListN : List P → Option O := fun xs => match xs with
  | [.lst xs] => some (.lst xs)
  | [.tup xs] => some (.lst xs)
  | _ => none
theorem ok_listN (hK : T.K = X.K) : CallNew T (RListS X.K) gListN := fun G H xs vs o Q k rs e q => by
  rw [← hK]
  unfold gListN at e
  split at e
  · cases e; obtain ⟨v, rfl, r⟩ := rs.one
    obtain ⟨a, us, rfl, h1, h2⟩ := r.lst k
    exact ⟨a, us, rfl, .inl (.inl h1), fun l hl => q rfl l _ hl fun _ G' kk => ⟨us, upd_same, h2.ext kk⟩⟩
  · cases e; obtain ⟨v, rfl, r⟩ := rs.one
    obtain ⟨a, us, rfl, h1, h2⟩ := r.tup k
    exact ⟨a, us, rfl, .inr h1, fun l hl => q rfl l _ hl fun _ G' kk => ⟨us, upd_same, h2.ext kk⟩⟩
  · cases e
abbrev RTupS (K : PySem.W.Frag) : List V → Hp → VK → Prop := fun xs H Q => ∃ p ys, xs = [.ref p] ∧ ((SqL K H p ys ∧ ∀ l, H l = none → Q (.ref l) (upd H l (.tup ys))) ∨ (SqT K H p ys ∧ Q (.ref p) H))
def gTupF : GF := fun xs => match xs with
  | [.lst xs] => some (.tup xs)
  | [.tup xs] => some (.tup xs)
  | _ => none
theorem ok_tup (hK : T.K = X.K) : CallOk T (RTupS X.K) gTupF := fun L H xs vs z Q rs hL e k => by
  rw [← hK]
  unfold gTupF at e
  split at e
  · cases e; obtain ⟨v, rfl, r⟩ := rs.one
    obtain ⟨a, us, rfl, h1, h2⟩ := r.lst (hide_ext L H)
    exact ⟨a, us, rfl, .inl ⟨.inl h1, fun p np => k _ _ (same_new np) (new_tup hL np h2)⟩⟩
  · cases e; obtain ⟨v, rfl, r⟩ := rs.one
    have hx := r.tupG
    obtain ⟨a, us, rfl, h1, h2⟩ := r.tup (hide_ext L H)
    exact ⟨a, us, rfl, .inr ⟨h1, k _ _ (sameH H) hx⟩⟩
  · cases e
/-! list(range(n)) -/
def dRgL (f : DE) : DE := fun env s => (f env s).bind fun d s => match d with
  | .p (.int n) => if -(2 ^ 62) ≤ n ∧ n ≤ 16777216 then .ok (.ref s.length) (s ++ [.lst (rng 0 n.toNat)]) else .bad
  | _ => .bad
theorem rng_rel {G : Hp} (n : Int) : RPs T G (rng 0 n.toNat) (rgV 0 n) := by
  unfold rng rgV
  rw [Int.sub_zero]
  have : ∀ l : List Nat, RPs T G (l.map fun (i : Nat) => P.int (0 + (i : Int))) (l.map fun (i : Nat) => V.int (0 + (i : Int))) := fun l => by
    induction l with
    | nil => exact .nil
    | cons a l ih => exact .cons (.int _) ih
  exact this _
theorem e_rgL {a : Expr} {f : DE} {p p2 pos pos2 : Pos} (hc : X.calm = true) (hg : Gl X "list") (hm : X.mg "list" = none) (hg2 : Gl X "range") (hm2 : X.mg "range" = none) (ha : PE X a (rd T W f))
    (na : starEach [.Call (.Name "range" p2) [a] [] pos2] X.env = (false, eval (.Call (.Name "range" p2) [a] [] pos2) X.env) :: starEach [] X.env := by rfl) (nb : starEach [a] X.env = (false, eval a X.env) :: starEach [] X.env := by rfl) :
    PE X (.Call (.Name "list" p) [.Call (.Name "range" p2) [a] [] pos2] [] pos) (rd T W (dRgL f)) :=
  (pe_listRg hc hg hm (prg_1 hg2 hm2 ha nb) na).imp fun σ H Q ⟨Z, α, env, s, st, re, h⟩ =>
    ⟨Z, α, env, s, st, re, (Post.split (Rel := relD T) h).mono fun v H1 ⟨α1, d, s1, _, g1, st1, r1, h1⟩ => by
      split at h1
      · rename_i n _
        cases r1 with
        | p r =>
          cases r
          split at h1
          · rename_i c
            refine ⟨n, rfl, ⟨by omega, by omega, c.1, by omega, by omega⟩, fun p np => ?_⟩
            obtain ⟨sn, gn⟩ := st1.new (o := .lst (rng 0 n.toNat)) (u := .lst (rgV 0 n)) np rfl fun G' k => ⟨_, upd_same, rng_rel n⟩
            exact h1 (α1 ++ [p]) _ _ gn sn (ref_last st1.len)
          · exact h1.elim
      · exact h1.elim⟩
/-! ### isinstance -/
inductive Tg where
  | b (n : String) | o (i : Nat)
  deriving DecidableEq
def vTg (T : Tb) : Tg → Value
  | .b n => .type n
  | .o i => .ref (T.ad i)
def P.tg : P → Option Tg
  | .non => some (.b "NoneType")
  | .bl _ => some (.b "bool")
  | .int _ => some (.b "int")
  | .str _ => some (.b "str")
  | .tup _ => some (.b "tuple")
  | .lst _ => some (.b "list")
  | .dct _ => some (.b "dict")
  | .obj c _ => some (.o c)
  | .exc c _ => some (.o c)
  | _ => none
def P.cl : P → Option Tg
  | .ty n => some (.b n)
  | .glb i => some (.o i)
  | _ => none
/-- the classes of which there are objects: what isinstance asks -/
structure TyF (T : Tb) (K : PySem.W.Frag) (ob ex : List Nat) : Prop where
  ob : ∀ i ∈ ob, Cls K (T.ad i) ∧ PySem.W.findIn K (.ref (T.ad i)) "__class__" = some (some (.builtin "object.__class__")) ∧ PySem.W.specialIn K (.builtin "object.__class__") "__get__" = some (some (.builtin "getset_descriptor.__get__")) ∧
    PySem.W.takesIn K (.builtin "object.__class__") = some true ∧ PySem.W.mroIn K (T.ad i) (.type "object") = some true
  ex : ∀ i ∈ ex, ExcC K (T.ad i)
/-- what the rule asks -/
def rIsA (K : PySem.W.Frag) (X : Cx) : List V → Hp → VK → Prop := fun xs H Q => ∃ (x c : V) (t u : Value) (b : Bool), xs = [x, c] ∧ (∀ w, RelV c w → w = u) ∧ PySem.W.kitOne K t u = some b ∧
  (∀ pins σ s w, Inv X pins σ H s → RelV x w → ∃ P : Heap → Prop, PySem.W.KitX K w t P ∧ P s.heap ∧ w ≠ .builtin "__main__.__loader__#opaque") ∧ Q (.bl b) H
theorem cr_isA : CallR X (.builtin "isinstance") (rIsA X.K X) := by
  intro pins s σ H xs us Q I r h
  obtain ⟨x, c, t, u, b, rfl, k, e, ty, q⟩ := h
  obtain ⟨u1, u2, rfl, r1, r2⟩ := vals2 r
  have e2 := k _ r2
  subst e2
  obtain ⟨P, kx, p, hx⟩ := ty pins σ s u1 I r1
  exact PySem.W.kia_one kx I.kIn p e hx fun tk => ⟨.bl b, H, I.tok tk, rfl, q⟩
theorem kit_P (hK : T.K = X.K) {ob ex : List Nat} (F : TyF T X.K ob ex) {H : Hp} {x : P} {v : V} {t : Tg} (r : RP T H x v) (ht : x.tg = some t) (h1 : ∀ c fs, x = .obj c fs → c ∈ ob) (h2 : ∀ c y, x = .exc c y → c ∈ ex)
    {pins : List (Addr × Obj)} {σ : L2.St} {s : Shared} {w : Value} (I : Inv X pins σ H s) (rw' : RelV v w) : ∃ P : Heap → Prop, PySem.W.KitX X.K w (vTg T t) P ∧ P s.heap ∧ w ≠ .builtin "__main__.__loader__#opaque" := by
  cases r with
  | non => cases ht; exact kit_of I rw' (.base .non)
  | bl b => cases ht; exact kit_of I rw' (.base (.bl b))
  | int b => cases ht; exact kit_of I rw' (.base (.int b))
  | str b => cases ht; exact kit_of I rw' (.base (.str b))
  | ty _ => cases ht
  | glb _ => cases ht
  | @tup xs a vs h rs =>
    cases ht
    rw [hK] at h
    rcases h with (h | ⟨o, h⟩) | ⟨o, its, n, k1, k2, _⟩
    · exact kit_of I rw' (.base (.tup h))
    · exact kit_of I rw' (.fTuple h)
    · exact kit_of I rw' (.kTuple k1 k2)
  | @lst xs a vs h rs =>
    cases ht
    rcases h with h | ⟨o, h⟩
    · exact kit_of I rw' (.base (.lst h))
    · exact kit_of I rw' (.base (.frz h))
  | @dct xs a vs h e rs =>
    cases ht
    rcases h with h | ⟨o, h⟩
    · exact kit_of I rw' (.base (.dK h))
    · exact kit_of I rw' (.fDict h)
  | dcT _ _ _ => cases ht
  | @obj c fs a dx us h e rs =>
    cases ht
    obtain ⟨q1, q2, q3, q4, q5⟩ := F.ob c (h1 c fs rfl)
    exact kit_of I rw' (.base (.ins h q1 q2 q3 q4 q5))
  | slt _ _ _ => cases ht
  | @exc c x a dx v h hd rx =>
    cases ht
    cases (show w = Value.ref a from rw')
    have C := F.ex c (h2 c x rfl)
    obtain ⟨oe, vs, e1, e2, e3, e4⟩ := (show ObjOk X.prog X.w H s.heap a (ExV a (T.ad c) dx) from I.hok a _ h).1
    obtain ⟨mA, hn, _⟩ := (show ObjOk X.prog X.w H s.heap dx (.xd [("value", v)]) from I.hok dx _ hd)
    obtain ⟨oD, eD⟩ := ns1_at hn
    have J : PySem.W.InstAt s.heap a oe (T.ad c) (some oD) := by
      obtain ⟨oc, od, oda, osl⟩ := oe
      dsimp only at e2 e3 e4
      subst e2 e3 e4
      exact ⟨e1, rfl, rfl, eD⟩
    exact ⟨_, kitx_exd C, J, fun z => nomatch z⟩
def kno (ob ex : List Nat) : P → Bool
  | .obj i _ => decide (i ∈ ob)
  | .exc i _ => decide (i ∈ ex)
  | _ => true
def isiP (J : Tg → Tg → Option Bool) (ob ex : List Nat) (x c : P) : Option Bool := match x.tg, c.cl with
  | some t, some u => if kno ob ex x = true then J t u else none
  | _, _ => none
def gIsi (J : Tg → Tg → Option Bool) (ob ex : List Nat) : GF := fun xs => match xs with
  | [x, c] => (isiP J ob ex x c).map .bl
  | _ => none
theorem cl_ok {G : Hp} {x : P} {v : V} {t : Tg} (r : RP T G x v) (e : x.cl = some t) : ∀ w, RelV v w → w = vTg T t := fun w h => by
  cases x <;> first | (cases e; done) | (cases e; cases r; exact h)
theorem ok_isi (hK : T.K = X.K) {J : Tg → Tg → Option Bool} {ob ex : List Nat} (F : TyF T X.K ob ex) (hJ : ∀ t u b, J t u = some b → PySem.W.kitOne X.K (vTg T t) (vTg T u) = some b) : CallOk T (rIsA X.K X) (gIsi J ob ex) := fun L H xs vs z Q rs hL e k => by
  unfold gIsi at e
  split at e
  · rename_i x c
    obtain ⟨b, hb, rfl⟩ := Option.map_eq_some_iff.mp e
    obtain ⟨v, w, rfl, r1, r2⟩ := rs.two
    unfold isiP at hb
    split at hb
    · rename_i t u q1 q2
      by_cases cond : kno ob ex x = true
      · rw [if_pos cond] at hb
        refine ⟨v, w, vTg T t, vTg T u, b, rfl, cl_ok (r2.full (hide_ext L H)) q2, hJ t u b hb, fun pins σ s y I ry => ?_, k _ _ (sameH H) (.bl _)⟩
        exact kit_P hK F (r1.full (hide_ext L H)) q1 (fun i fs e => by subst e; exact of_decide_eq_true cond) (fun i fs e => by subst e; exact of_decide_eq_true cond) I ry
      · rw [if_neg cond] at hb; cases hb
    · cases hb
  · cases e
end
end Ev

set_option Elab.async false
set_option linter.all false
set_option maxRecDepth 100000
set_option maxHeartbeats 2000000
/-! Ev12: the own exceptions: RingError(value) and the classes below it. -/
namespace Ev
open PySem PySem.Spec PyProof.Rows L2
abbrev riBody : List Stmt := [
  .Expr (.Call (.Attribute (.Call (.Name "super" ⟨5, 8, 5, 13⟩) [] [] ⟨5, 8, 5, 15⟩) "__init__" ⟨5, 8, 5, 24⟩) [.Name "value" ⟨5, 25, 5, 30⟩] [] ⟨5, 8, 5, 31⟩) ⟨5, 8, 5, 31⟩,
  .Assign [.Attribute (.Name "self" ⟨6, 8, 6, 12⟩) "value" ⟨6, 8, 6, 18⟩] (.Name "value" ⟨6, 21, 6, 26⟩) ⟨6, 8, 6, 26⟩]
abbrev riArgs : Arguments := { posonlyargs := [], args := [{ arg := "self", annotation := none, pos := ⟨4, 17, 4, 21⟩ }, { arg := "value", annotation := none, pos := ⟨4, 23, 4, 28⟩ }], vararg := none, kwonlyargs := [], kw_defaults := [], kwarg := none, defaults := [] }
abbrev riScope : Scope := { kind := .function, names := [("self", .local), ("value", .local), ("__class__", .free), ("super", .globalImplicit)], isGenerator := false, isCoroutine := false, more := [] }
abbrev riFn (kV doc pm : Value) (an : Option Addr) (cda : Addr) (ct : Value) (cc : Addr) : FuncData := PySem.W.ksFn "__init__" "RingError.__init__" riArgs riBody riScope .none kV doc pm an (.ref cda) ct cc
/-- what the written part says of RingError and its __init__ -/
structure RingF (P : Program) (K : PySem.W.Frag) (mg : Str → Option Value) (D fI : Addr) : Prop where
  ex : ∃ (oc kV doc pm ct : Value) (od an : Option Addr) (osl : Array (Option Value)) (cda cc : Addr), K.lookup fI = some ⟨oc, od, .func (riFn kV doc pm an cda ct cc), osl⟩ ∧ PySem.W.codeIn K (.ref cda) "RingError.__init__" = true ∧
    (∃ (cl : Value) (cld : Option Addr) (csl : Array (Option Value)), K.lookup cc = some ⟨cl, cld, .cell (some (.ref D)), csl⟩) ∧
    ∃ (ccl : Value) (cdd : Option Addr) (ccs : Array (Option Value)) (vs : Array Value) (file : Str) (tf : Tok), K.lookup cda = some ⟨ccl, cdd, .fields vs, ccs⟩ ∧ vs[2]? = some (.str file tf) ∧ ((P.main.file : Str) == file) = true
  top : (P.main.scope.names.lookup ("super" : Str)).isSome = false
  cls : ∃ cd, PySem.W.clsIn K D = some cd
  sup : mg "super" = none
  opq : PySem.W.nsIn K cStatics "thirdparty.any" = some none
  fn : PySem.W.typeIn K (.ref fI) = some (.type "function")
/-- what it says of such a class C -/
structure RingC (K : PySem.W.Frag) (D fI C : Addr) : Prop where
  oex : OexC K C
  ini : PySem.W.findIn K (.ref C) "__init__" = some (some (.ref fI))
  sup : PySem.W.ks_superIn K C D "__init__" = some (some (.builtin "ValueError.__init__"))
  sub : PySem.W.subIn K (.ref C) (.type "ValueError") = some true
  mro : PySem.W.mroIn K C (.ref D) = some true
  noV : PySem.W.findIn K (.ref C) "value" = some none
section
open PySem.W PySem.Calls
variable {P : Program} {w : World} {K : Frag} {mg mb : Str → Option Value} {D fI C : Addr} {A : Around} {E : Value → Shared → Prop} {R : Result → Shared → Prop} {hp : Heap} {g : Array GenState} {d : Drawn} {t : Nat} {os : OsState} {e t0 : Addr} {u : Value}
theorem bind_init (kV doc pm : Value) (an : Option Addr) (cda : Addr) (ct : Value) (cc : Addr) (a b : Value) : bindArgs (riFn kV doc pm an cda ct cc) ⟨[a, b], []⟩ = pure [(("self" : Str), a), (("value" : Str), b)] := rfl
/-- the method-wrapper of ValueError.__init__ is called -/
theorem call_mw {so : Addr} {rest : List Value} {Q : Value → Shared → Prop} (O : OexC K C) (kin : K.In hp) (hu : hp.get? so = some (kxs_mw "ValueError.__init__" e)) (he : hp.get? e = some (HandSPX.excO C t0)) (hz : rest.length ≤ sizeLine)
    (hq : ∀ h' t1, (∀ b o, b ≠ e → hp.get? b = some o → h'.get? b = some o) → h'.get? e = some (HandSPX.excO C t1) → Q .none ⟨h', g, d, t, os⟩) : wpAny (model P w) A (call (.ref so) rest) Q E ⟨hp, g, d, t, os⟩ := by
  obtain ⟨nm, q, N, bs, bm, sn, sub, ab, col, dd, k0, k1, k2, k3, k5, hC, hbm⟩ := O.cls
  refine wpAny_call (codeAny_of_tree ?_)
  show wpAny _ A.in1 (callAny (.ref so) ⟨rest, []⟩) _ _ _
  simp only [callAny]
  refine wpAny_bind (wpAny_load hu ?_)
  simp only [kxs_mw, show (Value.type "method-wrapper" == Value.type "method" || Value.type "method-wrapper" == Value.type "builtin_function_or_method" || Value.type "method-wrapper" == Value.type "method-wrapper") = true by decide, if_true]
  refine KFB.if_so (by decide) ?_
  refine wpAny_bind (check_bound_init F.excBase_ValueError.toExcCallFacts (kin _ _ hC) he rfl ?_)
  refine wpAny_bind (wpAny_pure (wpAny_pure ?_))
  refine ⟨plainId_quiet F.excBase_ValueError.init.plain _, codeAny_builtin F.excBase_ValueError.initEntry ?_⟩
  rw [Around.under_plainId F.excBase_ValueError.init.plain _]
  exact exc_init_tree (cls := .ref C) (t0 := t0) (dv := none) (c2 := .none) (c3 := .none) (b4 := .bool false) he hz fun h' k e' _ => hq h' _ k e'
theorem ring_init (RF : RingF P K mg D fI) (RC : RingC K D fI C) (hroom : A.depth < recursionLimit) (kin : K.In hp) (G : hp.Ns mainGlobals mg) (B : hp.Ns builtinsNs mb) (hsb : mb "super" = some (.type "super")) (nol : hp.NoLimit) (he : hp.get? e = some (HandSPX.excO C t0)) (hK : ∀ b o, K.lookup b = some o → b ≠ e)
    (hq : ∀ h' tk dx t1, (∀ b o, b ≠ e → hp.get? b = some o → h'.get? b = some o) → hp.get? dx = none → dx ≠ e → h'.get? e = some ({ cls := .ref C, dict := some dx, data := .fields #[.ref t1, .none, .none, .none, .bool false, .none] } : Obj) →
      h'.Ns1 dx (fun y => if y = "value" then some u else none) → R (.ok (.ret .none)) ⟨h', g, d, tk, os⟩) :
    codeAny (model P w) A (.call (.ref fI) ⟨[.ref e, u], []⟩) R ⟨hp, g, d, t, os⟩ := by
  obtain ⟨oc, kV, doc, pm, ct, od, an, osl, cda, cc, hf, hcode, ⟨cl, cld, csl, hcell⟩, ccl, cdd, ccs, vs, file, tf, hcda, hvs, hfile⟩ := RF.ex
  obtain ⟨cdD, hD⟩ := RF.cls
  obtain ⟨nm, q, N, bs, bm, sn, sub, ab, col, dd, k0, k1, k2, k3, k5, hC, hbm⟩ := RC.oex.cls
  have hcl : clsIn K C = some { name := nm, bases := bs, mro := .ref C :: bm, ns := N, qualname := q, hasDict := true, slotNames := sn, subclasses := sub, abstract := ab, collection := col, hasDel := false } := by unfold clsIn; rw [hC] <;> rfl
  refine ks_codeAny_call_defAt (binds := [(("self" : Str), .ref e), (("value" : Str), u)]) hroom (kin _ _ hf) rfl nol (codeRec_of kin hcode) rfl (.of_eq (bind_init kV doc pm an cda ct cc (.ref e) u)) (show ∀ x ∈ riScope.names, x.2 ≠ .cell by decide) (by intro x hx; simp at hx; rcases hx with rfl | rfl <;> rfl) (fun h₀ hns k => ?_) rfl rfl rfl
  have he0 := k _ _ he
  obtain ⟨oD, hD1, hD2⟩ : ∃ oD, h₀.get? D = some oD ∧ oD.data = .cls cdD := by
    unfold clsIn at hD
    split at hD
    · rename_i ho
      cases hD
      exact ⟨_, k _ _ (kin _ _ ho), rfl⟩
    · cases hD
  have kin0 : K.In h₀ := fun b o z => k b o (kin b o z)
  have I0 : InstAt h₀ e (HandSPX.excO C t0) C none := ⟨he0, rfl, rfl, trivial⟩
  refine ks_wpAt_execs_cons (ks_wpAt_Expr_any (ks_wpAt_MethodCall ?_))
  refine ks_wpAt_super_base (ar := { arg := "self", annotation := none, pos := ⟨4, 17, 4, 21⟩ }) rfl rfl rfl rfl (kin0 _ _ hf) rfl rfl rfl (kin0 _ _ hcda) rfl hvs hfile RF.top ?_
  refine ks_loadName_global rfl rfl (loadGlobal_builtin (G.keeps k) RF.sup (B.keeps k) hsb ⟨rfl, ?_⟩)
  refine wpAny_loadName_free rfl rfl rfl ⟨_, kin0 _ _ hcell, rfl⟩ ?_
  refine wpAny_loadName_local rfl rfl hns (by rfl) ?_
  refine ks_wpAny_isType_cls hD1 hD2 ⟨rfl, ?_⟩
  refine ks_wpAny_call_super hD1 hD2 he0 rfl (fun c z => nomatch z) (looks_mroIn kin0 RC.mro) (fun h1 e1 k1 => ?_)
  have kin1 : K.In h1 := fun b o z => k1 b o (kin0 b o z)
  have he1 := k1 _ _ he0
  have I1 : InstAt h1 e (HandSPX.excO C t0) C none := ⟨he1, rfl, rfl, trivial⟩
  have sup := RC.sup
  unfold ks_superIn at sup
  rw [hcl] at sup
  refine kxs_getMethod kxs_ValueError e1 (looks_opaque kin1 RF.opq) (l₀ := .ref C :: bm) (fun A Q E s k q => wpAny_bind ((looks_clsIn kin1 hcl) A _ E s k (wpAny_pure q))) rfl kin1 sup (I1.type.andThen (looks_subIn kin1 RC.sub)) (ks_ne kin1 I1 hcl) rfl ?_
  have hmw : (h1.push (kxs_mw "ValueError.__init__" e)).get? h1.objs.size = some (kxs_mw "ValueError.__init__" e) := Heap.get?_push_at rfl rfl
  have k2 : ∀ b o, h1.get? b = some o → (h1.push (kxs_mw "ValueError.__init__" e)).get? b = some o := fun b o z => Heap.get?_push_of_some _ z
  have ns2 : (h1.push (kxs_mw "ValueError.__init__" e)).Ns hp.objs.size (fun x => ([("self", .ref e), ("value", u)] : List (Str × Value)).reverse.lookup x) := hns.keeps fun b o z => k2 b o (k1 b o z)
  refine kxs_callWith (i := "ValueError.__init__") (x := e) rfl (evalArgs_plain (spliced_cons (wpAny_Name (wpAny_loadName_local rfl rfl ns2 (by rfl) ?_) (by decide))))
  refine spliced_nil ⟨hmw, ?_⟩
  refine call_mw RC.oex (fun b o z => k2 b o (kin1 b o z)) hmw (k2 _ _ he1) (by show 1 ≤ sizeLine; rw [sizeLine_eq]; omega) (fun h3 t1 k3 e3 => ?_)
  have k03 : ∀ b o, b ≠ e → h₀.get? b = some o → h3.get? b = some o := fun b o n z => k3 b o n (k2 b o (k1 b o z))
  have hes : hp.objs.size ≠ e := Nat.ne_of_gt (Heap.lt_size he)
  have kin3 : K.In h3 := fun b o z => k03 b o (hK b o z) (kin0 b o z)
  have ns3 : h3.Ns hp.objs.size (fun x => ([(("self" : Str), .ref e), (("value" : Str), u)] : List (Str × Value)).reverse.lookup x) := by
    obtain ⟨oL, es, ep, eL, r⟩ := ns2
    exact ⟨oL, es, ep, k3 _ _ hes eL, r⟩
  refine wpAt_of_wpAny ?_
  refine wpAny_execs_cons (plainObj_wpAny_Assign_Attribute ?_)
  refine wpAny_Name (wpAny_loadName_local rfl rfl ns3 (by rfl) ?_) (by decide)
  refine wpAny_Name (wpAny_loadName_local rfl rfl ns3 (by rfl) ?_) (by decide)
  refine set_plain kin3 (ox := HandSPX.excO C t1) (od := none) ⟨e3, rfl, rfl, trivial⟩ RC.oex.sa ?_
  refine HandSPX.exc_osa kin3 e3 hcl (show HandSPX.refsVE (.ref C :: bm) = true from hbm) rfl RC.noV (fun h4 tk4 dx k4 dn dne ex4 n4 => ?_)
  refine wpAny_execs_nil ?_
  have k30 : ∀ b o, b ≠ e → hp.get? b = some o → h3.get? b = some o := fun b o n z => k03 b o n (k b o z)
  have dlt : hp.get? dx = none := by
    cases z : hp.get? dx with
    | none => rfl
    | some o =>
      have := Heap.lt_size (k30 dx o dne z)
      exact absurd this (Nat.not_lt.mpr dn)
  exact hq h4 tk4 dx t1 (fun b o n z => k4 b o n (k30 b o n z)) dlt dne ex4 n4
end
/-! ### C(value) -/
section
variable {X : Cx} {T : Tb} {W : WX} {pins : List (Addr × Obj)} {σ : L2.St} {H : Hp} {s : Shared}
theorem obj_get {P : Program} {w : World} {H : Hp} {h : Heap} {a : Addr} : ∀ {o : HO}, ObjOk P w H h a o → ∃ u, h.get? a = some u
  | .lst _, ⟨_, _, _, _, e⟩ => ⟨_, e⟩
  | .tup _, ⟨_, _, _, ⟨o, e, _⟩⟩ => ⟨o, e⟩
  | .dK _, ⟨_, _, _, _, ⟨o, _, _, e, _⟩⟩ => ⟨o, e⟩
  | .dT _, ⟨_, _, _, _, ⟨o, _, _, e, _⟩⟩ => ⟨o, e⟩
  | .set _ _, ⟨o, _, _, _, e, _⟩ => ⟨o, e⟩
  | .ins _ _ _, ⟨_, _, _, e, _⟩ => ⟨_, e⟩
  | .own _, e => e
  | .xd _, ⟨_, ⟨o, _, _, e, _⟩, _⟩ => ⟨o, e⟩
  | .rng _ _, ⟨_, _, _, e⟩ => ⟨_, e⟩
  | .frz o _, ⟨e, _⟩ => ⟨o, e⟩
  | .tbl _, e => ⟨_, e⟩
  | .met _ _, e => ⟨_, e⟩
  | .ext _, ⟨_, e, _⟩ => e
theorem exc_un {hp h' : Heap} {e dx : Addr} {o1 o2 : HO} (hok : HOk X.prog X.w H hp) (k : ∀ b o, hp.get? b = some o → h'.get? b = some o) (ne : hp.get? e = none) (nd : hp.get? dx = none) (He : H e = none) (Hd : H dx = none) : Un X.fs [] H (upd (upd H dx o1) e o2) hp h' where
  keep := fun b o q _ _ _ => k b o q
  slot := fun b o q _ _ _ => ⟨o.slots, k b o q⟩
  free := fun b o q n _ => by
    rw [upd_ne (fun z => by rw [z, ne] at q; cases q), upd_ne (fun z => by rw [z, nd] at q; cases q)]; exact n
  there := fun b o q _ => ⟨o, k b o q⟩
  tups := fun b xs q => by rw [upd_ne (ne_of_none q He), upd_ne (ne_of_none q Hd)]; exact q
  frzs := fun b o v q => by rw [upd_ne (ne_of_none q He), upd_ne (ne_of_none q Hd)]; exact q
  tbls := fun b ps q => ⟨#[], by rw [upd_ne (ne_of_none q He), upd_ne (ne_of_none q Hd), q]; simp⟩
def rRing (T : Tb) (cs : List Nat) : List V → Hp → VK → Prop := fun vs H Q => False
/-- C(e) of a class below RingError -/
theorem run_ring {D fI C : Addr} {u : Value} {v : V} {Q : VK} (RF : RingF X.prog X.K X.mg D fI) (RC : RingC X.K D fI C) (hr : RmG 1 X.A) (I : Inv X pins σ H s) (rv : RelV v u)
    (h : ∀ e dx, H e = none → H dx = none → dx ≠ e → Q (.ref e) (upd (upd H dx (.xd [("value", v)])) e (ExV e C dx))) : wpAny (model X.prog X.w) X.A (call (.ref C) [u]) (EP X pins σ Q) X.xe s := by
  obtain ⟨nm, q, N, bs, bm, sn, sub, ab, col, dd, k0, k1, k2, k3, k5, hC, hbm⟩ := RC.oex.cls
  have kin := I.kIn
  obtain ⟨mb, b1, b2⟩ := I.mod.blt
  have G : s.heap.Ns mainGlobals X.mg := I.ok.mod.glob.keeps I.bk
  have B := b1.keeps I.bk
  have nol := I.nolimit
  have sb : mb "super" = some (.type "super") := (b2 "super" (by decide)).trans (by decide +kernel)
  obtain ⟨hp, g, d, t, os⟩ := s
  have kk : ∀ b o, hp.get? b = some o → ((hp.push (PySem.W.kdv_tup [u])).push (PySem.HandSPX.excO C hp.objs.size)).get? b = some o := fun b o z => Heap.get?_push_of_some _ (Heap.get?_push_of_some _ z)
  have here : ((hp.push (PySem.W.kdv_tup [u])).push (PySem.HandSPX.excO C hp.objs.size)).get? (hp.objs.size + 1) = some (PySem.HandSPX.excO C hp.objs.size) := by heap_get
  have en : hp.get? (hp.objs.size + 1) = none := by
    cases z : hp.get? (hp.objs.size + 1) with
    | none => rfl
    | some o => have := Heap.lt_size z; exact absurd this (Nat.not_lt.mpr (Nat.le_succ _))
  have He : H (hp.objs.size + 1) = none := I.hok.fresh (Nat.le_succ _)
  have mk := (RmG.make hr C [u] []).rm
  refine wpAny_call (PySem.HandSPX.call_own F.excBase_ValueError (fun Y => PySem.HandSPX.refsVE_contains Y bm hbm) (kin _ _ hC) (PySem.W.looks_findIn kin RC.ini) (fun self => PySem.W.bind_fn kin self RF.fn) (by show 1 ≤ sizeLine; rw [sizeLine_eq]; omega) ?_)
  refine ring_init RF RC mk.depth (fun b o z => kk b o (kin b o z)) (G.keeps kk) (B.keeps kk) sb (nol.keeps kk) here (fun b o z q => ?_) (fun h' tk dx t1 k dn dne e1 n1 => ?_)
  · have := kin b o z
    rw [q, en] at this; cases this
  · refine ⟨rfl, ?_⟩
    have ko : ∀ b o, hp.get? b = some o → h'.get? b = some o := fun b o z => k b o (fun q => by rw [q, en] at z; cases z) (kk b o z)
    have dn0 : hp.get? dx = none := by
      cases z : hp.get? dx with
      | none => rfl
      | some o => have := kk _ _ z; rw [dn] at this; cases this
    have Hd : H dx = none := by
      cases z : H dx with
      | none => rfl
      | some o => obtain ⟨ob, z2⟩ := obj_get (I.hok _ _ z); rw [dn0] at z2; cases z2
    have ok1 : HOk X.prog X.w (upd (upd H dx (.xd [("value", v)])) (hp.objs.size + 1) (ExV (hp.objs.size + 1) C dx)) h' := by
      refine HOk.laidN (P := X.prog) (w := X.w) (HOk.laidN I.hok ko Hd ⟨_, n1, relO_put (fs := []) rv fun g => True.intro⟩) (fun _ _ z => z) (by rw [upd_ne (Ne.symm dne)]; exact He) ⟨⟨_, _, e1, rfl, rfl, rfl⟩, ⟨_, e1⟩, fun h1 h2 z kz => ?_⟩
      obtain ⟨oe, vs, z1, z2⟩ := z
      exact ⟨oe, vs, kz _ z1, z2⟩
    exact ⟨.ref (hp.objs.size + 1), _, I.un (t' := tk) (exc_un I.hok ko en dn0 He Hd) ok1, rfl, h _ dx He Hd dne⟩
end
end Ev

set_option Elab.async false
set_option linter.all false
set_option maxRecDepth 100000
set_option maxHeartbeats 2000000
/-! Ev13: exceptions as values: C(e), e.value. -/
namespace Ev
open PySem PySem.Spec PyProof.Rows L2
section
variable {X : Cx} {T : Tb} {W : WX}
/-- C(e), the class the c-th of the table -/
def dExc (c : Nat) (fa : DA) : DE := fun env s => (fa env s).bind fun ds s => match fzs ds s with
  | some ([x], s) => .ok (.p (.exc c x)) s
  | _ => .bad
theorem exv_ne {a C dx : Addr} {b : Addr} {v : V} : ExV a C dx ≠ .xd [("value", v)] := fun z => by
  have z' : HO.ext _ = HO.xd [("value", v)] := z
  cases z'
theorem e_exc {c : Nat} {D fI : Addr} {x : Str} {e : Expr} {fa : DA} {p pos : Pos} (RF : RingF X.prog X.K X.mg D fI) (RC : RingC X.K D fI (T.ad c)) (hr : RmG 1 X.A) (hg : Gl X x) (hm : X.mg x = some (.ref (T.ad c))) (ha : PA X [e] (rdA T W fa))
    (hdb : (x == ("__debug__" : Str)) = false := by decide) (he : starEach [e] X.env = (false, eval e X.env) :: starEach [] X.env := by rfl) (hpl : (backTo pos (starEach [] X.env)).any (·.1) = false := by rfl) :
    PE X (.Call (.Name x p) [e] [] pos) (rd T W (dExc c fa)) := by
  constructor
  intro pins s σ H Q I h
  refine wpAny_Call_Name_kw (ld_glob I hg hm ?_ hdb)
  obtain ⟨Z, α, env, s0, st, re, h⟩ := h
  refine PySem.W.callWith_K (h₀ := X.base) I.ok.mod.kin RC.oex.kC (thn (ha.run pos pins s σ H _ I ⟨Z, α, env, s0, st, re, Post.split (Rel := relA T) h⟩) fun us s1 ⟨vs, H1, I1, r, q⟩ => ⟨I1.kIn, ?_⟩) he hpl
  obtain ⟨α1, ds, s2, _, g1, st1, r1, h1⟩ := q
  cases q1 : fzs ds s2 with
  | none => rw [q1] at h1; exact h1.elim
  | some w =>
    obtain ⟨xs, s3⟩ := w
    rw [q1] at h1
    obtain ⟨st3, g3, rs⟩ := fzs_ok st1 r1 q1
    match xs, h1 with
    | [y], h1 =>
      obtain ⟨v, rfl, rv⟩ := rs.one
      obtain ⟨u, rfl, ru⟩ := vals1 r
      refine run_ring RF RC hr I1 ru fun ea dx He Hd ne => ?_
      -- the two new objects
      have k1 : Same H1 (upd H1 dx (.xd [("value", v)])) := same_new Hd
      have st4 := st3.same k1
      have g4 := Go.of_same st3 k1
      have He' : upd H1 dx (.xd [("value", v)]) ea = none := by rw [upd_ne (Ne.symm ne)]; exact He
      have k2 : Same (upd H1 dx (.xd [("value", v)])) (upd (upd H1 dx (.xd [("value", v)])) ea (ExV ea (T.ad c) dx)) := same_new He'
      have st5 := st4.same k2
      have g5 := Go.of_same st4 k2
      have hL := hid_dom st4
      refine h1 α1 _ _ ((g3.trans g4).trans g5) st5 (.p (.exc (hide_new hL He') ?_ ((rv.ext g4.ext).ext g5.ext)))
      exact hide_same k2 _ _ (hide_new (hid_dom st3) Hd)
/-- e.value -/
def dXV (ex : List Nat) (f : DE) : DE := fun env s => (f env s).bind fun d s => match d with
  | .p (.exc c x) => if c ∈ ex then .ok (.p x) s else .bad
  | _ => .bad
theorem e_value {ex : List Nat} {e : Expr} {f : DE} {pos : Pos} (F : ∀ c ∈ ex, XfC X.K (T.ad c) ∧ PySem.W.findIn X.K (.ref (T.ad c)) "value" = some none) (he : PE X e (rd T W f)) (hb : attributeBase e "value" X.env (eval e X.env) = eval e X.env := by rfl) :
    PE X (.Attribute e "value" pos) (rd T W (dXV ex f)) := by
  refine ⟨fun pins s σ H Q I h => ?_⟩
  obtain ⟨Z, α, env, s0, st, re, h⟩ := h
  refine attr_of hb (thn (he.run pins s σ H _ I ⟨Z, α, env, s0, st, re, Post.split (Rel := relD T) h⟩) fun u s1 ⟨v, H1, I1, ru, α1, d, s2, _, g1, st1, r1, h1⟩ => ?_)
  split at h1
  · rename_i c x _
    split at h1
    · rename_i hc
      obtain ⟨F1, F2⟩ := F c hc
      cases r1 with
      | p r1 =>
        cases r1 with
        | @exc _ _ a dx w hx hd rx =>
          cases (show u = Value.ref a from ru)
          have hx' := (hide_some hx).2
          have hd' := (hide_some hd).2
          obtain ⟨oe, vs, e1, e2, e3, e4⟩ := (show ObjOk X.prog X.w H1 s1.heap a (ExV a (T.ad c) dx) from I1.hok a _ hx').1
          obtain ⟨mA, hn, hr⟩ := (show ObjOk X.prog X.w H1 s1.heap dx (.xd [("value", w)]) from I1.hok dx _ hd')
          obtain ⟨od, ho, hl⟩ := lookIn_ns hn
          obtain ⟨y, hy, ry⟩ := RelO.some_of (v := w) (o := mA "value") (by have := hr "value"; simpa [List.lookup] using this)
          have J : PySem.W.InstAt s1.heap a oe (T.ad c) (some od) := ⟨e1, e2, by unfold PySem.W.notCls; rw [e4] <;> rfl, by rw [e3]; exact ho⟩
          exact HandSPX.exc_get I1.kIn J F1.ga F1.gg F1.exC (PySem.W.findObj_own F1.hdC F2 rfl (by rw [hl, hy])) (handed_of ry) ⟨w, H1, I1.tok _, ry, Post.done (a := D.p x) h1 st1 (.p rx)⟩
    · exact h1.elim
  · exact h1.elim
/-! ### methods of texts -/
def dStr0 (g : Str → Option P) (f : DE) : DE := fun env s => (f env s).bind fun d s => match d with
  | .p (.str a) => match g a with
    | some z => .ok (.p z) s
    | none => .bad
  | _ => .bad
abbrev RUp : V → List V → Hp → VK → Prop := fun x xs H Q => ∃ a, x = .str a ∧ xs = [] ∧ a.length ≤ 5592405 ∧ Q (.str (PySem.Txt.upper a)) H
def gUpper (a : Str) : Option P := if a.length ≤ 1000000 then some (.str (PySem.Txt.upper a)) else none
theorem e_upper {o : Expr} {f : DE} {apos pos : Pos} (ho : PE X o (rd T W f)) (hbase : attributeBase o "upper" X.env (eval o X.env) = eval o X.env := by rfl) (hline : (apos.endLine == pos.line) = true := by rfl) :
    PE X (.Call (.Attribute o "upper" apos) [] [] pos) (rd T W (dStr0 gUpper f)) :=
  (pe_m0 PySem.F.slot_str_upper PySem.F.type_str_upper mt_upper ho hbase hline).imp fun σ H Q ⟨Z, α, env, s, st, re, h⟩ =>
    ⟨Z, α, env, s, st, re, (Post.split (Rel := relD T) h).mono fun v H1 ⟨α1, d, s1, _, g1, st1, r1, h1⟩ => by
      split at h1
      · rename_i a _
        cases r1 with
        | p r1 =>
          cases r1
          unfold gUpper at h1
          by_cases c : a.length ≤ 1000000
          · rw [if_pos c] at h1
            exact ⟨⟨a, rfl⟩, a, rfl, rfl, by omega, Post.done (a := D.p _) h1 st1 (.p (.str _))⟩
          · rw [if_neg c] at h1; exact h1.elim
      · exact h1.elim⟩
/-! ### {} -/
def dDct0 : DE := fun _ s => .ok (.ref s.length) (s ++ [.dct []])
theorem e_dct0 {pos : Pos} : PE X (.Dict [] [] pos) (rd T W dDct0) := pe_dnewK.imp fun σ H Q ⟨Z, α, env, s, st, re, h⟩ p np => by
  obtain ⟨sn, gn⟩ := st.new (o := .dct []) (u := .dK []) np rfl fun G' k => ⟨[], upd_same, rfl, .nil⟩
  exact h (α ++ [p]) _ _ gn sn (ref_last st.len)
/-! ### list + list, handed back as a new place; a display's items frozen -/
end
end Ev

set_option Elab.async false
set_option linter.all false
set_option maxRecDepth 100000
set_option maxHeartbeats 2000000
/-! Ev14: the head's facts; the end of a law. -/
namespace Ev
open PySem PySem.Spec PyProof.Rows L2
open He (FnW DefD fnW frG growD refV ba ga ma fAd eqO)
/-! ### the written part: what the module's names and the static names reach -/
def asX (g : Addr → Option Obj) : Nat → List Addr
  | 0 => [mainGlobals, cStatics]
  | n + 1 => growD g (asX g n)
/-- __init__ of RingError, its closure by names -/
def riW (K : PySem.W.Frag) : FnW := match K.lookup (fAd K ("RingError", some "__init__")) with
  | some ⟨_, _, .func fd, _⟩ => some (fd.name, fd.qualname, fd.params, fd.body, fd.scope, fd.globals, fd.closure.map fun q => (q.1, 0), fd.builtins)
  | _ => none
def riV : FnW := some ("__init__", "RingError.__init__", riArgs, .stmts riBody, riScope, mainGlobals, [("__class__", 0)], builtinsNs)
def fileIn (K : PySem.W.Frag) (cd : Value) (f : Str) : Bool := match cd with
  | .ref c => (match K.lookup c with
    | some ⟨_, _, .fields vs, _⟩ => (match vs.toList[2]? with
      | some (Value.str x _) => x == f
      | _ => false)
    | _ => false)
  | _ => false
/-- the rest of it -/
def riB (K : PySem.W.Frag) (file : Str) : Bool := match K.lookup (fAd K ("RingError", some "__init__")) with
  | some ⟨_, _, .func fd, _⟩ => (match fd.defaults, fd.closure with
    | .none, [(_, cc)] => PySem.W.codeIn K fd.code "RingError.__init__" && (fileIn K fd.code file && (match K.lookup cc with
      | some ⟨_, _, .cell (some (.ref D)), _⟩ => D == ga K "RingError"
      | _ => false))
    | _, _ => false)
  | _ => false
def ringB (K : PySem.W.Frag) (file : Str) : Bool := riB K file && ((PySem.W.clsIn K (ga K "RingError")).isSome && (eqO (PySem.W.nsIn K mainGlobals "super") (some none) &&
  (eqO (PySem.W.nsIn K cStatics "thirdparty.any") (some none) && decide (PySem.W.typeIn K (.ref (fAd K ("RingError", some "__init__"))) = some (.type "function")))))
def oexB (K : PySem.W.Frag) (C : Addr) : Bool := (match K.lookup C with
  | some ⟨.type "type", _, .cls cd, sl⟩ => (match cd.mro, sl.toList with
    | .ref C' :: bm, [_, _, _, _, some (.builtin n), _] => C' == C && (n == "ValueError.__new__" && (!cd.hasDel && (cd.hasDict && PySem.HandSPX.refsVE bm)))
    | _, _ => false)
  | _ => false) && (eqO (PySem.W.findIn K (.ref C) "__setattr__") (some (some (.builtin "object.__setattr__"))) && (decide (PySem.W.subIn K (.ref C) (.type "BaseException") = some true) && (decide (PySem.W.typeIn K (.ref C) = some (.type "type")) && PySem.W.keepIn K (.ref C))))
def excB (K : PySem.W.Frag) (x : Str) : Bool := oexB K (ga K x) && (eqO (PySem.W.findIn K (.ref (ga K x)) "__init__") (some (some (.ref (fAd K ("RingError", some "__init__"))))) &&
  (eqO (PySem.W.ks_superIn K (ga K x) (ga K "RingError") "__init__") (some (some (.builtin "ValueError.__init__"))) && (decide (PySem.W.subIn K (.ref (ga K x)) (.type "ValueError") = some true) &&
  (decide (PySem.W.mroIn K (ga K x) (.ref (ga K "RingError")) = some true) && eqO (PySem.W.findIn K (.ref (ga K x)) "value") (some none)))))
/-- what isinstance and the reading of a field ask of an exception's class -/
def excIsB (K : PySem.W.Frag) (x : Str) : Bool := xfB K (ga K x) && (eqO (PySem.W.findIn K (.ref (ga K x)) "__class__") (some (some (.builtin "object.__class__"))) && (eqO (PySem.W.specialIn K (.builtin "object.__class__") "__get__") (some (some (.builtin "getset_descriptor.__get__"))) &&
  (decide (PySem.W.takesIn K (.builtin "object.__class__") = some true) && decide (PySem.W.mroIn K (ga K x) (.type "object") = some true))))
section
variable {P : Program} {K : PySem.W.Frag} {h : Heap} {mg : Str → Option Value}
theorem eqO_ok {a b : Option (Option Value)} (h : eqO a b = true) : a = b := of_decide_eq_true h
theorem oex_of {C : Addr} (h : oexB K C = true) : OexC K C := by
  obtain ⟨h1, h⟩ := ba h
  obtain ⟨h2, h⟩ := ba h
  obtain ⟨h3, h⟩ := ba h
  obtain ⟨h4, h5⟩ := ba h
  refine ⟨?_, eqO_ok h2, of_decide_eq_true h3, of_decide_eq_true h4, h5⟩
  split at h1
  · rename_i dd cd sl ho
    split at h1
    · rename_i C' bm k0 k1 k2 k3 n k5 hm hs
      simp only [Bool.and_eq_true, beq_iff_eq, Bool.not_eq_true'] at h1
      obtain ⟨rfl, rfl, hdel, hdi, ht⟩ := h1
      obtain ⟨nm, bs, mro, ns, qn, hd, sn, sub, ab, col, del⟩ := cd
      dsimp only at hm hdel hdi
      subst hm hdel hdi
      have hsl : sl = #[k0, k1, k2, k3, some (.builtin "ValueError.__new__"), k5] := by
        obtain ⟨l⟩ := sl
        simp only at hs
        rw [hs]
      subst hsl
      exact ⟨nm, qn, ns, bs, bm, sn, sub, ab, col, dd, k0, k1, k2, k3, k5, ho, ht⟩
    · cases h1
  · cases h1
theorem ringC_of {x : Str} (h : excB K x = true) : RingC K (ga K "RingError") (fAd K ("RingError", some "__init__")) (ga K x) := by
  obtain ⟨h1, h⟩ := ba h
  obtain ⟨h2, h⟩ := ba h
  obtain ⟨h3, h⟩ := ba h
  obtain ⟨h4, h⟩ := ba h
  obtain ⟨h5, h6⟩ := ba h
  exact ⟨oex_of h1, eqO_ok h2, eqO_ok h3, of_decide_eq_true h4, of_decide_eq_true h5, eqO_ok h6⟩
theorem ringF_of (hf : (P.main.scope.names.lookup ("super" : Str)).isSome = false) (X : K.In h) (G : h.Ns mainGlobals mg) (e : riW K = riV) (c : ringB K P.main.file = true) : RingF P K mg (ga K "RingError") (fAd K ("RingError", some "__init__")) := by
  obtain ⟨c1, c⟩ := ba c
  obtain ⟨c2, c⟩ := ba c
  obtain ⟨c3, c⟩ := ba c
  obtain ⟨c4, c5⟩ := ba c
  refine ⟨?_, hf, Option.isSome_iff_exists.mp c2, PySem.W.mg_none_of X G (eqO_ok c3), eqO_ok c4, of_decide_eq_true c5⟩
  unfold riB at c1
  unfold riW at e
  cases q : K.lookup (fAd K ("RingError", some "__init__")) with
  | none => rw [q] at c1; cases c1
  | some o =>
    obtain ⟨oc, od, dt, osl⟩ := o
    rw [q] at c1 e
    cases dt with
    | func fd =>
      obtain ⟨n1, n2, n3, n4, n5, n6, n7, n8, n9, n10, n11, n12, n13, n14, n15⟩ := fd
      have e2 : (some (n1, n2, n3, n4, n5, n6, n7.map (fun q => (q.1, 0)), n15) : FnW) = riV := e
      unfold riV at e2
      simp only [Option.some.injEq, Prod.mk.injEq] at e2
      obtain ⟨rfl, rfl, rfl, rfl, rfl, rfl, e7, rfl⟩ := e2
      dsimp only at c1
      split at c1
      · rename_i cn cc
        simp only [List.map_cons, List.map_nil, List.cons.injEq, Prod.mk.injEq, and_true] at e7
        subst e7
        obtain ⟨d1, d⟩ := ba c1
        obtain ⟨d2, d3⟩ := ba d
        unfold fileIn at d2
        split at d2
        · rename_i cda
          split at d2
          · rename_i ccl cdd vs ccs hcd
            split at d2
            · rename_i f tf hv
              split at d3
              · rename_i cl cld D csl hc
                have eD : D = ga K "RingError" := by simpa using d3
                subst eD
                exact ⟨oc, n9, n10, n11, n14, od, n12, osl, cda, cc, rfl, d1, ⟨cl, cld, csl, hc⟩, ccl, cdd, ccs, vs, f, tf, hcd, by simpa using hv, by
                  have : f = P.main.file := by simpa using d2
                  simp [this]⟩
              · cases d3
            · cases d2
          · cases d2
        · cases d2
      · cases c1
    | _ => cases c1
theorem excIs_of {x : Str} (h : excIsB K x = true) : XfC K (ga K x) ∧ ExcC K (ga K x) := by
  obtain ⟨h1, h⟩ := ba h
  obtain ⟨h2, h⟩ := ba h
  obtain ⟨h3, h⟩ := ba h
  obtain ⟨h4, h5⟩ := ba h
  have X := xfB_ok h1
  exact ⟨X, X.ga, X.gg, X.exC, X.hdC, eqO_ok h2, eqO_ok h3, of_decide_eq_true h4, of_decide_eq_true h5⟩
end
/-! ### the Hook: any decidable fact of the written part, the defs, RingError's __init__ -/
abbrev AlX : Type := Bool × List FnW × FnW
def noList (K : PySem.W.Frag) : Bool := K.all fun q => match q.2.cls with
  | .type "list" => false
  | _ => true
def obsX (q : PySem.W.Frag → Bool) (fn : List DefD) (K : PySem.W.Frag) : AlX := (noList K && (q K && fn.all fun d => d.ok K), fn.map (fun d => fnW K d.at_), riW K)
def valX (fn : List DefD) : AlX := (true, fn.map DefD.val, riV)
def SaysX (q : PySem.W.Frag → Bool) (fn : List DefD) (K : PySem.W.Frag) : Prop := obsX q fn K = valX fn
def obsXG (n : Nat) (q : PySem.W.Frag → Bool) (fn : List DefD) (g : Addr → Option Obj) : AlX := obsX q fn (frG g (asX g n))
def hookX (n : Nat) (q : PySem.W.Frag → Bool) (fn : List DefD) : PySem.W.Hook where
  α := AlX
  obs := fun s => obsXG n q fn s.heap.get?
  val := fun _ => valX fn
  says := fun _ h => ∃ K : PySem.W.Frag, K.In h ∧ SaysX q fn K
  of := fun _ _ e => ⟨_, He.frG_in, e⟩
  keeps := fun _ _ _ ⟨K, hK, c⟩ k => ⟨K, PySem.W.Frag.In.keeps hK k, c⟩
theorem obsXG_eq {n : Nat} {q : PySem.W.Frag → Bool} {fn : List DefD} {g : Addr → Option Obj} {s : Shared} (h : ∀ a, g a = s.heap.get? a) : obsXG n q fn g = (hookX n q fn).obs s := by
  have e : g = s.heap.get? := funext h
  rw [e] <;> rfl
section
variable {q : PySem.W.Frag → Bool} {fn : List DefD} {K : PySem.W.Frag}
theorem SaysX.facts (c : SaysX q fn K) : noList K = true ∧ q K = true ∧ (∀ d ∈ fn, d.ok K = true) := by
  have c1 : (noList K && (q K && fn.all fun d => d.ok K)) = true := congrArg (fun z : AlX => z.1) c
  obtain ⟨h1, h⟩ := ba c1
  obtain ⟨h2, h3⟩ := ba h
  exact ⟨h1, h2, fun d m => List.all_eq_true.mp h3 d m⟩
theorem SaysX.def_ (c : SaysX q fn K) (i : Nat) {d : DefD} (h : fn[i]? = some d := by rfl) : ∃ fd, FunD K d.name d.qual d.params d.body d.scope (d.dvs K) (d.kws K) (fAd K d.at_) fd := by
  have e : fn.map (fun d => fnW K d.at_) = fn.map DefD.val := congrArg (fun z : AlX => z.2.1) c
  have e2 : (fn.map fun d => fnW K d.at_)[i]? = (fn.map DefD.val)[i]? := by rw [e]
  rw [List.getElem?_map, List.getElem?_map, h] at e2
  exact DefD.funD (Option.some.inj e2) (c.facts.2.2 d (List.mem_of_getElem? h))
theorem SaysX.ri (c : SaysX q fn K) : riW K = riV := congrArg (fun z : AlX => z.2.2) c
theorem noList_not (h : noList K = true) {a : Addr} {o : Obj} (e : K.lookup a = some o) : o.cls ≠ .type "list" := fun z => by
  have key : ∀ {l : List (Addr × Obj)}, (l.all fun q => match q.2.cls with
    | .type "list" => false
    | _ => true) = true → l.lookup a = some o → False := by
    intro l
    induction l with
    | nil => intro _ e; cases e
    | cons p l ih =>
      intro hl e
      obtain ⟨b, u⟩ := p
      rw [List.all_cons] at hl
      obtain ⟨h1, h2⟩ := ba hl
      rw [List.lookup_cons] at e
      cases c : (a == b) with
      | true =>
        rw [c] at e
        cases e
        dsimp only at h1
        rw [z] at h1
        cases h1
      | false => rw [c] at e; exact ih h2 e
  exact key h e
end
/-! ### the end -/
/-- the heap at the law's call: the script alone -/
def scH (a : Addr) (vs : List Value) (ns : List Int) : Hp := fun b => if b = a then some (.frz { cls := .type "list", data := .seq vs.toArray } (.lst (ns.map V.int))) else none
theorem law_callG {Pg : Program} {w : World} {K : PySem.W.Frag} {mg mb : Str → Option Value} {k : Nat} {fa a : Addr} {x : Str} {T : Tb} {g : DF} {s₁ : Shared} {vs : List Value} {ns : List Int}
    (KX : K.In s₁.heap) (nl : noList K = true) (hns : s₁.heap.Ns mainGlobals mg) (hb : s₁.heap.Ns builtinsNs mb) (hbb : ∀ x : Str, x ≠ "__name__" → mb x = bootBuiltins x) (hlim : s₁.heap.NoLimit) (hg : s₁.gens = #[])
    (ha : s₁.heap.get? a = some { cls := .type "list", data := .seq vs.toArray }) (hi : IntsAre vs ns) (hl : ns.length ≤ sizeLine) (hr : RmG k callerA)
    (F : ∀ base : Heap, K.In base → base.Ns mainGlobals mg → ∃ fd, Binds K fd [x] [] ∧ FnG Pg w K mg base k fa fd [x] (spG T 1 g))
    (law : ∃ s', g [.p (.lst (ns.map P.int))] [] = .ok (.p (.bl true)) s') :
    codeAny (model Pg w) callerA (.call (.ref fa) ⟨[.ref a], []⟩) (fun r s' => r = .ok (.ret (.bool true)) ∧ OldK s₁.heap s'.heap ∧ s'.os = s₁.os ∧ AllBare s'.gens) s₁ := by
  have rv := vals_ints hi
  have an : K.lookup a = none := by
    cases q : K.lookup a with
    | none => rfl
    | some o =>
      have e := KX a o q
      rw [ha] at e
      cases e
      exact (noList_not nl q rfl).elim
  have Ha : scH a vs ns a = some (.frz { cls := .type "list", data := .seq vs.toArray } (.lst (ns.map V.int))) := if_pos rfl
  have Hn : ∀ b, b ≠ a → scH a vs ns b = none := fun b n => if_neg n
  have ok : HOk Pg w (scH a vs ns) s₁.heap := fun b u z => by
    by_cases c : b = a
    · subst c
      rw [Ha] at z; cases z
      exact ⟨ha, by rw [List.length_map]; exact hl, vs, _, rv, ha⟩
    · rw [Hn b c] at z; cases z
  have low : ∀ {b : Addr} {o : Obj}, s₁.heap.get? b = some o → b ≠ a → (hidT s₁.heap (scH a vs ns)).get? b = some o := fun e n => hidT_get e (Hn _ n)
  have lowNs : ∀ {b : Addr} {m : Str → Option Value}, s₁.heap.Ns b m → (hidT s₁.heap (scH a vs ns)).Ns b m := fun {b m} ⟨o, es, ep, e, d, r⟩ => ⟨o, es, ep, low e (fun q => by
    subst q; rw [ha] at e; cases e
    have d' : Data.seq vs.toArray _ = Data.dict es ep := d
    cases d'), d, r⟩
  have Kb : K.In (hidT s₁.heap (scH a vs ns)) := fun b o e => low (KX b o e) fun q => by subst q; rw [an] at e; cases e
  have M : Mod K mg (hidT s₁.heap (scH a vs ns)) := ⟨Kb, lowNs hns, ⟨mb, lowNs hb, hbb⟩, let ⟨mc, h1, h2⟩ := hlim; ⟨mc, lowNs h1, h2⟩⟩
  have e0 : Env0 Pg w K mg (hidT s₁.heap (scH a vs ns)) callerA [] s₁ (scH a vs ns) := ⟨rfl, M, fun b o e => of_hidT e, Nat.le_of_eq (hidT_size _ _), trivial, (fun b hb => by cases hb), ok, .of_eq hg⟩
  obtain ⟨s2, law⟩ := law
  have prom : spG T 1 g [.ref a] (scH a vs ns) (fun v _ => v = .bl true) fun _ _ _ => False := by
    refine ⟨rfl, [], [], [], [.p (.lst (ns.map P.int))], ⟨rfl, List.nodup_nil, (fun _ m => by cases m), (fun _ m => by cases m), (fun _ m => by cases m), fun l a o e => by simp at e⟩, .cons (.p (.lst (.inr ⟨{ cls := .type "list", data := .seq vs.toArray }, ?_⟩) (RPs.ofInts ns))) .nil, ?_⟩
    · exact (pur_out (by simp [hid])).trans Ha
    · rw [law]
      intro α' H' b g' st' r
      cases r with | p r => cases r; rfl
  obtain ⟨fd, hbind, F⟩ := F _ Kb (lowNs hns)
  have bt := hbind s₁ [.ref a] KX rfl
  rw [List.append_nil] at bt
  refine codeAny_mono (F.go callerA [] s₁ (scH a vs ns) ⟨[.ref a], []⟩ [.ref a] [.ref a] _ _ hr e0 bt (.cons rfl .nil) prom) fun r s' h => ?_
  match r, h with
  | .error e, h => obtain ⟨_, _, _, _, _, _, _, _, _, _, _, _, h⟩ := h; exact (show False from h).elim
  | .ok .next, h => exact (show False from h).elim
  | .ok .brk, h => exact (show False from h).elim
  | .ok .cont, h => exact (show False from h).elim
  | .ok (.ret u), h =>
    obtain ⟨v, H', os, bare, un, ok', r', q⟩ := h
    have q' : v = .bl true := q
    subst q'
    obtain rfl : u = Value.bool true := r'
    refine ⟨rfl, OldK.of_keep fun b o e => ?_, os, bare⟩
    by_cases c : b = a
    · subst c
      obtain ⟨z, _⟩ := ok' b _ (un.frzs b _ _ Ha)
      rw [ha] at e; cases e
      exact z
    · exact un.keep b o e (Hn b c) (fun z => by cases z) (by simp)
end Ev

set_option Elab.async false
set_option linter.all false
set_option maxRecDepth 100000
set_option maxHeartbeats 2000000
/-! Ev15: what the printed texts lean on. -/
namespace Ev
open PySem PySem.Spec PyProof.Rows L2
open He (FnW DefD fnW frG growD refV ba ga ma fAd eqO)
def EXC : List Str := ["RingError", "BadBook", "NoPerson", "NoThing", "BadChoice", "BadRow", "Round", "Full", "NoSaying", "OtherPeople", "BadPairs", "NoOrder", "BadTelling", "BadThings", "OtherBook", "NotSure", "TooManyOpen", "NotAllBrought", "TooManyPeople", "BadName", "Crowded", "NoneSure", "Waits", "NothingToUndo", "NothingToRedo", "NoTrial", "BadJournal", "BadLine"]
abbrev adOf (K : PySem.W.Frag) (c : Nat) : Addr := ga K (EXC.getD c "")
abbrev tbOf (K : PySem.W.Frag) : Tb := ⟨K, adOf K⟩
def tyS : List String := ["NoneType", "bool", "int", "str", "tuple", "list", "dict"]
def tyC : List String := ["tuple", "str", "bool", "int", "list", "dict", "ValueError"]
def isJ (exL : List Nat) : Tg → Tg → Option Bool
  | .b t, .b c => if t ∈ tyS ∧ c ∈ tyC then some (t == c || (t == "bool" && c == "int")) else none
  | .b t, .o i => if t ∈ tyS ∧ i ∈ exL then some false else none
  | .o i, .b c => if i ∈ exL ∧ c ∈ tyC then some (c == "ValueError") else none
  | .o i, .o j => if i ∈ exL ∧ j ∈ exL then some (i == j || j == 0) else none
def isJB (K : PySem.W.Frag) (exL : List Nat) : Bool := (tyS.all fun t => tyC.all fun c => decide (PySem.W.kitOne K (.type t) (.type c) = some (t == c || (t == "bool" && c == "int")))) &&
  ((tyS.all fun t => exL.all fun i => decide (PySem.W.kitOne K (.type t) (.ref (adOf K i)) = some false)) && ((exL.all fun i => tyC.all fun c => decide (PySem.W.kitOne K (.ref (adOf K i)) (.type c) = some (c == "ValueError"))) &&
  exL.all fun i => exL.all fun j => decide (PySem.W.kitOne K (.ref (adOf K i)) (.ref (adOf K j)) = some (i == j || j == 0))))
theorem isJ_ok {K : PySem.W.Frag} {exL : List Nat} (h : isJB K exL = true) (t u : Tg) (b : Bool) (e : isJ exL t u = some b) : PySem.W.kitOne K (vTg (tbOf K) t) (vTg (tbOf K) u) = some b := by
  obtain ⟨h1, h⟩ := ba h
  obtain ⟨h2, h⟩ := ba h
  obtain ⟨h3, h4⟩ := ba h
  cases t with
  | b t =>
    cases u with
    | b c =>
      have e : (if t ∈ tyS ∧ c ∈ tyC then some (t == c || (t == "bool" && c == "int")) else none) = some b := e
      split at e
      · rename_i m; cases e; exact of_decide_eq_true (List.all_eq_true.mp (List.all_eq_true.mp h1 t m.1) c m.2)
      · cases e
    | o i =>
      have e : (if t ∈ tyS ∧ i ∈ exL then some false else none) = some b := e
      split at e
      · rename_i m; cases e; exact of_decide_eq_true (List.all_eq_true.mp (List.all_eq_true.mp h2 t m.1) i m.2)
      · cases e
  | o i =>
    cases u with
    | b c =>
      have e : (if i ∈ exL ∧ c ∈ tyC then some (c == "ValueError") else none) = some b := e
      split at e
      · rename_i m; cases e; exact of_decide_eq_true (List.all_eq_true.mp (List.all_eq_true.mp h3 i m.1) c m.2)
      · cases e
    | o j =>
      have e : (if i ∈ exL ∧ j ∈ exL then some (i == j || j == 0) else none) = some b := e
      split at e
      · rename_i m; cases e; exact of_decide_eq_true (List.all_eq_true.mp (List.all_eq_true.mp h4 i m.1) j m.2)
      · cases e
/-! ### the facts of a law -/
def qOf (file : Str) (frees gnames : List Str) (exL : List Nat) (K : PySem.W.Frag) : Bool := (frees.all fun x => eqO (PySem.W.nsIn K mainGlobals x) (some none)) && ((gnames.all fun x => eqO (PySem.W.nsIn K mainGlobals x) (some (some (.ref (ga K x))))) &&
  (ringB K file && ((exL.all fun c => excB K (EXC.getD c "") && excIsB K (EXC.getD c "")) && isJB K exL)))
structure FactsG (P : Program) (w : World) (K : PySem.W.Frag) (mg : Str → Option Value) (T : Tb) (fns : List DefD) (frees gnames : List Str) (exL : List Nat) : Prop where
  hT : T = tbOf K
  df : ∀ (i : Nat) {d : DefD}, fns[i]? = some d → d.dfl = [] → d.kwd = [] → ∃ fd, FunD K d.name d.qual d.params d.body d.scope [] [] (fAd K d.at_) fd
  fr : ∀ (i : Nat) {x : Str}, frees[i]? = some x → mg x = none
  gl : ∀ (i : Nat) {x : Str}, gnames[i]? = some x → mg x = some (.ref (ga K x))
  rf : RingF P K mg (ga K "RingError") (fAd K ("RingError", some "__init__"))
  rc0 : ∀ c ∈ exL, RingC K (ga K "RingError") (fAd K ("RingError", some "__init__")) (adOf K c)
  xi : ∀ c ∈ exL, XfC K (adOf K c) ∧ ExcC K (adOf K c)
  ij : isJB K exL = true
section
variable {P : Program} {w : World} {K : PySem.W.Frag} {mg : Str → Option Value} {T : Tb} {base h : Heap} {fns : List DefD} {frees gnames : List Str} {exL : List Nat}
theorem FactsG.of {file : Str} (hf : (P.main.scope.names.lookup ("super" : Str)).isSome = false) (hfile : P.main.file = file) (X : K.In h) (G : h.Ns mainGlobals mg) (c : SaysX (qOf file frees gnames exL) fns K) : FactsG P w K mg (tbOf K) fns frees gnames exL := by
  obtain ⟨_, hq, _⟩ := c.facts
  obtain ⟨q1, q⟩ := ba hq
  obtain ⟨q2, q⟩ := ba q
  obtain ⟨q3, q⟩ := ba q
  obtain ⟨q4, q5⟩ := ba q
  subst hfile
  refine ⟨rfl, fun i d e e1 e2 => ?_, fun i x e => PySem.W.mg_none_of X G (eqO_ok (List.all_eq_true.mp q1 x (List.mem_of_getElem? e))), fun i x e => PySem.W.mg_of X G (eqO_ok (List.all_eq_true.mp q2 x (List.mem_of_getElem? e))), ringF_of hf X G c.ri q3,
    fun c m => ringC_of (ba (List.all_eq_true.mp q4 c m)).1, fun c m => excIs_of (ba (List.all_eq_true.mp q4 c m)).2, q5⟩
  obtain ⟨fd, F⟩ := c.def_ i e
  have a1 : d.dvs K = [] := by unfold DefD.dvs; rw [e1]; rfl
  have a2 : d.kws K = [] := by unfold DefD.kws; rw [e2]; rfl
  rw [a1, a2] at F
  exact ⟨fd, F⟩
theorem FactsG.hK (F : FactsG P w K mg T fns frees gnames exL) : T.K = K := by rw [F.hT]
theorem FactsG.rc (F : FactsG P w K mg T fns frees gnames exL) (c : Nat) (m : c ∈ exL) : RingC K (ga K "RingError") (fAd K ("RingError", some "__init__")) (T.ad c) := by rw [F.hT]; exact F.rc0 c m
theorem FactsG.clsM (F : FactsG P w K mg T fns frees gnames exL) (i c : Nat) {x : Str} (h1 : gnames[i]? = some x) (h2 : EXC.getD c "" = x) : mg x = some (.ref (T.ad c)) := by
  rw [F.hT]
  subst h2
  exact F.gl i h1
theorem FactsG.xv (F : FactsG P w K mg T fns frees gnames exL) : ∀ c ∈ exL, XfC K (T.ad c) ∧ PySem.W.findIn K (.ref (T.ad c)) "value" = some none := fun c m => by rw [F.hT]; exact ⟨(F.xi c m).1, (F.rc0 c m).noV⟩
theorem FactsG.tyF (F : FactsG P w K mg T fns frees gnames exL) : TyF T K [] exL := by
  rw [F.hT]
  exact ⟨(fun i m => by cases m), fun i m => (F.xi i m).2⟩
theorem FactsG.isJ (F : FactsG P w K mg T fns frees gnames exL) : ∀ t u b, Ev.isJ exL t u = some b → PySem.W.kitOne K (vTg T t) (vTg T u) = some b := by
  rw [F.hT]; exact isJ_ok F.ij
theorem FactsG.e_cls {X : Cx} {W : WX} {pos : Pos} (F : FactsG P w K mg T fns frees gnames exL) (i c : Nat) {x : Str} (h1 : gnames[i]? = some x) (h2 : EXC.getD c "" = x) (hX : X.mg = mg := by rfl) (hg : Gl X x := by rfl) (hd : (x == ("__debug__" : Str)) = false := by decide) : PE X (.Name x pos) (rd T W (dC (.glb c))) :=
  e_glob hg ⟨.ref (T.ad c), .ref (T.ad c), by rw [hX]; exact F.clsM i c h1 h2, rfl, fun _ => .glb c⟩ hd
/-! ### defs by name -/
def Has (P : Program) (w : World) (K : PySem.W.Frag) (mg : Str → Option Value) (base : Heap) (T : Tb) (x : Str) (ps : List Str) (k : Nat) (g : DF) : Prop := ∃ fd, PySem.W.keepIn K (.ref (ga K x)) = true ∧ Binds K fd ps [] ∧ FnG P w K mg base k (ga K x) fd ps (spG T ps.length g)
theorem FnG.bad {k : Nat} {f : Addr} {fd : FuncData} {ps : List Str} : FnG P w K mg base k f fd ps (spG T ps.length fun _ _ => .bad) :=
  ⟨fun _ _ _ _ h => h.1, fun _ _ _ _ _ _ _ _ _ _ _ _ _ h => by obtain ⟨_, _, _, _, _, _, _, h⟩ := h; exact h.elim⟩
theorem e_callH {X : Cx} {W : WX} {k n : Nat} {x : Str} {ps : List Str} {g : DF} {e : Expr} {es : List Expr} {fa : DA} {p pos : Pos} (tk : Takes X W) (F : Has X.prog X.w X.K X.mg X.base T x ps k g) (hr : RmG k X.A) (hg : Gl X x) (hm : X.mg x = some (.ref (ga X.K x))) (ha : PA X (e :: es) (rdA T W fa))
    (hn : ps.length = n := by rfl) (hdb : (x == ("__debug__" : Str)) = false := by decide) (he : starEach (e :: es) X.env = (false, eval e X.env) :: starEach es X.env := by rfl) (hpl : (backTo pos (starEach es X.env)).any (·.1) = false := by rfl) :
    PE X (.Call (.Name x p) (e :: es) [] pos) (rd T W (dCall n g fa)) := by
  obtain ⟨fd, kp, b, F⟩ := F
  subst hn
  exact e_call tk F hr hg hm kp b ha hdb he hpl
theorem takes0 {X : Cx} : Takes X W0 := fun _ _ x => by
  obtain ⟨_, _, _, _, _, _, _, _, _, _, _, _, _, _, _, _, x⟩ := x
  exact x.elim
theorem takes_cx {N : List Str} {qual : Str} {scope : Scope} {f : Addr} {cd : Value} {A : Around} {outer : List PySem.Env} {s : Shared} {H : Hp} {E : XK} : Takes (cxOf (L2.CX P w) P w K mg base N qual scope f cd A outer s H E) (fun cls d _ H' => E cls d H') := takes_of rfl rfl rfl rfl
theorem owns_cx {N : List Str} {qual : Str} {scope : Scope} {f : Addr} {cd : Value} {A : Around} {outer : List PySem.Env} {s : Shared} {H : Hp} {E : XK} : PassesOwn (model P w) (cxOf (L2.CX P w) P w K mg base N qual scope f cd A outer s H E).A (cxOf (L2.CX P w) P w K mg base N qual scope f cd A outer s H E).env (cxOf (L2.CX P w) P w K mg base N qual scope f cd A outer s H E).xe :=
  passes_of (X := cxOf (L2.CX P w) P w K mg base N qual scope f cd A outer s H E) rfl
end
theorem tgt_tupK {T : Tb} {K : PySem.W.Frag} {n : Nat} {g : TGs} {t : DGs} {vs : List Nat} (hK : T.K = K) (h : TgtsOk T g t vs) : TgtOk T (gTup K n g) (tTup n t) vs := hK ▸ tgt_tup h
theorem w_and1 {X : Cx} {T : Tb} {W : WX} {a : Expr} {f : DT} {pos : Pos} (h : PT X a (rdT T W f)) : PW X (.BoolOp .And [a] pos) (rdT T W f) := pw_and1 h
theorem w_or1 {X : Cx} {T : Tb} {W : WX} {a : Expr} {f : DT} {pos : Pos} (h : PT X a (rdT T W f)) : PW X (.BoolOp .Or [a] pos) (rdT T W f) := pw_or1 h
theorem RmG.u1 {k : Nat} {A : Around} (r : RmG k A) : A.units + 1 < cLine := by have := r.rm.un; omega
theorem RmG.u64 {k : Nat} {A : Around} (r : RmG k A) : A.units + 64 < cLine := by have := r.rm.un; omega
theorem RmG.u65 {k : Nat} {A : Around} (r : RmG k A) : A.units + 65 < cLine := by have := r.rm.un; omega
theorem RmG.u61 {k : Nat} {A : Around} (r : RmG k A) : A.units + 61 < cLine := by have := r.rm.un; omega
theorem plainIx {b : Expr} (h : PlainIx b := by intro _ _; rfl) : PlainIx b := h
theorem loc {sc : Scope} {x : Str} (h : Loc sc x := by first | exact Or.inl rfl | exact Or.inr rfl) : Loc sc x := h
theorem blk_u {scope : Scope} (h : (scope.names.all fun y => decide (scope.names.lookup y.1 = some y.2)) = true) : ∀ y ∈ scope.names, scope.names.lookup y.1 = some y.2 := fun y m => of_decide_eq_true (List.all_eq_true.mp h y m)
theorem blk_i {N : List Str} {own : List (Str × Nat)} (h : (own.all fun p => decide (N[p.2]? = some p.1)) = true) : ∀ p ∈ own, N[p.2]? = some p.1 := fun y m => of_decide_eq_true (List.all_eq_true.mp h y m)
theorem blk_f {sc scope : Scope} (h : (scope.names.all fun y => !decide (y.2 = .free) || (decide (sc.names.lookup y.1 = some .cell) || decide (sc.names.lookup y.1 = some .free))) = true) : ∀ y ∈ scope.names, y.2 = .free → sc.names.lookup y.1 = some .cell ∨ sc.names.lookup y.1 = some .free := fun y m e => by
  have := List.all_eq_true.mp h y m
  rw [decide_eq_true e] at this
  simpa using this
theorem blk_o {N : List Str} {scope : Scope} {own : List (Str × Nat)} (h : (scope.names.all fun y => !(decide (y.2 = .local) || decide (y.2 = .cell)) || (decide (y.1 ∈ own.map (·.1)) || decide (y.1 ∉ N))) = true) : ∀ y ∈ scope.names, y.2 = .local ∨ y.2 = .cell → y.1 ∈ own.map (·.1) ∨ y.1 ∉ N := fun y m e => by
  have := List.all_eq_true.mp h y m
  simp only [Bool.or_eq_true, Bool.not_eq_true', decide_eq_true_eq, Bool.or_eq_false_iff, decide_eq_false_iff_not] at this
  rcases this with z | z
  · rcases e with e | e
    · exact absurd e z.1
    · exact absurd e z.2
  · exact z
theorem blkOk {N : List Str} {sc scope : Scope} {own : List (Str × Nat)} (h : BlkOk N sc scope own := by exact ⟨rfl, blk_u rfl, blk_i rfl, blk_f rfl, blk_o rfl⟩) : BlkOk N sc scope own := h
end Ev
namespace Ev
open PySem PySem.Spec PyProof.Rows L2
open He (FnW DefD fnW frG growD refV ba ga ma fAd eqO)
/-- the end of a law: the head's facts, the denotation's answer -/
theorem walk_ofG {l : PySem.W.OpenLaw} {n k : Nat} {q : Program} {loose : List Str} {XP : (Str → Option Value) → Heap → Prop} {d : DefRec} {x : Str} {fns : List DefD} {qf : PySem.W.Frag → Bool} {g : DF}
    (hn : l.most = some n) (hn2 : n ≤ sizeLine) (hdf : d.params.defaults = []) (hr : RmG k callerA)
    (F : ∀ (w : World) (mg : Str → Option Value) (fa : Addr) (h : Heap) (K : PySem.W.Frag), K.In h → SaysX qf fns K → h.Ns mainGlobals mg → mg d.name = some (.ref fa) →
      ∃ (T : Tb), ∀ base : Heap, K.In base → base.Ns mainGlobals mg → ∃ fd, Binds K fd [x] [] ∧ FnG l.prog w K mg base k fa fd [x] (spG T 1 g))
    (law : ∀ ns : List Int, ns.length ≤ n → ∃ s', g [.p (.lst (ns.map P.int))] [] = .ok (.p (.bl true)) s') :
    PySem.W.WalkO q loose XP (fun _ h => ∃ K : PySem.W.Frag, K.In h ∧ SaysX qf fns K) l.row.toRowW d [] (fun f vs => PySem.call f vs) := by
  refine Att.attach_call hn hdf fun w s₀ s₁ mg mb fa o pm cd doc a vs ns G Y ho hd hcd hmg hobj hints hlen hg => ?_
  obtain ⟨K, KX, c⟩ := Y
  obtain ⟨T, hF⟩ := F w mg fa _ K KX c G.T.g hmg
  exact law_callG KX c.facts.1 G.T.g G.T.b G.T.builtins G.T.nolimit hg hobj hints (Nat.le_trans hlen hn2) hr hF (law ns hlen)
end Ev

set_option Elab.async false
set_option linter.all false
set_option maxRecDepth 100000
set_option maxHeartbeats 2000000
/-! Ev16: the denotations as simp reads them. -/
namespace Ev
open PySem PySem.Spec PyProof.Rows L2
@[simp] theorem R.bind_bad {A B : Type} (k : A → Sto → R B) : (R.bad : R A).bind k = .bad := rfl
@[simp] theorem R.bindS_bad {A : Type} (env : Env) (k : A → Sto → RS) : (R.bad : R A).bindS env k = .bad := rfl
@[simp] theorem RS.bind_rt (d : D) (s : Sto) (k : Env → Sto → RS) : (RS.rt d s).bind k = .rt d s := rfl
@[simp] theorem RS.bind_bad (k : Env → Sto → RS) : RS.bad.bind k = .bad := rfl
section
variable (env : Env) (s : Sto)
@[simp] theorem x_seq (a b : DS) : dSeq a b env s = (a env s).bind b := rfl
@[simp] theorem x_nx : dNx env s = .nx env s := rfl
@[simp] theorem x_bk : dBk env s = .bk env s := rfl
@[simp] theorem x_ct : dCt env s = .ct env s := rfl
@[simp] theorem x_exp (f : DE) : dExp f env s = (f env s).bindS env fun _ s => .nx env s := rfl
@[simp] theorem x_ret (f : DE) : dRet f env s = (f env s).bindS env fun d s => .rt d s := rfl
@[simp] theorem x_retN : dRetN env s = .rt (.p .non) s := rfl
@[simp] theorem x_sif (c : DT) (a b : DS) : dSIf c a b env s = (c env s).bindS env fun k s => if k = true then a env s else b env s := rfl
@[simp] theorem x_asg (f : DE) (i : Nat) : dAsg f (tName i) env s = (f env s).bindS env fun d s => .nx (env.set i (some d)) s := rfl
@[simp] theorem x_par (i j : Nat) (f : DA) : dPar i j f env s = (f env s).bindS env fun ds s => match ds with
  | [d, e] => .nx ((env.set i (some d)).set j (some e)) s
  | _ => .bad := rfl
@[simp] theorem x_set (fv fo fi : DE) : dSet fv fo fi env s = (fv env s).bindS env fun dv s => match fz dv s with
  | some (x, s) => (fo env s).bindS env fun d s => match d with
    | .ref l => (fi env s).bindS env fun di s => match look s di with
      | some i => match s[l]? with
        | some o => match setP o i x with
          | some o' => .nx env (s.set l o')
          | none => .bad
        | none => .bad
      | none => .bad
    | _ => .bad
  | none => .bad := rfl
@[simp] theorem x_c (x : P) : dC x env s = .ok (.p x) s := rfl
@[simp] theorem x_var (i : Nat) : dVar i env s = match env[i]? with
  | some (some d) => .ok d s
  | _ => .bad := rfl
@[simp] theorem x_op (g : P → P → Option P) (a b : DE) : dOp g a b env s = (a env s).bind fun d1 s1 => (b env s1).bind fun d2 s2 => op2 g d1 d2 s2 := rfl
@[simp] theorem x_tst (f : DE) : dTst f env s = (f env s).bind fun d s => match d with
  | .p (.bl b) => .ok b s
  | _ => .bad := rfl
@[simp] theorem x_and (a b : DT) : dAnd a b env s = (a env s).bind fun c s => if c = true then b env s else .ok false s := rfl
@[simp] theorem x_or (a b : DT) : dOr a b env s = (a env s).bind fun c s => if c = true then .ok true s else b env s := rfl
@[simp] theorem x_not (a : DT) : dNot a env s = (a env s).bind fun c s => .ok (!c) s := rfl
@[simp] theorem x_if (t : DT) (a b : DE) : dIf t a b env s = (t env s).bind fun c s => if c = true then a env s else b env s := rfl
@[simp] theorem x_notv (a : DE) : dNotV a env s = (a env s).bind fun c s => match c with
  | .p (.bl c) => .ok (.p (.bl (!c))) s
  | _ => .bad := rfl
@[simp] theorem x_andv (a b : DE) : dAndV a b env s = (a env s).bind fun c s => match c with
  | .p (.bl true) => b env s
  | .p (.bl false) => .ok (.p (.bl false)) s
  | _ => .bad := rfl
@[simp] theorem x_orv (a b : DE) : dOrV a b env s = (a env s).bind fun c s => match c with
  | .p (.bl true) => .ok (.p (.bl true)) s
  | .p (.bl false) => b env s
  | _ => .bad := rfl
@[simp] theorem x_nil : dNil env s = .ok [] s := rfl
@[simp] theorem x_cons (a : DE) (r : DA) : dCons a r env s = (a env s).bind fun d s1 => (r env s1).bind fun ds s2 => .ok (d :: ds) s2 := rfl
@[simp] theorem x_fn (g : GF) (fa : DA) : dFn g fa env s = (fa env s).bind (fnK g) := rfl
@[simp] theorem x_fnN (g : List P → Option O) (fa : DA) : dFnN g fa env s = (fa env s).bind (newK g) := rfl
@[simp] theorem x_neg (f : DE) : dNeg f env s = (f env s).bind fun d s => match d with
  | .p (.int i) => .ok (.p (.int (-i))) s
  | _ => .bad := rfl
@[simp] theorem x_call (n : Nat) (g : DF) (f : DA) : dCall n g f env s = (f env s).bind fun ds s => if ds.length = n then callF g ds s else .bad := rfl
@[simp] theorem x_val (f : DE) : dVal f env s = (f env s).bind fun d s' => cutD s.length d s' := rfl
@[simp] theorem x_fz (f : DE) : dFz f env s = (f env s).bind fun d s => match fz d s with
  | some (x, s') => .ok (.p x) s'
  | none => .bad := rfl
@[simp] theorem x_tup (f : DA) : dTup f env s = (f env s).bind fun ds s => match pures ds with
  | some xs => if xs.length ≤ 1000 then .ok (.p (.tup xs)) s else .bad
  | none => .bad := rfl
@[simp] theorem x_new (f : Env → Sto → R O) : dNew f env s = (f env s).bind fun o s => .ok (.ref s.length) (s ++ [o]) := rfl
@[simp] theorem x_mkL (f : DA) : mkL f env s = (f env s).bind fun ds s => match pures ds with
  | some xs => if xs.length ≤ 1000 then .ok (.lst xs) s else .bad
  | none => .bad := rfl
@[simp] theorem x_sl (f : DE) (lo hi : DO) : dSl f lo hi env s = (f env s).bind fun d s => (lo env s).bind fun l s => (hi env s).bind fun u s => match look s d with
  | some x => match slP x l u with
    | some z => .ok (.p z) s
    | none => .bad
  | none => .bad := rfl
@[simp] theorem x_noP : dNoP env s = .ok none s := rfl
@[simp] theorem x_part (f : DE) : dPart f env s = (f env s).bind fun d s => match d with
  | .p (.int i) => .ok (some i) s
  | _ => .bad := rfl
@[simp] theorem x_rev (f : DE) : dRev f env s = (f env s).bind fun d s => match look s d with
  | some x => match revP x with
    | some z => .ok (.p z) s
    | none => .bad
  | none => .bad := rfl
@[simp] theorem x_mut (g : GM) (fo : DE) (fa : DA) : dMut g fo fa env s = (fo env s).bind fun d s => match d with
  | .ref l => if isLst s l = true then (fa env s).bind fun ds s => mutK g l ds s else .bad
  | _ => .bad := rfl
@[simp] theorem x_exc (c : Nat) (fa : DA) : dExc c fa env s = (fa env s).bind fun ds s => match fzs ds s with
  | some ([x], s) => .ok (.p (.exc c x)) s
  | _ => .bad := rfl
@[simp] theorem x_xv (ex : List Nat) (f : DE) : dXV ex f env s = (f env s).bind fun d s => match d with
  | .p (.exc c x) => if c ∈ ex then .ok (.p x) s else .bad
  | _ => .bad := rfl
@[simp] theorem x_str0 (g : Str → Option P) (f : DE) : dStr0 g f env s = (f env s).bind fun d s => match d with
  | .p (.str a) => match g a with
    | some z => .ok (.p z) s
    | none => .bad
  | _ => .bad := rfl
@[simp] theorem x_dct0 : dDct0 env s = .ok (.ref s.length) (s ++ [.dct []]) := rfl
@[simp] theorem x_rgL (f : DE) : dRgL f env s = (f env s).bind fun d s => match d with
  | .p (.int n) => if -(2 ^ 62) ≤ n ∧ n ≤ 16777216 then .ok (.ref s.length) (s ++ [.lst (rng 0 n.toNat)]) else .bad
  | _ => .bad := rfl
@[simp] theorem x_for (src : DI) (t : DG) (b : DS) : dFor src t b env s = (src env s).bindS env fun items s => forL t b items env s := rfl
@[simp] theorem x_comp (src : DI) (t : DG) (c : DT) (e : DE) (vs : List Nat) : dComp src t c e vs env s = (src env s).bind fun items s1 => if items.length ≤ 1000000 then (compL t c e vs items env s1).bind fun ys s2 => .ok (.lst ys) s2 else .bad := rfl
@[simp] theorem x_srcL (f : DE) : dSrcL f env s = (f env s).bind fun d s => match d with
  | .p (.lst xs) => .ok xs s
  | _ => .bad := rfl
@[simp] theorem x_enum (f : DA) : dEnum f env s = (f env s).bind fun ds s => match ds with
  | [.p (.lst xs)] => .ok (enums xs) s
  | _ => .bad := rfl
@[simp] theorem x_rng1 (f : DA) : dRng1 f env s = (f env s).bind fun ds s => match ds with
  | [.p (.int j)] => if -(2 ^ 62) ≤ j ∧ j < 2 ^ 62 then .ok (rng 0 j.toNat) s else .bad
  | _ => .bad := rfl
end
section
variable (s : Sto)
@[simp] theorem look_p (x : P) : look s (.p x) = some x := rfl
@[simp] theorem norm_p (x : P) : norm s (.p x) = .p x := rfl
@[simp] theorem fz_p (x : P) : fz (.p x) s = some (x, s) := rfl
@[simp] theorem fzs_nil : fzs [] s = some ([], s) := rfl
@[simp] theorem fzs_p (x : P) (ds : List D) : fzs (.p x :: ds) s = (fzs ds s).map fun w => (x :: w.1, w.2) := by
  show (match fz (.p x) s with
    | some (x, s1) => match fzs ds s1 with
      | some (xs, s2) => some (x :: xs, s2)
      | none => none
    | none => none) = _
  rw [fz_p]
  dsimp only
  cases fzs ds s <;> rfl
@[simp] theorem pures_nil : pures [] = some [] := rfl
@[simp] theorem pures_cons (x : P) (ds : List D) : pures (.p x :: ds) = (pures ds).map (x :: ·) := rfl
@[simp] theorem looks_nil : looks s [] = some [] := rfl
@[simp] theorem looks_p (x : P) (ds : List D) : looks s (.p x :: ds) = (looks s ds).map (x :: ·) := by
  show (match look s (.p x), looks s ds with
    | some x, some xs => some (x :: xs)
    | _, _ => none) = _
  rw [look_p]
  cases looks s ds <;> rfl
@[simp] theorem op2_p (g : P → P → Option P) (x y : P) : op2 g (.p x) (.p y) s = match g x y with
  | some z => .ok (.p z) s
  | none => .bad := rfl
theorem op2_l (g : P → P → Option P) (d : D) (x y : P) (h : look s d = some x) : op2 g d (.p y) s = match g x y with
  | some z => .ok (.p z) s
  | none => .bad := by unfold op2; rw [h]; rfl
@[simp] theorem fnK_nil (g : GF) : fnK g [] s = match g [] with
  | some z => .ok (.p z) s
  | none => .bad := rfl
@[simp] theorem fnK_1 (g : GF) (x : P) : fnK g [.p x] s = match g [x] with
  | some z => .ok (.p z) s
  | none => .bad := rfl
@[simp] theorem fnK_2 (g : GF) (x y : P) : fnK g [.p x, .p y] s = match g [x, y] with
  | some z => .ok (.p z) s
  | none => .bad := rfl
theorem fnK_l (g : GF) (d : D) (x : P) (h : look s d = some x) : fnK g [d] s = match g [x] with
  | some z => .ok (.p z) s
  | none => .bad := by unfold fnK looks; rw [h]; rfl
end
/-! ### bounds -/
theorem log_lt {i : Int} {k : Nat} (h : i.natAbs < 2 ^ k) (hk : 0 < k) : i.natAbs.log2 < k := PySem.Flt.log2_lt_of hk h
theorem mulP {i j : Int} (k m : Nat) (h1 : i.natAbs < 2 ^ k) (h2 : j.natAbs < 2 ^ m) (hk : 0 < k := by decide) (hm : 0 < m := by decide) (h : k + m ≤ 1000000 := by decide) : gMul (.int i) (.int j) = some (.int (i * j)) := by
  have a := log_lt h1 hk
  have b := log_lt h2 hm
  unfold gMul
  dsimp only
  rw [if_pos (by omega)]
theorem modP {i j : Int} (h : 0 < j) : gMod (.int i) (.int j) = some (.int (i % j)) := by
  unfold gMod; dsimp only; rw [if_pos h]
theorem divP {i j : Int} (k : Nat) (h : 0 < j) (h2 : j.natAbs < 2 ^ k) (hk : 0 < k := by decide) (h9 : k ≤ 9000 := by decide) : gDiv (.int i) (.int j) = some (.int (i / j)) := by
  have a := log_lt h2 hk
  unfold gDiv; dsimp only; rw [if_pos ⟨h, by omega⟩]
theorem bits_le {i : Int} {k : Nat} (h : i.natAbs < 2 ^ k) (hk : 0 < k) : Builtin.Int.intBits i ≤ k := by
  unfold Builtin.Int.intBits
  have a := log_lt h hk
  split <;> omega
theorem powP {i : Int} {n : Nat} (k : Nat) (h : i.natAbs < 2 ^ k) (hk : 0 < k := by decide) (hn : k * n ≤ 2 ^ 27 := by decide) : gPow (.int i) (.int (n : Int)) = some (.int (i ^ n)) := by
  have a := bits_le h hk
  have b : Builtin.Int.intBits i * n ≤ k * n := Nat.mul_le_mul_right n a
  unfold gPow
  dsimp only
  rw [if_pos ⟨by omega, by
    have : ((Builtin.Int.intBits i * n : Nat) : Int) ≤ 2 ^ 27 := by exact_mod_cast Nat.le_trans b hn
    simpa using this⟩]
  rfl
@[simp] theorem addP (i j : Int) : gAdd (.int i) (.int j) = some (.int (i + j)) := rfl
@[simp] theorem subP (i j : Int) : gSub (.int i) (.int j) = some (.int (i - j)) := rfl
@[simp] theorem ltP (i j : Int) : gLt (.int i) (.int j) = some (.bl (decide (i < j))) := rfl
@[simp] theorem leP (i j : Int) : gLe (.int i) (.int j) = some (.bl (decide (i ≤ j))) := rfl
@[simp] theorem gtP (i j : Int) : gGt (.int i) (.int j) = some (.bl (decide (j < i))) := rfl
@[simp] theorem geP (i j : Int) : gGe (.int i) (.int j) = some (.bl (decide (j ≤ i))) := rfl
@[simp] theorem int_i (i : Int) : gInt [.int i] = some (.int i) := rfl
@[simp] theorem int_b (b : Bool) : gInt [.bl b] = some (.int (if b then 1 else 0)) := rfl
@[simp] theorem abs_i (i : Int) : gAbs [.int i] = some (.int (if i < 0 then -i else i)) := rfl
@[simp] theorem len_l (xs : List P) : gLen [.lst xs] = some (.int xs.length) := rfl
@[simp] theorem len_t (xs : List P) : gLen [.tup xs] = some (.int xs.length) := rfl
theorem atI_nat {A : Type} (xs : List A) (i : Nat) : L2.atI xs (i : Int) = xs[i]? := by
  unfold L2.atI
  by_cases h : i < xs.length
  · have : ixN xs.length (i : Int) = some i := by
      unfold ixN
      rw [if_pos (by omega), if_pos (by omega)]
      simp
    rw [this]; rfl
  · have : ixN xs.length (i : Int) = none := by
      unfold ixN
      rw [if_pos (by omega), if_neg (by omega)]
    rw [this, List.getElem?_eq_none (by omega)]; rfl
theorem ix_lst (xs : List P) (i : Nat) : ixP (.lst xs) (.int (i : Int)) = xs[i]? := atI_nat xs i
theorem ix_tup (xs : List P) (i : Nat) : ixP (.tup xs) (.int (i : Int)) = xs[i]? := atI_nat xs i
end Ev

set_option Elab.async false
set_option linter.all false
set_option maxRecDepth 100000
set_option maxHeartbeats 4000000
/-! printed by gen.py: law_k00_errors over the Ev layer. -/
namespace Lw
open PySem PySem.Spec PyProof.Rows L2 Ev
abbrev R : PySem.W.OpenRow := PySem.W.OpenLaw.row PySem.Challenge.rw_queuerings_k00_errors
def top (i : Nat) : Stmt := PySem.Challenge.pw_queuerings_k00_errors.main.body.getD i (.Pass ⟨0, 0, 0, 0⟩)
abbrev df_law_take : He.DefD := ⟨("_law_take", none), "_law_take", "_law_take", defArgs (top 31), defBody (top 31), defScope (top 31), [], []⟩
abbrev df_law_of : He.DefD := ⟨("_law_of", none), "_law_of", "_law_of", defArgs (top 32), defBody (top 32), defScope (top 32), [], []⟩
abbrev df_law_odd : He.DefD := ⟨("_law_odd", none), "_law_odd", "_law_odd", defArgs (top 34), defBody (top 34), defScope (top 34), [], []⟩
abbrev df_law_bent : He.DefD := ⟨("_law_bent", none), "_law_bent", "_law_bent", defArgs (top 35), defBody (top 35), defScope (top 35), [], []⟩
abbrev df_law_all : He.DefD := ⟨("_law_all", none), "_law_all", "_law_all", defArgs (top 36), defBody (top 36), defScope (top 36), [], []⟩
abbrev df_law_marks : He.DefD := ⟨("_law_marks", none), "_law_marks", "_law_marks", defArgs (top 37), defBody (top 37), defScope (top 37), [], []⟩
abbrev df_law_right : He.DefD := ⟨("_law_right", none), "_law_right", "_law_right", defArgs (top 38), defBody (top 38), defScope (top 38), [], []⟩
abbrev df_law_pot : He.DefD := ⟨("_law_pot", none), "_law_pot", "_law_pot", defArgs (top 30), defBody (top 30), defScope (top 30), [], []⟩
abbrev df_law_cells : He.DefD := ⟨("_law_cells", none), "_law_cells", "_law_cells", defArgs (top 33), defBody (top 33), defScope (top 33), [], []⟩
abbrev df_law : He.DefD := ⟨("law", none), "law", "law", defArgs (top 39), defBody (top 39), defScope (top 39), [], []⟩
def fns : List He.DefD := [df_law_take, df_law_of, df_law_odd, df_law_bent, df_law_all, df_law_marks, df_law_right, df_law_pot, df_law_cells, df_law]
def frees : List Str := ["ValueError", "abs", "all", "bool", "enumerate", "int", "isinstance", "len", "list", "max", "min", "range", "repr", "str", "super", "tuple"]
def gn0 : List Str := ["_law_take", "_law_of", "_law_odd", "_law_bent", "_law_all", "_law_marks", "_law_right", "_law_pot", "_law_cells", "law"]
def gn1 : List Str := ["RingError", "BadBook", "NoPerson", "NoThing", "BadChoice", "BadRow", "Round", "Full", "NoSaying", "OtherPeople"]
def gn2 : List Str := ["BadPairs", "NoOrder", "BadTelling", "BadThings", "OtherBook", "NotSure", "TooManyOpen", "NotAllBrought", "TooManyPeople", "BadName"]
def gn3 : List Str := ["Crowded", "NoneSure", "Waits", "NothingToUndo", "NothingToRedo", "NoTrial", "BadJournal", "BadLine"]
def gnames : List Str := gn0 ++ gn1 ++ gn2 ++ gn3
abbrev exL : List Nat := [0, 1, 2, 3, 4, 5, 6, 7, 8, 9, 10, 11, 12, 13, 14, 15, 16, 17, 18, 19, 20, 21, 22, 23, 24, 25, 26, 27]
abbrev Facts (P : Program) (w : World) (K : PySem.W.Frag) (mg : Str → Option Value) (T : Tb) : Prop := FactsG P w K mg T fns frees gnames exL
section
variable {P : Program} {w : World} {K : PySem.W.Frag} {mg : Str → Option Value} {T : Tb} {base : Heap}
/-! ### law_take -/
abbrev st_law_take : Stmt := top 31
theorem sc_law_take : FnScope ["_law_pot_here", "_law_upto", "_law_prime", "_law_mixed", "_law_digit"] ["_law_pot_here", "_law_upto"] (defScope st_law_take) := ⟨rfl, rfl, rfl, by decide +kernel, rfl, by decide +kernel, by decide +kernel⟩
def b_law_take : DS := (dSeq (dSIf (dTst (dOp gGt (dOp ixP (dVar 0) (dC (.int 0))) (dC (.int 0)))) (dSeq (dAsg (dOp gMod (dFn gInt (dCons (dOp ixP (dVar 0) (dC (.int 0))) dNil)) (dVar 1)) (tName 4))
  (dSeq (dSet (dOp gDiv (dOp ixP (dVar 0) (dC (.int 0))) (dVar 1)) (dVar 0) (dC (.int 0)))
  (dRet (dVar 4)))) dNx)
  (dSeq (dSet (dOp gAdd (dOp ixP (dVar 0) (dC (.int 2))) (dC (.int 1))) (dVar 0) (dC (.int 2)))
  (dSeq (dAsg (dOp ixP (dVal (dNew (mkL (dCons (dC (.int 2147483647)) (dCons (dC (.int 2147483629)) (dCons (dC (.int 2147483587)) (dCons (dC (.int 2147483579)) (dCons (dC (.int 2147483563)) dNil)))))))) (dOp gMod (dFn gInt (dCons (dOp ixP (dVar 0) (dC (.int 2))) dNil)) (dC (.int 5)))) (tName 2))
  (dSeq (dAsg (dOp gMod (dFn gInt (dCons (dOp gPow (dFn gInt (dCons (dOp gAdd (dOp gAdd (dOp ixP (dVar 0) (dC (.int 1))) (dOp gMul (dOp gMul (dC (.int 99701)) (dOp ixP (dVar 0) (dC (.int 2)))) (dOp ixP (dVar 0) (dC (.int 2))))) (dC (.int 59))) dNil)) (dC (.int 3))) dNil)) (dVar 2)) (tName 3))
  (dSeq (dAsg (dOp gMod (dFn gInt (dCons (dOp gMul (dVar 3) (dOp gAdd (dOp gMod (dFn gInt (dCons (dVar 3) dNil)) (dC (.int 10429))) (dOp gMul (dC (.int 103)) (dOp ixP (dVar 0) (dC (.int 2)))))) dNil)) (dC (.int 2305843009213693907))) (tName 3))
  (dRet (dOp gMod (dFn gInt (dCons (dOp gDiv (dVar 3) (dC (.int 143))) dNil)) (dVar 1))))))))
def d_law_take : DF := dDef 5 b_law_take
theorem ok_law_take (Fc : Facts P w K mg T) : Has P w K mg base T "_law_take" ["_law_pot_here", "_law_upto"] 2 d_law_take := by
  obtain ⟨fd, F⟩ := Fc.df 0 (d := df_law_take) rfl rfl rfl
  refine ⟨fd, F.kp, (F.bindsN fun _ _ _ _ _ _ us hl => match us, hl with | [_, _], _ => rfl), def_ok (k := 1) F sc_law_take fun cdv A out s H E hr => ?_⟩
  have nd := sc_law_take.nd
  have tk := takes_cx (P := P) (w := w) (K := K) (mg := mg) (base := base) (N := ["_law_pot_here", "_law_upto", "_law_prime", "_law_mixed", "_law_digit"]) (qual := "_law_take") (scope := defScope st_law_take) (f := He.ga K "_law_take") (cd := cdv) (A := A) (outer := out) (s := s) (H := H) (E := E)
  have own := owns_cx (P := P) (w := w) (K := K) (mg := mg) (base := base) (N := ["_law_pot_here", "_law_upto", "_law_prime", "_law_mixed", "_law_digit"]) (qual := "_law_take") (scope := defScope st_law_take) (f := He.ga K "_law_take") (cd := cdv) (A := A) (outer := out) (s := s) (H := H) (E := E)
  exact (ss_cons (s_if (t_cmp op_gtA gOrd_ok (e_ix Fc.hK hr.u1 (e_var 0) e_int plainIx) e_int rfl) (ss_cons (s_set (i := 4) nd rfl loc (e_op op_mod gMod_ok (e_fnT cr_int ok_int rfl (Fc.fr 5 rfl) boot_int (a_cons (e_ix Fc.hK hr.u1 (e_var 0) e_int plainIx) a_nil)) (e_var 1)))
  (ss_cons (s_setI hr.u1 (e_op op_fdivW gDiv_ok (e_ix Fc.hK hr.u1 (e_var 0) e_int plainIx) (e_var 1)) (e_var 0) e_int)
  (ss_one (s_ret (e_var 4))))) ss_nil)
  (ss_cons (s_setI hr.u1 (e_op op_addAll (gAdd_ok Fc.hK) (e_ix Fc.hK hr.u1 (e_var 0) e_int plainIx) e_int) (e_var 0) e_int)
  (ss_cons (s_set (i := 2) nd rfl loc (e_ix Fc.hK hr.u1 (e_val (e_lstN (a_cons e_int (a_cons e_int (a_cons e_int (a_cons e_int (a_cons e_int a_nil))))))) (e_op op_mod gMod_ok (e_fnT cr_int ok_int rfl (Fc.fr 5 rfl) boot_int (a_cons (e_ix Fc.hK hr.u1 (e_var 0) e_int plainIx) a_nil)) e_int) plainIx))
  (ss_cons (s_set (i := 3) nd rfl loc (e_op op_mod gMod_ok (e_fnT cr_int ok_int rfl (Fc.fr 5 rfl) boot_int (a_cons (e_op op_powW gPow_ok (e_fnT cr_int ok_int rfl (Fc.fr 5 rfl) boot_int (a_cons (e_op op_addAll (gAdd_ok Fc.hK) (e_op op_addAll (gAdd_ok Fc.hK) (e_ix Fc.hK hr.u1 (e_var 0) e_int plainIx) (e_op op_mulW gMul_ok (e_op op_mulW gMul_ok e_int (e_ix Fc.hK hr.u1 (e_var 0) e_int plainIx)) (e_ix Fc.hK hr.u1 (e_var 0) e_int plainIx))) e_int) a_nil)) e_int) a_nil)) (e_var 2)))
  (ss_cons (s_set (i := 3) nd rfl loc (e_op op_mod gMod_ok (e_fnT cr_int ok_int rfl (Fc.fr 5 rfl) boot_int (a_cons (e_op op_mulW gMul_ok (e_var 3) (e_op op_addAll (gAdd_ok Fc.hK) (e_op op_mod gMod_ok (e_fnT cr_int ok_int rfl (Fc.fr 5 rfl) boot_int (a_cons (e_var 3) a_nil)) e_int) (e_op op_mulW gMul_ok e_int (e_ix Fc.hK hr.u1 (e_var 0) e_int plainIx)))) a_nil)) e_int))
  (ss_one (s_ret (e_op op_mod gMod_ok (e_fnT cr_int ok_int rfl (Fc.fr 5 rfl) boot_int (a_cons (e_op op_fdivW gDiv_ok (e_var 3) e_int) a_nil)) (e_var 1)))))))))
/-! ### law_of -/
abbrev st_law_of : Stmt := top 32
theorem sc_law_of : FnScope ["_law_pot_here", "_law_some"] ["_law_pot_here", "_law_some"] (defScope st_law_of) := ⟨rfl, rfl, rfl, by decide +kernel, rfl, by decide +kernel, by decide +kernel⟩
def b_law_of : DS := (dRet (dOp ixP (dVar 1) (dCall 2 d_law_take (dCons (dVar 0) (dCons (dFn gLen (dCons (dVar 1) dNil)) dNil)))))
def d_law_of : DF := dDef 2 b_law_of
theorem ok_law_of (Fc : Facts P w K mg T) (h_law_take : Has P w K mg base T "_law_take" ["_law_pot_here", "_law_upto"] 2 d_law_take) : Has P w K mg base T "_law_of" ["_law_pot_here", "_law_some"] 3 d_law_of := by
  obtain ⟨fd, F⟩ := Fc.df 1 (d := df_law_of) rfl rfl rfl
  refine ⟨fd, F.kp, (F.bindsN fun _ _ _ _ _ _ us hl => match us, hl with | [_, _], _ => rfl), def_ok (k := 2) F sc_law_of fun cdv A out s H E hr => ?_⟩
  have nd := sc_law_of.nd
  have tk := takes_cx (P := P) (w := w) (K := K) (mg := mg) (base := base) (N := ["_law_pot_here", "_law_some"]) (qual := "_law_of") (scope := defScope st_law_of) (f := He.ga K "_law_of") (cd := cdv) (A := A) (outer := out) (s := s) (H := H) (E := E)
  have own := owns_cx (P := P) (w := w) (K := K) (mg := mg) (base := base) (N := ["_law_pot_here", "_law_some"]) (qual := "_law_of") (scope := defScope st_law_of) (f := He.ga K "_law_of") (cd := cdv) (A := A) (outer := out) (s := s) (H := H) (E := E)
  exact (ss_one (s_ret (e_ix Fc.hK hr.u1 (e_var 1) (e_callH tk h_law_take (hr.mono (by decide)) rfl (Fc.gl 0 rfl) (a_cons (e_var 0) (a_cons (e_fnB cr_len (ok_len Fc.hK) rfl (Fc.fr 7 rfl) boot_len (a_cons (e_var 1) a_nil)) a_nil))) plainIx)))
/-! ### law_odd -/
abbrev st_law_odd : Stmt := top 34
theorem sc_law_odd : FnScope ["_law_pot_here", "_law_some"] ["_law_pot_here"] (defScope st_law_odd) := ⟨rfl, rfl, rfl, by decide +kernel, rfl, by decide +kernel, by decide +kernel⟩
def b_law_odd : DS := (dSeq (dAsg (dVal (dNew (mkL (dCons (dC .non) (dCons (dC (.bl true)) (dCons (dC (.bl false)) (dCons (dC (.int 0)) (dCons (dC (.int 1)) (dCons (dNeg (dC (.int 1))) (dCons (dOp gPow (dC (.int 10)) (dC (.int 8))) (dCons (dC (.str "")) (dCons (dC (.str "a")) (dCons (dC (.str "queue")) (dCons (dC (.str "people")) (dCons (dTup dNil) (dCons (dVal (dNew (mkL dNil))) (dCons (dVal dDct0) (dCons (dTup (dCons (dTup dNil) dNil)) (dCons (dTup (dCons (dC (.int 0)) dNil)) (dCons (dTup (dCons (dC (.str "")) dNil)) (dCons (dVal (dNew (mkL (dCons (dC (.int 0)) dNil)))) dNil))))))))))))))))))))) (tName 1))
  (dRet (dCall 2 d_law_of (dCons (dVar 0) (dCons (dOp gAdd (dVar 1) (dVal (dNew (mkL (dCons (dTup (dCons (dC (.str "a")) (dCons (dC (.str "b")) dNil))) (dCons (dTup (dCons (dC (.str "a")) (dCons (dC (.str "")) (dCons (dC (.str "b")) dNil)))) (dCons (dTup (dCons (dTup (dCons (dC (.str "a")) (dCons (dC (.str "b")) dNil))) dNil)) (dCons (dTup (dCons (dC (.str "sure")) dNil)) (dCons (dC (.str "trade")) dNil))))))))) dNil)))))
def d_law_odd : DF := dDef 2 b_law_odd
theorem ok_law_odd (Fc : Facts P w K mg T) (h_law_of : Has P w K mg base T "_law_of" ["_law_pot_here", "_law_some"] 3 d_law_of) : Has P w K mg base T "_law_odd" ["_law_pot_here"] 4 d_law_odd := by
  obtain ⟨fd, F⟩ := Fc.df 2 (d := df_law_odd) rfl rfl rfl
  refine ⟨fd, F.kp, (F.bindsN fun _ _ _ _ _ _ us hl => match us, hl with | [_], _ => rfl), def_ok (k := 3) F sc_law_odd fun cdv A out s H E hr => ?_⟩
  have nd := sc_law_odd.nd
  have tk := takes_cx (P := P) (w := w) (K := K) (mg := mg) (base := base) (N := ["_law_pot_here", "_law_some"]) (qual := "_law_odd") (scope := defScope st_law_odd) (f := He.ga K "_law_odd") (cd := cdv) (A := A) (outer := out) (s := s) (H := H) (E := E)
  have own := owns_cx (P := P) (w := w) (K := K) (mg := mg) (base := base) (N := ["_law_pot_here", "_law_some"]) (qual := "_law_odd") (scope := defScope st_law_odd) (f := He.ga K "_law_odd") (cd := cdv) (A := A) (outer := out) (s := s) (H := H) (E := E)
  exact (ss_cons (s_set (i := 1) nd rfl loc (e_val (e_lstN (a_cons e_non (a_cons e_bl (a_cons e_bl (a_cons e_int (a_cons e_int (a_cons (e_neg e_int) (a_cons (e_op op_powW gPow_ok e_int e_int) (a_cons e_str (a_cons e_str (a_cons e_str (a_cons e_str (a_cons (e_tup a_nil) (a_cons (e_val (e_lstN a_nil)) (a_cons (e_val e_dct0) (a_cons (e_tup (a_cons (e_tup a_nil) a_nil)) (a_cons (e_tup (a_cons e_int a_nil)) (a_cons (e_tup (a_cons e_str a_nil)) (a_cons (e_val (e_lstN (a_cons e_int a_nil))) a_nil)))))))))))))))))))))
  (ss_one (s_ret (e_callH tk h_law_of (hr.mono (by decide)) rfl (Fc.gl 1 rfl) (a_cons (e_var 0) (a_cons (e_op op_addAll (gAdd_ok Fc.hK) (e_var 1) (e_val (e_lstN (a_cons (e_tup (a_cons e_str (a_cons e_str a_nil))) (a_cons (e_tup (a_cons e_str (a_cons e_str (a_cons e_str a_nil)))) (a_cons (e_tup (a_cons (e_tup (a_cons e_str (a_cons e_str a_nil))) a_nil)) (a_cons (e_tup (a_cons e_str a_nil)) (a_cons e_str a_nil)))))))) a_nil))))))
/-! ### law_bent -/
abbrev st_law_bent : Stmt := top 35
theorem sc_law_bent : FnScope ["_law_pot_here", "_law_value", "_law_at", "_law_some"] ["_law_pot_here", "_law_value"] (defScope st_law_bent) := ⟨rfl, rfl, rfl, by decide +kernel, rfl, by decide +kernel, by decide +kernel⟩
def b_law_bent (self : DF) : DS := (dSeq (dSIf (dAnd (dTst (dFn (gIsi (isJ exL) [] exL) (dCons (dVar 1) (dCons (dC (.ty "tuple")) dNil)))) (dAnd (dTst (dOp gNe (dVar 1) (dTup dNil))) (dTst (dOp gGt (dCall 2 d_law_take (dCons (dVar 0) (dCons (dC (.int 6)) dNil))) (dC (.int 0)))))) (dSeq (dAsg (dCall 2 d_law_take (dCons (dVar 0) (dCons (dFn gLen (dCons (dVar 1) dNil)) dNil))) (tName 2))
  (dRet (dOp gAdd (dOp gAdd (dSl (dVar 1) dNoP (dPart (dVar 2))) (dTup (dCons (dCall 2 self (dCons (dVar 0) (dCons (dOp ixP (dVar 1) (dVar 2)) dNil))) dNil))) (dSl (dVar 1) (dPart (dOp gAdd (dVar 2) (dC (.int 1)))) dNoP)))) dNx)
  (dSeq (dSIf (dTst (dFn (gIsi (isJ exL) [] exL) (dCons (dVar 1) (dCons (dC (.ty "tuple")) dNil)))) (dSeq (dAsg (dVal (dNew (mkL (dCons (dVal (dFnN gListN (dCons (dVar 1) dNil))) (dCons (dSl (dVar 1) (dPart (dC (.int 1))) dNoP) (dCons (dSl (dVar 1) dNoP (dPart (dNeg (dC (.int 1))))) (dCons (dOp gAdd (dVar 1) (dSl (dVar 1) (dPart (dNeg (dC (.int 1)))) dNoP)) (dCons (dRev (dVar 1)) (dCons (dTup dNil) (dCons (dC .non) (dCons (dOp gAdd (dVar 1) (dTup (dCons (dC (.str "")) dNil))) dNil))))))))))) (tName 3))
  (dRet (dCall 2 d_law_of (dCons (dVar 0) (dCons (dVar 3) dNil))))) dNx)
  (dSeq (dSIf (dTst (dFn (gIsi (isJ exL) [] exL) (dCons (dVar 1) (dCons (dC (.ty "str")) dNil)))) (dRet (dCall 2 d_law_of (dCons (dVar 0) (dCons (dVal (dNew (mkL (dCons (dOp gAdd (dVar 1) (dC (.str "x"))) (dCons (dSl (dVar 1) dNoP (dPart (dNeg (dC (.int 1))))) (dCons (dStr0 gUpper (dVar 1)) (dCons (dC (.str "")) (dCons (dC (.str "queue")) (dCons (dVal (dNew (mkL (dCons (dVar 1) dNil)))) (dCons (dC .non) (dCons (dC (.int 0)) (dCons (dC (.str "a")) dNil)))))))))))) dNil)))) dNx)
  (dSeq (dSIf (dTst (dFn (gIsi (isJ exL) [] exL) (dCons (dVar 1) (dCons (dC (.ty "bool")) dNil)))) (dRet (dCall 2 d_law_of (dCons (dVar 0) (dCons (dVal (dNew (mkL (dCons (dNotV (dVar 1)) (dCons (dFn gInt (dCons (dVar 1) dNil)) (dCons (dC .non) dNil)))))) dNil)))) dNx)
  (dSeq (dSIf (dTst (dFn (gIsi (isJ exL) [] exL) (dCons (dVar 1) (dCons (dC (.ty "int")) dNil)))) (dRet (dCall 2 d_law_of (dCons (dVar 0) (dCons (dVal (dNew (mkL (dCons (dOp gAdd (dVar 1) (dC (.int 1))) (dCons (dOp gSub (dVar 1) (dC (.int 1))) (dCons (dNeg (dVar 1)) (dCons (dFn gStr (dCons (dVar 1) dNil)) (dCons (dC .non) (dCons (dOp gEq (dVar 1) (dC (.int 1))) dNil))))))))) dNil)))) dNx)
  (dRet (dCall 1 d_law_odd (dCons (dVar 0) dNil))))))))
def d_law_bent_ : Nat → DF
  | 0 => fun _ _ => .bad
  | k + 1 => dDef 4 (b_law_bent (d_law_bent_ k))
theorem okr_law_bent (Fc : Facts P w K mg T) (h_law_take : Has P w K mg base T "_law_take" ["_law_pot_here", "_law_upto"] 2 d_law_take) (h_law_of : Has P w K mg base T "_law_of" ["_law_pot_here", "_law_some"] 3 d_law_of) (h_law_odd : Has P w K mg base T "_law_odd" ["_law_pot_here"] 4 d_law_odd) : ∀ k : Nat, Has P w K mg base T "_law_bent" ["_law_pot_here", "_law_value"] (k + 5) (d_law_bent_ k)
  | 0 => by
    obtain ⟨fd, F⟩ := Fc.df 3 (d := df_law_bent) rfl rfl rfl
    exact ⟨fd, F.kp, (F.bindsN fun _ _ _ _ _ _ us hl => match us, hl with | [_, _], _ => rfl), FnG.bad⟩
  | k + 1 => by
    have self := okr_law_bent Fc h_law_take h_law_of h_law_odd k
    obtain ⟨fd, F⟩ := Fc.df 3 (d := df_law_bent) rfl rfl rfl
    refine ⟨fd, F.kp, (F.bindsN fun _ _ _ _ _ _ us hl => match us, hl with | [_, _], _ => rfl), def_ok (k := k + 5) F sc_law_bent fun cdv A out s H E hr0 => ?_⟩
    have hr : RmG 5 _ := hr0.mono (Nat.le_add_left _ _)
    have nd := sc_law_bent.nd
    have tk := takes_cx (P := P) (w := w) (K := K) (mg := mg) (base := base) (N := ["_law_pot_here", "_law_value", "_law_at", "_law_some"]) (qual := "_law_bent") (scope := defScope st_law_bent) (f := He.ga K "_law_bent") (cd := cdv) (A := A) (outer := out) (s := s) (H := H) (E := E)
    have own := owns_cx (P := P) (w := w) (K := K) (mg := mg) (base := base) (N := ["_law_pot_here", "_law_value", "_law_at", "_law_some"]) (qual := "_law_bent") (scope := defScope st_law_bent) (f := He.ga K "_law_bent") (cd := cdv) (A := A) (outer := out) (s := s) (H := H) (E := E)
    exact (ss_cons (s_if (PW.pt (t_and (t_val (e_fnB cr_isA (ok_isi Fc.hK Fc.tyF Fc.isJ) rfl (Fc.fr 6 rfl) boot_isinstance (a_cons (e_var 1) (a_cons (e_bltn (v := .ty "tuple") rfl (Fc.fr 15 rfl) boot_tuple rfl fun _ => .ty _) a_nil)))) (t_and (t_cmp (op_neD hr.u64) (gNe_ok Fc.hK) (e_var 1) (e_tup a_nil) rfl) (w_and1 (t_cmp op_gtA gOrd_ok (e_callH tk h_law_take (hr.mono (by decide)) rfl (Fc.gl 0 rfl) (a_cons (e_var 0) (a_cons e_int a_nil))) e_int rfl))))) (ss_cons (s_set (i := 2) nd rfl loc (e_callH tk h_law_take (hr.mono (by decide)) rfl (Fc.gl 0 rfl) (a_cons (e_var 0) (a_cons (e_fnB cr_len (ok_len Fc.hK) rfl (Fc.fr 7 rfl) boot_len (a_cons (e_var 1) a_nil)) a_nil))))
  (ss_one (s_ret (e_op op_addAll (gAdd_ok Fc.hK) (e_op op_addAll (gAdd_ok Fc.hK) (e_slice Fc.hK (e_var 1) o_none (o_some (e_var 2))) (e_tup (a_cons (e_callH tk self hr0 rfl (Fc.gl 3 rfl) (a_cons (e_var 0) (a_cons (e_ix Fc.hK hr.u1 (e_var 1) (e_var 2) plainIx) a_nil))) a_nil))) (e_slice Fc.hK (e_var 1) (o_some (e_op op_addAll (gAdd_ok Fc.hK) (e_var 2) e_int)) o_none))))) ss_nil)
  (ss_cons (s_if (t_val (e_fnB cr_isA (ok_isi Fc.hK Fc.tyF Fc.isJ) rfl (Fc.fr 6 rfl) boot_isinstance (a_cons (e_var 1) (a_cons (e_bltn (v := .ty "tuple") rfl (Fc.fr 15 rfl) boot_tuple rfl fun _ => .ty _) a_nil)))) (ss_cons (s_set (i := 3) nd rfl loc (e_val (e_lstN (a_cons (e_val (e_fnTN call_list_of (ok_listN Fc.hK) rfl (Fc.fr 8 rfl) boot_list (a_cons (e_var 1) a_nil))) (a_cons (e_slice Fc.hK (e_var 1) (o_some e_int) o_none) (a_cons (e_slice Fc.hK (e_var 1) o_none (o_some (e_neg e_int))) (a_cons (e_op op_addAll (gAdd_ok Fc.hK) (e_var 1) (e_slice Fc.hK (e_var 1) (o_some (e_neg e_int)) o_none)) (a_cons (e_rev Fc.hK (e_var 1)) (a_cons (e_tup a_nil) (a_cons e_non (a_cons (e_op op_addAll (gAdd_ok Fc.hK) (e_var 1) (e_tup (a_cons e_str a_nil))) a_nil)))))))))))
  (ss_one (s_ret (e_callH tk h_law_of (hr.mono (by decide)) rfl (Fc.gl 1 rfl) (a_cons (e_var 0) (a_cons (e_var 3) a_nil)))))) ss_nil)
  (ss_cons (s_if (t_val (e_fnB cr_isA (ok_isi Fc.hK Fc.tyF Fc.isJ) rfl (Fc.fr 6 rfl) boot_isinstance (a_cons (e_var 1) (a_cons (e_bltn (v := .ty "str") rfl (Fc.fr 13 rfl) boot_str rfl fun _ => .ty _) a_nil)))) (ss_one (s_ret (e_callH tk h_law_of (hr.mono (by decide)) rfl (Fc.gl 1 rfl) (a_cons (e_var 0) (a_cons (e_val (e_lstN (a_cons (e_op op_addAll (gAdd_ok Fc.hK) (e_var 1) e_str) (a_cons (e_slice Fc.hK (e_var 1) o_none (o_some (e_neg e_int))) (a_cons (e_upper (e_var 1)) (a_cons e_str (a_cons e_str (a_cons (e_val (e_lstN (a_cons (e_var 1) a_nil))) (a_cons e_non (a_cons e_int (a_cons e_str a_nil))))))))))) a_nil))))) ss_nil)
  (ss_cons (s_if (t_val (e_fnB cr_isA (ok_isi Fc.hK Fc.tyF Fc.isJ) rfl (Fc.fr 6 rfl) boot_isinstance (a_cons (e_var 1) (a_cons (e_bltn (v := .ty "bool") rfl (Fc.fr 3 rfl) boot_bool rfl fun _ => .ty _) a_nil)))) (ss_one (s_ret (e_callH tk h_law_of (hr.mono (by decide)) rfl (Fc.gl 1 rfl) (a_cons (e_var 0) (a_cons (e_val (e_lstN (a_cons (e_not (e_var 1)) (a_cons (e_fnT cr_int ok_int rfl (Fc.fr 5 rfl) boot_int (a_cons (e_var 1) a_nil)) (a_cons e_non a_nil))))) a_nil))))) ss_nil)
  (ss_cons (s_if (t_val (e_fnB cr_isA (ok_isi Fc.hK Fc.tyF Fc.isJ) rfl (Fc.fr 6 rfl) boot_isinstance (a_cons (e_var 1) (a_cons (e_bltn (v := .ty "int") rfl (Fc.fr 5 rfl) boot_int rfl fun _ => .ty _) a_nil)))) (ss_one (s_ret (e_callH tk h_law_of (hr.mono (by decide)) rfl (Fc.gl 1 rfl) (a_cons (e_var 0) (a_cons (e_val (e_lstN (a_cons (e_op op_addAll (gAdd_ok Fc.hK) (e_var 1) e_int) (a_cons (e_op op_sub gSub_ok (e_var 1) e_int) (a_cons (e_neg (e_var 1)) (a_cons (e_fnT cr_str ok_str rfl (Fc.fr 13 rfl) boot_str (a_cons (e_var 1) a_nil)) (a_cons e_non (a_cons (e_cmp (op_eqD hr.u64) (gEq_ok Fc.hK) (e_var 1) e_int rfl) a_nil)))))))) a_nil))))) ss_nil)
  (ss_one (s_ret (e_callH tk h_law_odd (hr.mono (by decide)) rfl (Fc.gl 2 rfl) (a_cons (e_var 0) a_nil)))))))))
def d_law_bent : DF := d_law_bent_ 12
theorem ok_law_bent (Fc : Facts P w K mg T) (h_law_take : Has P w K mg base T "_law_take" ["_law_pot_here", "_law_upto"] 2 d_law_take) (h_law_of : Has P w K mg base T "_law_of" ["_law_pot_here", "_law_some"] 3 d_law_of) (h_law_odd : Has P w K mg base T "_law_odd" ["_law_pot_here"] 4 d_law_odd) : Has P w K mg base T "_law_bent" ["_law_pot_here", "_law_value"] 17 d_law_bent := okr_law_bent Fc h_law_take h_law_of h_law_odd 12
/-! ### law_all -/
abbrev st_law_all : Stmt := top 36
theorem sc_law_all : FnScope ["_law_value", "_law_some"] ["_law_value"] (defScope st_law_all) := ⟨rfl, rfl, rfl, by decide +kernel, rfl, by decide +kernel, by decide +kernel⟩
def b_law_all : DS := (dSeq (dAsg (dNew (mkL (dCons (dExc 1 (dCons (dVar 0) dNil)) (dCons (dExc 2 (dCons (dVar 0) dNil)) (dCons (dExc 3 (dCons (dVar 0) dNil)) (dCons (dExc 4 (dCons (dVar 0) dNil)) (dCons (dExc 5 (dCons (dVar 0) dNil)) (dCons (dExc 6 (dCons (dVar 0) dNil)) dNil)))))))) (tName 1))
  (dSeq (dExp (dMut gExtend (dVar 1) (dCons (dVal (dNew (mkL (dCons (dExc 7 (dCons (dVar 0) dNil)) (dCons (dExc 8 (dCons (dVar 0) dNil)) (dCons (dExc 9 (dCons (dVar 0) dNil)) (dCons (dExc 10 (dCons (dVar 0) dNil)) (dCons (dExc 11 (dCons (dVar 0) dNil)) (dCons (dExc 12 (dCons (dVar 0) dNil)) dNil))))))))) dNil)))
  (dSeq (dExp (dMut gExtend (dVar 1) (dCons (dVal (dNew (mkL (dCons (dExc 13 (dCons (dVar 0) dNil)) (dCons (dExc 14 (dCons (dVar 0) dNil)) (dCons (dExc 15 (dCons (dVar 0) dNil)) (dCons (dExc 16 (dCons (dVar 0) dNil)) (dCons (dExc 17 (dCons (dVar 0) dNil)) dNil)))))))) dNil)))
  (dSeq (dExp (dMut gExtend (dVar 1) (dCons (dVal (dNew (mkL (dCons (dExc 18 (dCons (dVar 0) dNil)) (dCons (dExc 19 (dCons (dVar 0) dNil)) (dCons (dExc 20 (dCons (dVar 0) dNil)) (dCons (dExc 21 (dCons (dVar 0) dNil)) (dCons (dExc 22 (dCons (dVar 0) dNil)) dNil)))))))) dNil)))
  (dSeq (dExp (dMut gExtend (dVar 1) (dCons (dVal (dNew (mkL (dCons (dExc 23 (dCons (dVar 0) dNil)) (dCons (dExc 24 (dCons (dVar 0) dNil)) (dCons (dExc 25 (dCons (dVar 0) dNil)) (dCons (dExc 26 (dCons (dVar 0) dNil)) (dCons (dExc 27 (dCons (dVar 0) dNil)) dNil)))))))) dNil)))
  (dRet (dVar 1)))))))
def d_law_all : DF := dDef 2 b_law_all
theorem ok_law_all (Fc : Facts P w K mg T) : Has P w K mg base T "_law_all" ["_law_value"] 2 d_law_all := by
  obtain ⟨fd, F⟩ := Fc.df 4 (d := df_law_all) rfl rfl rfl
  refine ⟨fd, F.kp, (F.bindsN fun _ _ _ _ _ _ us hl => match us, hl with | [_], _ => rfl), def_ok (k := 1) F sc_law_all fun cdv A out s H E hr => ?_⟩
  have nd := sc_law_all.nd
  have tk := takes_cx (P := P) (w := w) (K := K) (mg := mg) (base := base) (N := ["_law_value", "_law_some"]) (qual := "_law_all") (scope := defScope st_law_all) (f := He.ga K "_law_all") (cd := cdv) (A := A) (outer := out) (s := s) (H := H) (E := E)
  have own := owns_cx (P := P) (w := w) (K := K) (mg := mg) (base := base) (N := ["_law_value", "_law_some"]) (qual := "_law_all") (scope := defScope st_law_all) (f := He.ga K "_law_all") (cd := cdv) (A := A) (outer := out) (s := s) (H := H) (E := E)
  exact (ss_cons (s_set (i := 1) nd rfl loc (e_lstN (a_cons (e_exc Fc.rf (Fc.rc 1 (by decide)) (hr.mono (by decide)) rfl (Fc.clsM 11 1 rfl rfl) (a_cons (e_var 0) a_nil)) (a_cons (e_exc Fc.rf (Fc.rc 2 (by decide)) (hr.mono (by decide)) rfl (Fc.clsM 12 2 rfl rfl) (a_cons (e_var 0) a_nil)) (a_cons (e_exc Fc.rf (Fc.rc 3 (by decide)) (hr.mono (by decide)) rfl (Fc.clsM 13 3 rfl rfl) (a_cons (e_var 0) a_nil)) (a_cons (e_exc Fc.rf (Fc.rc 4 (by decide)) (hr.mono (by decide)) rfl (Fc.clsM 14 4 rfl rfl) (a_cons (e_var 0) a_nil)) (a_cons (e_exc Fc.rf (Fc.rc 5 (by decide)) (hr.mono (by decide)) rfl (Fc.clsM 15 5 rfl rfl) (a_cons (e_var 0) a_nil)) (a_cons (e_exc Fc.rf (Fc.rc 6 (by decide)) (hr.mono (by decide)) rfl (Fc.clsM 16 6 rfl rfl) (a_cons (e_var 0) a_nil)) a_nil))))))))
  (ss_cons (s_expr (e_mut mut_extend PySem.F.slot_list_extend PySem.F.type_list_extend mt_extR (e_var 1) (a_cons (e_val (e_lstN (a_cons (e_exc Fc.rf (Fc.rc 7 (by decide)) (hr.mono (by decide)) rfl (Fc.clsM 17 7 rfl rfl) (a_cons (e_var 0) a_nil)) (a_cons (e_exc Fc.rf (Fc.rc 8 (by decide)) (hr.mono (by decide)) rfl (Fc.clsM 18 8 rfl rfl) (a_cons (e_var 0) a_nil)) (a_cons (e_exc Fc.rf (Fc.rc 9 (by decide)) (hr.mono (by decide)) rfl (Fc.clsM 19 9 rfl rfl) (a_cons (e_var 0) a_nil)) (a_cons (e_exc Fc.rf (Fc.rc 10 (by decide)) (hr.mono (by decide)) rfl (Fc.clsM 20 10 rfl rfl) (a_cons (e_var 0) a_nil)) (a_cons (e_exc Fc.rf (Fc.rc 11 (by decide)) (hr.mono (by decide)) rfl (Fc.clsM 21 11 rfl rfl) (a_cons (e_var 0) a_nil)) (a_cons (e_exc Fc.rf (Fc.rc 12 (by decide)) (hr.mono (by decide)) rfl (Fc.clsM 22 12 rfl rfl) (a_cons (e_var 0) a_nil)) a_nil)))))))) a_nil)))
  (ss_cons (s_expr (e_mut mut_extend PySem.F.slot_list_extend PySem.F.type_list_extend mt_extR (e_var 1) (a_cons (e_val (e_lstN (a_cons (e_exc Fc.rf (Fc.rc 13 (by decide)) (hr.mono (by decide)) rfl (Fc.clsM 23 13 rfl rfl) (a_cons (e_var 0) a_nil)) (a_cons (e_exc Fc.rf (Fc.rc 14 (by decide)) (hr.mono (by decide)) rfl (Fc.clsM 24 14 rfl rfl) (a_cons (e_var 0) a_nil)) (a_cons (e_exc Fc.rf (Fc.rc 15 (by decide)) (hr.mono (by decide)) rfl (Fc.clsM 25 15 rfl rfl) (a_cons (e_var 0) a_nil)) (a_cons (e_exc Fc.rf (Fc.rc 16 (by decide)) (hr.mono (by decide)) rfl (Fc.clsM 26 16 rfl rfl) (a_cons (e_var 0) a_nil)) (a_cons (e_exc Fc.rf (Fc.rc 17 (by decide)) (hr.mono (by decide)) rfl (Fc.clsM 27 17 rfl rfl) (a_cons (e_var 0) a_nil)) a_nil))))))) a_nil)))
  (ss_cons (s_expr (e_mut mut_extend PySem.F.slot_list_extend PySem.F.type_list_extend mt_extR (e_var 1) (a_cons (e_val (e_lstN (a_cons (e_exc Fc.rf (Fc.rc 18 (by decide)) (hr.mono (by decide)) rfl (Fc.clsM 28 18 rfl rfl) (a_cons (e_var 0) a_nil)) (a_cons (e_exc Fc.rf (Fc.rc 19 (by decide)) (hr.mono (by decide)) rfl (Fc.clsM 29 19 rfl rfl) (a_cons (e_var 0) a_nil)) (a_cons (e_exc Fc.rf (Fc.rc 20 (by decide)) (hr.mono (by decide)) rfl (Fc.clsM 30 20 rfl rfl) (a_cons (e_var 0) a_nil)) (a_cons (e_exc Fc.rf (Fc.rc 21 (by decide)) (hr.mono (by decide)) rfl (Fc.clsM 31 21 rfl rfl) (a_cons (e_var 0) a_nil)) (a_cons (e_exc Fc.rf (Fc.rc 22 (by decide)) (hr.mono (by decide)) rfl (Fc.clsM 32 22 rfl rfl) (a_cons (e_var 0) a_nil)) a_nil))))))) a_nil)))
  (ss_cons (s_expr (e_mut mut_extend PySem.F.slot_list_extend PySem.F.type_list_extend mt_extR (e_var 1) (a_cons (e_val (e_lstN (a_cons (e_exc Fc.rf (Fc.rc 23 (by decide)) (hr.mono (by decide)) rfl (Fc.clsM 33 23 rfl rfl) (a_cons (e_var 0) a_nil)) (a_cons (e_exc Fc.rf (Fc.rc 24 (by decide)) (hr.mono (by decide)) rfl (Fc.clsM 34 24 rfl rfl) (a_cons (e_var 0) a_nil)) (a_cons (e_exc Fc.rf (Fc.rc 25 (by decide)) (hr.mono (by decide)) rfl (Fc.clsM 35 25 rfl rfl) (a_cons (e_var 0) a_nil)) (a_cons (e_exc Fc.rf (Fc.rc 26 (by decide)) (hr.mono (by decide)) rfl (Fc.clsM 36 26 rfl rfl) (a_cons (e_var 0) a_nil)) (a_cons (e_exc Fc.rf (Fc.rc 27 (by decide)) (hr.mono (by decide)) rfl (Fc.clsM 37 27 rfl rfl) (a_cons (e_var 0) a_nil)) a_nil))))))) a_nil)))
  (ss_one (s_ret (e_var 1))))))))
/-! ### law_marks -/
abbrev st_law_marks : Stmt := top 37
theorem sc_law_marks : FnScope ["_law_one", "_law_some"] ["_law_one"] (defScope st_law_marks) := ⟨rfl, rfl, rfl, by decide +kernel, rfl, by decide +kernel, by decide +kernel⟩
def b_law_marks : DS := (dSeq (dAsg (dNew (mkL (dCons (dFn (gIsi (isJ exL) [] exL) (dCons (dVar 0) (dCons (dC (.glb 1)) dNil))) (dCons (dFn (gIsi (isJ exL) [] exL) (dCons (dVar 0) (dCons (dC (.glb 2)) dNil))) (dCons (dFn (gIsi (isJ exL) [] exL) (dCons (dVar 0) (dCons (dC (.glb 3)) dNil))) (dCons (dFn (gIsi (isJ exL) [] exL) (dCons (dVar 0) (dCons (dC (.glb 4)) dNil))) dNil)))))) (tName 1))
  (dSeq (dExp (dMut gExtend (dVar 1) (dCons (dVal (dNew (mkL (dCons (dFn (gIsi (isJ exL) [] exL) (dCons (dVar 0) (dCons (dC (.glb 5)) dNil))) (dCons (dFn (gIsi (isJ exL) [] exL) (dCons (dVar 0) (dCons (dC (.glb 6)) dNil))) (dCons (dFn (gIsi (isJ exL) [] exL) (dCons (dVar 0) (dCons (dC (.glb 7)) dNil))) (dCons (dFn (gIsi (isJ exL) [] exL) (dCons (dVar 0) (dCons (dC (.glb 8)) dNil))) dNil))))))) dNil)))
  (dSeq (dExp (dMut gExtend (dVar 1) (dCons (dVal (dNew (mkL (dCons (dFn (gIsi (isJ exL) [] exL) (dCons (dVar 0) (dCons (dC (.glb 9)) dNil))) (dCons (dFn (gIsi (isJ exL) [] exL) (dCons (dVar 0) (dCons (dC (.glb 10)) dNil))) (dCons (dFn (gIsi (isJ exL) [] exL) (dCons (dVar 0) (dCons (dC (.glb 11)) dNil))) dNil)))))) dNil)))
  (dSeq (dExp (dMut gExtend (dVar 1) (dCons (dVal (dNew (mkL (dCons (dFn (gIsi (isJ exL) [] exL) (dCons (dVar 0) (dCons (dC (.glb 12)) dNil))) (dCons (dFn (gIsi (isJ exL) [] exL) (dCons (dVar 0) (dCons (dC (.glb 13)) dNil))) (dCons (dFn (gIsi (isJ exL) [] exL) (dCons (dVar 0) (dCons (dC (.glb 14)) dNil))) dNil)))))) dNil)))
  (dSeq (dExp (dMut gExtend (dVar 1) (dCons (dVal (dNew (mkL (dCons (dFn (gIsi (isJ exL) [] exL) (dCons (dVar 0) (dCons (dC (.glb 15)) dNil))) (dCons (dFn (gIsi (isJ exL) [] exL) (dCons (dVar 0) (dCons (dC (.glb 16)) dNil))) (dCons (dFn (gIsi (isJ exL) [] exL) (dCons (dVar 0) (dCons (dC (.glb 17)) dNil))) dNil)))))) dNil)))
  (dSeq (dExp (dMut gExtend (dVar 1) (dCons (dVal (dNew (mkL (dCons (dFn (gIsi (isJ exL) [] exL) (dCons (dVar 0) (dCons (dC (.glb 18)) dNil))) (dCons (dFn (gIsi (isJ exL) [] exL) (dCons (dVar 0) (dCons (dC (.glb 19)) dNil))) (dCons (dFn (gIsi (isJ exL) [] exL) (dCons (dVar 0) (dCons (dC (.glb 20)) dNil))) dNil)))))) dNil)))
  (dSeq (dExp (dMut gExtend (dVar 1) (dCons (dVal (dNew (mkL (dCons (dFn (gIsi (isJ exL) [] exL) (dCons (dVar 0) (dCons (dC (.glb 21)) dNil))) (dCons (dFn (gIsi (isJ exL) [] exL) (dCons (dVar 0) (dCons (dC (.glb 22)) dNil))) (dCons (dFn (gIsi (isJ exL) [] exL) (dCons (dVar 0) (dCons (dC (.glb 23)) dNil))) dNil)))))) dNil)))
  (dSeq (dExp (dMut gExtend (dVar 1) (dCons (dVal (dNew (mkL (dCons (dFn (gIsi (isJ exL) [] exL) (dCons (dVar 0) (dCons (dC (.glb 24)) dNil))) (dCons (dFn (gIsi (isJ exL) [] exL) (dCons (dVar 0) (dCons (dC (.glb 25)) dNil))) (dCons (dFn (gIsi (isJ exL) [] exL) (dCons (dVar 0) (dCons (dC (.glb 26)) dNil))) dNil)))))) dNil)))
  (dRet (dOp gAdd (dVar 1) (dVal (dNew (mkL (dCons (dFn (gIsi (isJ exL) [] exL) (dCons (dVar 0) (dCons (dC (.glb 27)) dNil))) dNil))))))))))))))
def d_law_marks : DF := dDef 2 b_law_marks
theorem ok_law_marks (Fc : Facts P w K mg T) : Has P w K mg base T "_law_marks" ["_law_one"] 2 d_law_marks := by
  obtain ⟨fd, F⟩ := Fc.df 5 (d := df_law_marks) rfl rfl rfl
  refine ⟨fd, F.kp, (F.bindsN fun _ _ _ _ _ _ us hl => match us, hl with | [_], _ => rfl), def_ok (k := 1) F sc_law_marks fun cdv A out s H E hr => ?_⟩
  have nd := sc_law_marks.nd
  have tk := takes_cx (P := P) (w := w) (K := K) (mg := mg) (base := base) (N := ["_law_one", "_law_some"]) (qual := "_law_marks") (scope := defScope st_law_marks) (f := He.ga K "_law_marks") (cd := cdv) (A := A) (outer := out) (s := s) (H := H) (E := E)
  have own := owns_cx (P := P) (w := w) (K := K) (mg := mg) (base := base) (N := ["_law_one", "_law_some"]) (qual := "_law_marks") (scope := defScope st_law_marks) (f := He.ga K "_law_marks") (cd := cdv) (A := A) (outer := out) (s := s) (H := H) (E := E)
  exact (ss_cons (s_set (i := 1) nd rfl loc (e_lstN (a_cons (e_fnB cr_isA (ok_isi Fc.hK Fc.tyF Fc.isJ) rfl (Fc.fr 6 rfl) boot_isinstance (a_cons (e_var 0) (a_cons (Fc.e_cls 11 1 rfl rfl) a_nil))) (a_cons (e_fnB cr_isA (ok_isi Fc.hK Fc.tyF Fc.isJ) rfl (Fc.fr 6 rfl) boot_isinstance (a_cons (e_var 0) (a_cons (Fc.e_cls 12 2 rfl rfl) a_nil))) (a_cons (e_fnB cr_isA (ok_isi Fc.hK Fc.tyF Fc.isJ) rfl (Fc.fr 6 rfl) boot_isinstance (a_cons (e_var 0) (a_cons (Fc.e_cls 13 3 rfl rfl) a_nil))) (a_cons (e_fnB cr_isA (ok_isi Fc.hK Fc.tyF Fc.isJ) rfl (Fc.fr 6 rfl) boot_isinstance (a_cons (e_var 0) (a_cons (Fc.e_cls 14 4 rfl rfl) a_nil))) a_nil))))))
  (ss_cons (s_expr (e_mut mut_extend PySem.F.slot_list_extend PySem.F.type_list_extend mt_extR (e_var 1) (a_cons (e_val (e_lstN (a_cons (e_fnB cr_isA (ok_isi Fc.hK Fc.tyF Fc.isJ) rfl (Fc.fr 6 rfl) boot_isinstance (a_cons (e_var 0) (a_cons (Fc.e_cls 15 5 rfl rfl) a_nil))) (a_cons (e_fnB cr_isA (ok_isi Fc.hK Fc.tyF Fc.isJ) rfl (Fc.fr 6 rfl) boot_isinstance (a_cons (e_var 0) (a_cons (Fc.e_cls 16 6 rfl rfl) a_nil))) (a_cons (e_fnB cr_isA (ok_isi Fc.hK Fc.tyF Fc.isJ) rfl (Fc.fr 6 rfl) boot_isinstance (a_cons (e_var 0) (a_cons (Fc.e_cls 17 7 rfl rfl) a_nil))) (a_cons (e_fnB cr_isA (ok_isi Fc.hK Fc.tyF Fc.isJ) rfl (Fc.fr 6 rfl) boot_isinstance (a_cons (e_var 0) (a_cons (Fc.e_cls 18 8 rfl rfl) a_nil))) a_nil)))))) a_nil)))
  (ss_cons (s_expr (e_mut mut_extend PySem.F.slot_list_extend PySem.F.type_list_extend mt_extR (e_var 1) (a_cons (e_val (e_lstN (a_cons (e_fnB cr_isA (ok_isi Fc.hK Fc.tyF Fc.isJ) rfl (Fc.fr 6 rfl) boot_isinstance (a_cons (e_var 0) (a_cons (Fc.e_cls 19 9 rfl rfl) a_nil))) (a_cons (e_fnB cr_isA (ok_isi Fc.hK Fc.tyF Fc.isJ) rfl (Fc.fr 6 rfl) boot_isinstance (a_cons (e_var 0) (a_cons (Fc.e_cls 20 10 rfl rfl) a_nil))) (a_cons (e_fnB cr_isA (ok_isi Fc.hK Fc.tyF Fc.isJ) rfl (Fc.fr 6 rfl) boot_isinstance (a_cons (e_var 0) (a_cons (Fc.e_cls 21 11 rfl rfl) a_nil))) a_nil))))) a_nil)))
  (ss_cons (s_expr (e_mut mut_extend PySem.F.slot_list_extend PySem.F.type_list_extend mt_extR (e_var 1) (a_cons (e_val (e_lstN (a_cons (e_fnB cr_isA (ok_isi Fc.hK Fc.tyF Fc.isJ) rfl (Fc.fr 6 rfl) boot_isinstance (a_cons (e_var 0) (a_cons (Fc.e_cls 22 12 rfl rfl) a_nil))) (a_cons (e_fnB cr_isA (ok_isi Fc.hK Fc.tyF Fc.isJ) rfl (Fc.fr 6 rfl) boot_isinstance (a_cons (e_var 0) (a_cons (Fc.e_cls 23 13 rfl rfl) a_nil))) (a_cons (e_fnB cr_isA (ok_isi Fc.hK Fc.tyF Fc.isJ) rfl (Fc.fr 6 rfl) boot_isinstance (a_cons (e_var 0) (a_cons (Fc.e_cls 24 14 rfl rfl) a_nil))) a_nil))))) a_nil)))
  (ss_cons (s_expr (e_mut mut_extend PySem.F.slot_list_extend PySem.F.type_list_extend mt_extR (e_var 1) (a_cons (e_val (e_lstN (a_cons (e_fnB cr_isA (ok_isi Fc.hK Fc.tyF Fc.isJ) rfl (Fc.fr 6 rfl) boot_isinstance (a_cons (e_var 0) (a_cons (Fc.e_cls 25 15 rfl rfl) a_nil))) (a_cons (e_fnB cr_isA (ok_isi Fc.hK Fc.tyF Fc.isJ) rfl (Fc.fr 6 rfl) boot_isinstance (a_cons (e_var 0) (a_cons (Fc.e_cls 26 16 rfl rfl) a_nil))) (a_cons (e_fnB cr_isA (ok_isi Fc.hK Fc.tyF Fc.isJ) rfl (Fc.fr 6 rfl) boot_isinstance (a_cons (e_var 0) (a_cons (Fc.e_cls 27 17 rfl rfl) a_nil))) a_nil))))) a_nil)))
  (ss_cons (s_expr (e_mut mut_extend PySem.F.slot_list_extend PySem.F.type_list_extend mt_extR (e_var 1) (a_cons (e_val (e_lstN (a_cons (e_fnB cr_isA (ok_isi Fc.hK Fc.tyF Fc.isJ) rfl (Fc.fr 6 rfl) boot_isinstance (a_cons (e_var 0) (a_cons (Fc.e_cls 28 18 rfl rfl) a_nil))) (a_cons (e_fnB cr_isA (ok_isi Fc.hK Fc.tyF Fc.isJ) rfl (Fc.fr 6 rfl) boot_isinstance (a_cons (e_var 0) (a_cons (Fc.e_cls 29 19 rfl rfl) a_nil))) (a_cons (e_fnB cr_isA (ok_isi Fc.hK Fc.tyF Fc.isJ) rfl (Fc.fr 6 rfl) boot_isinstance (a_cons (e_var 0) (a_cons (Fc.e_cls 30 20 rfl rfl) a_nil))) a_nil))))) a_nil)))
  (ss_cons (s_expr (e_mut mut_extend PySem.F.slot_list_extend PySem.F.type_list_extend mt_extR (e_var 1) (a_cons (e_val (e_lstN (a_cons (e_fnB cr_isA (ok_isi Fc.hK Fc.tyF Fc.isJ) rfl (Fc.fr 6 rfl) boot_isinstance (a_cons (e_var 0) (a_cons (Fc.e_cls 31 21 rfl rfl) a_nil))) (a_cons (e_fnB cr_isA (ok_isi Fc.hK Fc.tyF Fc.isJ) rfl (Fc.fr 6 rfl) boot_isinstance (a_cons (e_var 0) (a_cons (Fc.e_cls 32 22 rfl rfl) a_nil))) (a_cons (e_fnB cr_isA (ok_isi Fc.hK Fc.tyF Fc.isJ) rfl (Fc.fr 6 rfl) boot_isinstance (a_cons (e_var 0) (a_cons (Fc.e_cls 33 23 rfl rfl) a_nil))) a_nil))))) a_nil)))
  (ss_cons (s_expr (e_mut mut_extend PySem.F.slot_list_extend PySem.F.type_list_extend mt_extR (e_var 1) (a_cons (e_val (e_lstN (a_cons (e_fnB cr_isA (ok_isi Fc.hK Fc.tyF Fc.isJ) rfl (Fc.fr 6 rfl) boot_isinstance (a_cons (e_var 0) (a_cons (Fc.e_cls 34 24 rfl rfl) a_nil))) (a_cons (e_fnB cr_isA (ok_isi Fc.hK Fc.tyF Fc.isJ) rfl (Fc.fr 6 rfl) boot_isinstance (a_cons (e_var 0) (a_cons (Fc.e_cls 35 25 rfl rfl) a_nil))) (a_cons (e_fnB cr_isA (ok_isi Fc.hK Fc.tyF Fc.isJ) rfl (Fc.fr 6 rfl) boot_isinstance (a_cons (e_var 0) (a_cons (Fc.e_cls 36 26 rfl rfl) a_nil))) a_nil))))) a_nil)))
  (ss_one (s_ret (e_op op_addAll (gAdd_ok Fc.hK) (e_var 1) (e_val (e_lstN (a_cons (e_fnB cr_isA (ok_isi Fc.hK Fc.tyF Fc.isJ) rfl (Fc.fr 6 rfl) boot_isinstance (a_cons (e_var 0) (a_cons (Fc.e_cls 37 27 rfl rfl) a_nil))) a_nil))))))))))))))
/-! ### law_right -/
abbrev st_law_right : Stmt := top 38
theorem sc_law_right : FnScope ["_law_pot_here", "_law_value", "_law_some", "_law_plain", "_law_at", "_law_one", "_law_place"] ["_law_pot_here"] (defScope st_law_right) := ⟨rfl, rfl, rfl, by decide +kernel, rfl, by decide +kernel, by decide +kernel⟩
def b_law_right : DS := (dSeq (dAsg (dCall 1 d_law_odd (dCons (dVar 0) dNil)) (tName 1))
  (dSeq (dAsg (dIf (dTst (dOp gEq (dCall 2 d_law_take (dCons (dVar 0) (dCons (dC (.int 2)) dNil))) (dC (.int 0)))) (dCall 2 d_law_bent (dCons (dVar 0) (dCons (dVar 1) dNil))) (dVar 1)) (tName 1))
  (dSeq (dPar 2 3 (dCons (dCall 1 d_law_all (dCons (dVar 1) dNil)) (dCons (dExc 0 (dCons (dVar 1) dNil)) dNil)))
  (dSeq (dFor (dEnum (dCons (dVar 2) dNil)) (tTup 2 (tsCons (tName 4) (tsCons (tName 5) tsNil))) (dSeq (dSIf (dOr (dTst (dOp gNe (dCall 1 d_law_marks (dCons (dVar 5) dNil)) (dVal (dNew (dComp (dRng1 (dCons (dFn gLen (dCons (dVar 2) dNil)) dNil)) (tName 6) dYes (dOp gEq (dVar 4) (dVar 6)) [6]))))) (dTst (dOp gNe (dFn gRepr (dCons (dXV exL (dVar 5)) dNil)) (dFn gRepr (dCons (dVar 1) dNil))))) (dRet (dC (.bl false))) dNx)
  (dSIf (dOr (dNot (dTst (dFn (gIsi (isJ exL) [] exL) (dCons (dVar 5) (dCons (dC (.glb 0)) dNil))))) (dNot (dTst (dFn (gIsi (isJ exL) [] exL) (dCons (dVar 5) (dCons (dC (.ty "ValueError")) dNil)))))) (dRet (dC (.bl false))) dNx)))
  (dSeq (dSIf (dOr (dTst (dOp gIn (dC (.bl true)) (dCall 1 d_law_marks (dCons (dVar 3) dNil)))) (dOr (dNot (dTst (dFn (gIsi (isJ exL) [] exL) (dCons (dVar 3) (dCons (dC (.ty "ValueError")) dNil))))) (dTst (dOp gNe (dFn gRepr (dCons (dXV exL (dVar 3)) dNil)) (dFn gRepr (dCons (dVar 1) dNil)))))) (dRet (dC (.bl false))) dNx)
  (dRet (dC (.bl true))))))))
def d_law_right : DF := dDef 7 b_law_right
theorem ok_law_right (Fc : Facts P w K mg T) (h_law_odd : Has P w K mg base T "_law_odd" ["_law_pot_here"] 4 d_law_odd) (h_law_take : Has P w K mg base T "_law_take" ["_law_pot_here", "_law_upto"] 2 d_law_take) (h_law_bent : Has P w K mg base T "_law_bent" ["_law_pot_here", "_law_value"] 17 d_law_bent) (h_law_all : Has P w K mg base T "_law_all" ["_law_value"] 2 d_law_all) (h_law_marks : Has P w K mg base T "_law_marks" ["_law_one"] 2 d_law_marks) : Has P w K mg base T "_law_right" ["_law_pot_here"] 18 d_law_right := by
  obtain ⟨fd, F⟩ := Fc.df 6 (d := df_law_right) rfl rfl rfl
  refine ⟨fd, F.kp, (F.bindsN fun _ _ _ _ _ _ us hl => match us, hl with | [_], _ => rfl), def_ok (k := 17) F sc_law_right fun cdv A out s H E hr => ?_⟩
  have nd := sc_law_right.nd
  have tk := takes_cx (P := P) (w := w) (K := K) (mg := mg) (base := base) (N := ["_law_pot_here", "_law_value", "_law_some", "_law_plain", "_law_at", "_law_one", "_law_place"]) (qual := "_law_right") (scope := defScope st_law_right) (f := He.ga K "_law_right") (cd := cdv) (A := A) (outer := out) (s := s) (H := H) (E := E)
  have own := owns_cx (P := P) (w := w) (K := K) (mg := mg) (base := base) (N := ["_law_pot_here", "_law_value", "_law_some", "_law_plain", "_law_at", "_law_one", "_law_place"]) (qual := "_law_right") (scope := defScope st_law_right) (f := He.ga K "_law_right") (cd := cdv) (A := A) (outer := out) (s := s) (H := H) (E := E)
  exact (ss_cons (s_set (i := 1) nd rfl loc (e_callH tk h_law_odd (hr.mono (by decide)) rfl (Fc.gl 2 rfl) (a_cons (e_var 0) a_nil)))
  (ss_cons (s_set (i := 1) nd rfl loc (e_if (t_cmp (op_eqD hr.u64) (gEq_ok Fc.hK) (e_callH tk h_law_take (hr.mono (by decide)) rfl (Fc.gl 0 rfl) (a_cons (e_var 0) (a_cons e_int a_nil))) e_int rfl) (e_callH tk h_law_bent (hr.mono (by decide)) rfl (Fc.gl 3 rfl) (a_cons (e_var 0) (a_cons (e_var 1) a_nil))) (e_var 1)))
  (ss_cons (s_par (i := 2) (j := 3) rfl nd rfl rfl (by decide) rfl rfl (a_cons (e_callH tk h_law_all (hr.mono (by decide)) rfl (Fc.gl 4 rfl) (a_cons (e_var 1) a_nil)) (a_cons (e_exc Fc.rf (Fc.rc 0 (by decide)) (hr.mono (by decide)) rfl (Fc.clsM 10 0 rfl rfl) (a_cons (e_var 1) a_nil)) a_nil)) rfl)
  (ss_cons (s_for own rfl (i_enum Fc.hK rfl (Fc.fr 4 rfl) (a_cons (e_var 2) a_nil)) (pg_tup (n := 2) rfl (pgs_cons (pg_name (i := 4) nd rfl loc) (pgs_cons (pg_name (i := 5) nd rfl loc) pgs_nil))) (tgt_tupK Fc.hK (tgts_cons (tgt_name 4) (tgts_cons (tgt_name 5) tgts_nil))) (ss_cons (s_if (PW.pt (t_or (t_cmp (op_neD hr.u64) (gNe_ok Fc.hK) (e_callH tk h_law_marks (hr.mono (by decide)) rfl (Fc.gl 5 rfl) (a_cons (e_var 5) a_nil)) (e_val (e_comp (own := [("_law_place", 6)]) rfl nd (i_rng1 rfl (Fc.fr 11 rfl) (a_cons (e_fnB cr_len (ok_len Fc.hK) rfl (Fc.fr 7 rfl) boot_len (a_cons (e_var 2) a_nil)) a_nil)) blkOk (fun _ _ _ _ _ => (pg_name (i := 6) nd rfl loc)) (tgt_name 6) (by decide) (fun _ _ _ _ _ => c_nil) (fun _ _ _ _ _ => (e_cmp (op_eqD hr.u64) (gEq_ok Fc.hK) (e_var 4) (e_var 6) rfl)))) rfl) (w_or1 (t_cmp (op_neD hr.u64) (gNe_ok Fc.hK) (e_fnB (call_repr Fc.hK hr.gd hr.u61) ok_repr rfl (Fc.fr 12 rfl) boot_repr (a_cons (e_value Fc.xv (e_var 5)) a_nil)) (e_fnB (call_repr Fc.hK hr.gd hr.u61) ok_repr rfl (Fc.fr 12 rfl) boot_repr (a_cons (e_var 1) a_nil)) rfl)))) (ss_one (s_ret e_bl)) ss_nil)
  (ss_one (s_if (PW.pt (t_or (t_not (t_val (e_fnB cr_isA (ok_isi Fc.hK Fc.tyF Fc.isJ) rfl (Fc.fr 6 rfl) boot_isinstance (a_cons (e_var 5) (a_cons (Fc.e_cls 10 0 rfl rfl) a_nil))))) (w_or1 (t_not (t_val (e_fnB cr_isA (ok_isi Fc.hK Fc.tyF Fc.isJ) rfl (Fc.fr 6 rfl) boot_isinstance (a_cons (e_var 5) (a_cons (e_bltn (v := .ty "ValueError") rfl (Fc.fr 0 rfl) PyProof.Rows.Boot.«ValueError» rfl fun _ => .ty _) a_nil)))))))) (ss_one (s_ret e_bl)) ss_nil))))
  (ss_cons (s_if (PW.pt (t_or (t_cmp (op_inA hr.u65) (gIn_ok Fc.hK) e_bl (e_callH tk h_law_marks (hr.mono (by decide)) rfl (Fc.gl 5 rfl) (a_cons (e_var 3) a_nil)) rfl) (t_or (t_not (t_val (e_fnB cr_isA (ok_isi Fc.hK Fc.tyF Fc.isJ) rfl (Fc.fr 6 rfl) boot_isinstance (a_cons (e_var 3) (a_cons (e_bltn (v := .ty "ValueError") rfl (Fc.fr 0 rfl) PyProof.Rows.Boot.«ValueError» rfl fun _ => .ty _) a_nil))))) (w_or1 (t_cmp (op_neD hr.u64) (gNe_ok Fc.hK) (e_fnB (call_repr Fc.hK hr.gd hr.u61) ok_repr rfl (Fc.fr 12 rfl) boot_repr (a_cons (e_value Fc.xv (e_var 3)) a_nil)) (e_fnB (call_repr Fc.hK hr.gd hr.u61) ok_repr rfl (Fc.fr 12 rfl) boot_repr (a_cons (e_var 1) a_nil)) rfl))))) (ss_one (s_ret e_bl)) ss_nil)
  (ss_one (s_ret e_bl)))))))
/-! ### law_pot -/
abbrev st_law_pot : Stmt := top 30
theorem sc_law_pot : FnScope ["_law_script", "_law_place", "_law_cell", "_law_own", "_law_small"] ["_law_script", "_law_place"] (defScope st_law_pot) := ⟨rfl, rfl, rfl, by decide +kernel, rfl, by decide +kernel, by decide +kernel⟩
def b_law_pot : DS := (dSeq (dAsg (dIf (dTst (dOp gLt (dVar 1) (dFn gLen (dCons (dVar 0) dNil)))) (dOp ixP (dVar 0) (dVar 1)) (dOp gAdd (dOp gMul (dC (.int 73)) (dVar 1)) (dC (.int 37)))) (tName 2))
  (dSeq (dAsg (dOp gMul (dOp gMod (dFn gInt (dCons (dFn gAbs (dCons (dVar 2) dNil)) dNil)) (dOp gPow (dOp gPow (dC (.int 10)) (dC (.int 60))) (dC (.int 5)))) (dFn gInt (dCons (dOp gGe (dFn gAbs (dCons (dVar 2) dNil)) (dOp gPow (dC (.int 10)) (dC (.int 18)))) dNil))) (tName 3))
  (dSeq (dAsg (dOp gMod (dFn gInt (dCons (dVar 2) dNil)) (dC (.int 2305843009213693951))) (tName 4))
  (dRet (dNew (mkL (dCons (dVar 3) (dCons (dOp gMod (dFn gInt (dCons (dOp gAdd (dOp gAdd (dOp gMul (dVar 4) (dC (.int 70501))) (dOp gMul (dOp gMul (dC (.int 7297)) (dVar 1)) (dVar 1))) (dC (.int 151))) dNil)) (dC (.int 2305843009213693921))) (dCons (dC (.int 0)) dNil)))))))))
def d_law_pot : DF := dDefN 5 b_law_pot
theorem ok_law_pot (Fc : Facts P w K mg T) : Has P w K mg base T "_law_pot" ["_law_script", "_law_place"] 2 d_law_pot := by
  obtain ⟨fd, F⟩ := Fc.df 7 (d := df_law_pot) rfl rfl rfl
  refine ⟨fd, F.kp, (F.bindsN fun _ _ _ _ _ _ us hl => match us, hl with | [_, _], _ => rfl), def_okN (k := 1) F sc_law_pot fun cdv A out s H E hr => ?_⟩
  have nd := sc_law_pot.nd
  have tk := takes_cx (P := P) (w := w) (K := K) (mg := mg) (base := base) (N := ["_law_script", "_law_place", "_law_cell", "_law_own", "_law_small"]) (qual := "_law_pot") (scope := defScope st_law_pot) (f := He.ga K "_law_pot") (cd := cdv) (A := A) (outer := out) (s := s) (H := H) (E := E)
  have own := owns_cx (P := P) (w := w) (K := K) (mg := mg) (base := base) (N := ["_law_script", "_law_place", "_law_cell", "_law_own", "_law_small"]) (qual := "_law_pot") (scope := defScope st_law_pot) (f := He.ga K "_law_pot") (cd := cdv) (A := A) (outer := out) (s := s) (H := H) (E := E)
  exact (ss_cons (s_set (i := 2) nd rfl loc (e_if (t_cmp op_ltA gOrd_ok (e_var 1) (e_fnB cr_len (ok_len Fc.hK) rfl (Fc.fr 7 rfl) boot_len (a_cons (e_var 0) a_nil)) rfl) (e_ix Fc.hK hr.u1 (e_var 0) (e_var 1) plainIx) (e_op op_addAll (gAdd_ok Fc.hK) (e_op op_mulW gMul_ok e_int (e_var 1)) e_int)))
  (ss_cons (s_set (i := 3) nd rfl loc (e_op op_mulW gMul_ok (e_op op_mod gMod_ok (e_fnT cr_int ok_int rfl (Fc.fr 5 rfl) boot_int (a_cons (e_fnB call_abs ok_abs rfl (Fc.fr 1 rfl) boot_abs (a_cons (e_var 2) a_nil)) a_nil)) (e_op op_powW gPow_ok (e_op op_powW gPow_ok e_int e_int) e_int)) (e_fnT cr_int ok_int rfl (Fc.fr 5 rfl) boot_int (a_cons (e_cmp op_geA gOrd_ok (e_fnB call_abs ok_abs rfl (Fc.fr 1 rfl) boot_abs (a_cons (e_var 2) a_nil)) (e_op op_powW gPow_ok e_int e_int) rfl) a_nil))))
  (ss_cons (s_set (i := 4) nd rfl loc (e_op op_mod gMod_ok (e_fnT cr_int ok_int rfl (Fc.fr 5 rfl) boot_int (a_cons (e_var 2) a_nil)) e_int))
  (ss_one (s_ret (e_lstN (a_cons (e_var 3) (a_cons (e_op op_mod gMod_ok (e_fnT cr_int ok_int rfl (Fc.fr 5 rfl) boot_int (a_cons (e_op op_addAll (gAdd_ok Fc.hK) (e_op op_addAll (gAdd_ok Fc.hK) (e_op op_mulW gMul_ok (e_var 4) e_int) (e_op op_mulW gMul_ok (e_op op_mulW gMul_ok e_int (e_var 1)) (e_var 1))) e_int) a_nil)) e_int) (a_cons e_int a_nil)))))))))
/-! ### law_cells -/
abbrev st_law_cells : Stmt := top 33
theorem sc_law_cells : FnScope ["_law_script", "_law_limit"] ["_law_script", "_law_limit"] (defScope st_law_cells) := ⟨rfl, rfl, rfl, by decide +kernel, rfl, by decide +kernel, by decide +kernel⟩
def b_law_cells : DS := (dRet (dRgL (dFn gMax2 (dCons (dC (.int 1)) (dCons (dFn gMin2 (dCons (dVar 1) (dCons (dFn gLen (dCons (dVar 0) dNil)) dNil))) dNil)))))
def d_law_cells : DF := dDef 2 b_law_cells
theorem ok_law_cells (Fc : Facts P w K mg T) : Has P w K mg base T "_law_cells" ["_law_script", "_law_limit"] 2 d_law_cells := by
  obtain ⟨fd, F⟩ := Fc.df 8 (d := df_law_cells) rfl rfl rfl
  refine ⟨fd, F.kp, (F.bindsN fun _ _ _ _ _ _ us hl => match us, hl with | [_, _], _ => rfl), def_ok (k := 1) F sc_law_cells fun cdv A out s H E hr => ?_⟩
  have nd := sc_law_cells.nd
  have tk := takes_cx (P := P) (w := w) (K := K) (mg := mg) (base := base) (N := ["_law_script", "_law_limit"]) (qual := "_law_cells") (scope := defScope st_law_cells) (f := He.ga K "_law_cells") (cd := cdv) (A := A) (outer := out) (s := s) (H := H) (E := E)
  have own := owns_cx (P := P) (w := w) (K := K) (mg := mg) (base := base) (N := ["_law_script", "_law_limit"]) (qual := "_law_cells") (scope := defScope st_law_cells) (f := He.ga K "_law_cells") (cd := cdv) (A := A) (outer := out) (s := s) (H := H) (E := E)
  exact (ss_one (s_ret (e_rgL rfl rfl (Fc.fr 8 rfl) rfl (Fc.fr 11 rfl) (e_fnB (call_max2 rfl) ok_max2 rfl (Fc.fr 9 rfl) boot_max (a_cons e_int (a_cons (e_fnB (call_min2 rfl) ok_min2 rfl (Fc.fr 10 rfl) boot_min (a_cons (e_var 1) (a_cons (e_fnB cr_len (ok_len Fc.hK) rfl (Fc.fr 7 rfl) boot_len (a_cons (e_var 0) a_nil)) a_nil))) a_nil))))))
/-! ### law -/
abbrev st_law : Stmt := top 39
theorem sc_law : FnScope ["_law_script", "_law_place"] ["_law_script"] (defScope st_law) := ⟨rfl, rfl, rfl, by decide +kernel, rfl, by decide +kernel, by decide +kernel⟩
def b_law : DS := (dRet (dFn gAll (dCons (dVal (dNew (dComp (dSrcL (dCall 2 d_law_cells (dCons (dVar 0) (dCons (dC (.int 4)) dNil)))) (tName 1) dYes (dCall 1 d_law_right (dCons (dCall 2 d_law_pot (dCons (dVar 0) (dCons (dVar 1) dNil))) dNil)) [1]))) dNil)))
def d_law : DF := dDef 2 b_law
theorem ok_law (Fc : Facts P w K mg T) (h_law_cells : Has P w K mg base T "_law_cells" ["_law_script", "_law_limit"] 2 d_law_cells) (h_law_pot : Has P w K mg base T "_law_pot" ["_law_script", "_law_place"] 2 d_law_pot) (h_law_right : Has P w K mg base T "_law_right" ["_law_pot_here"] 18 d_law_right) : Has P w K mg base T "law" ["_law_script"] 19 d_law := by
  obtain ⟨fd, F⟩ := Fc.df 9 (d := df_law) rfl rfl rfl
  refine ⟨fd, F.kp, (F.bindsN fun _ _ _ _ _ _ us hl => match us, hl with | [_], _ => rfl), def_ok (k := 18) F sc_law fun cdv A out s H E hr => ?_⟩
  have nd := sc_law.nd
  have tk := takes_cx (P := P) (w := w) (K := K) (mg := mg) (base := base) (N := ["_law_script", "_law_place"]) (qual := "law") (scope := defScope st_law) (f := He.ga K "law") (cd := cdv) (A := A) (outer := out) (s := s) (H := H) (E := E)
  have own := owns_cx (P := P) (w := w) (K := K) (mg := mg) (base := base) (N := ["_law_script", "_law_place"]) (qual := "law") (scope := defScope st_law) (f := He.ga K "law") (cd := cdv) (A := A) (outer := out) (s := s) (H := H) (E := E)
  exact (ss_one (s_ret (e_fnB (cr_all rfl) (ok_all Fc.hK) rfl (Fc.fr 2 rfl) boot_all (a_cons (e_val (e_comp (own := [("_law_place", 1)]) rfl nd (i_list Fc.hK (e_callH tk h_law_cells (hr.mono (by decide)) rfl (Fc.gl 8 rfl) (a_cons (e_var 0) (a_cons e_int a_nil)))) blkOk (fun _ _ _ _ _ => (pg_name (i := 1) nd rfl loc)) (tgt_name 1) (by decide) (fun _ _ _ _ _ => c_nil) (fun _ _ _ _ _ => (e_callH Ev.takes0 h_law_right (hr.mono (by decide)) rfl (Fc.gl 6 rfl) (a_cons (e_callH Ev.takes0 h_law_pot (hr.mono (by decide)) rfl (Fc.gl 7 rfl) (a_cons (e_var 0) (a_cons (e_var 1) a_nil))) a_nil))))) a_nil))))
end
end Lw

set_option Elab.async false
set_option linter.all false
set_option maxRecDepth 100000
set_option maxHeartbeats 4000000
namespace Lw
open PySem PySem.Spec PyProof.Rows L2 Ev
@[simp] theorem ix3_0 (a b c : P) : ixP (.lst [a, b, c]) (.int 0) = some a := rfl
@[simp] theorem ix3_1 (a b c : P) : ixP (.lst [a, b, c]) (.int 1) = some b := rfl
@[simp] theorem ix3_2 (a b c : P) : ixP (.lst [a, b, c]) (.int 2) = some c := rfl
@[simp] theorem lk0 (xs : List P) (s : Sto) : look (.lst xs :: s) (.ref 0) = some (.lst xs) := rfl
@[simp] theorem op0 (g : P → P → Option P) (xs : List P) (s : Sto) (y : P) : op2 g (.ref 0) (.p y) (.lst xs :: s) = match g (.lst xs) y with
  | some z => .ok (.p z) (.lst xs :: s)
  | none => .bad := rfl
@[simp] theorem st3_0 (a b c x : P) : setP (.lst [a, b, c]) (.int 0) x = some (.lst [x, b, c]) := rfl
@[simp] theorem st3_2 (a b c x : P) : setP (.lst [a, b, c]) (.int 2) x = some (.lst [a, b, x]) := rfl
theorem cut1 (x : P) (o : O) : Ev.cutD 1 (.p x) [o] = if shut 1 [o] = true then .ok (.p x) [o] else .bad := by
  unfold Ev.cutD; simp
@[simp] theorem cut1n (xs ys : List P) : Ev.cutD 1 (.ref 1) [.lst xs, .lst ys] = .ok (.p (.lst ys)) [.lst xs] := rfl
@[simp] theorem cut0n (ys : List P) : Ev.cutD 0 (.ref 0) [.lst ys] = .ok (.p (.lst ys)) [] := rfl
@[simp] theorem cut0p (x : P) : Ev.cutD 0 (.p x) [] = .ok (.p x) [] := rfl
@[simp] theorem cut1p (x : P) (xs : List P) : Ev.cutD 1 (.p x) [.lst xs] = .ok (.p x) [.lst xs] := rfl
theorem shut_l (xs : List P) : shut 1 [.lst xs] = true := rfl
theorem take_a (a b c u : Int) (ha : 0 < a) (hu : 0 < u) (hu2 : u < 2 ^ 60) : d_law_take [.ref 0, .p (.int u)] [.lst [.int a, .int b, .int c]] = .ok (.p (.int (a % u))) [.lst [.int (a / u), .int b, .int c]] := by
  have h1 := modP (i := a) hu
  have h2 := divP (i := a) (j := u) 60 hu (by omega)
  simp [d_law_take, dDef, b_law_take, h1, h2, ha, cut1, shut_l]
theorem ix5 (i : Int) : ∃ p : Int, (p = 2147483647 ∨ p = 2147483629 ∨ p = 2147483587 ∨ p = 2147483579 ∨ p = 2147483563) ∧ ixP (.lst [.int 2147483647, .int 2147483629, .int 2147483587, .int 2147483579, .int 2147483563]) (.int (i % 5)) = some (.int p) := by
  have h1 : 0 ≤ i % 5 := Int.emod_nonneg _ (by decide)
  have h2 : i % 5 < 5 := Int.emod_lt_of_pos _ (by decide)
  generalize i % 5 = j at *
  have : j = 0 ∨ j = 1 ∨ j = 2 ∨ j = 3 ∨ j = 4 := by omega
  rcases this with rfl | rfl | rfl | rfl | rfl
  · exact ⟨2147483647, by simp, rfl⟩
  · exact ⟨2147483629, by simp, rfl⟩
  · exact ⟨2147483587, by simp, rfl⟩
  · exact ⟨2147483579, by simp, rfl⟩
  · exact ⟨2147483563, by simp, rfl⟩
theorem take_b (a b c u : Int) (ha : ¬ 0 < a) (hb : 0 ≤ b) (hb2 : b < 2 ^ 61) (hc : 0 ≤ c) (hc2 : c < 2 ^ 40) (hu : 0 < u) (hu2 : u < 2 ^ 60) :
    ∃ d, 0 ≤ d ∧ d < u ∧ d_law_take [.ref 0, .p (.int u)] [.lst [.int a, .int b, .int c]] = .ok (.p (.int d)) [.lst [.int a, .int b, .int (c + 1)]] := by
  obtain ⟨p, hp, e5⟩ := ix5 (c + 1)
  have p1 : 0 < p ∧ p < 2 ^ 31 := by rcases hp with rfl | rfl | rfl | rfl | rfl <;> decide
  have m1 : gMul (.int 99701) (.int (c + 1)) = some (.int (99701 * (c + 1))) := mulP 17 41 (by decide) (by omega)
  have n1 : (99701 * (c + 1)).natAbs < 2 ^ 58 := by omega
  have m2 : gMul (.int (99701 * (c + 1))) (.int (c + 1)) = some (.int (99701 * (c + 1) * (c + 1))) := mulP 58 41 n1 (by omega)
  have q0 : 0 ≤ 99701 * (c + 1) * (c + 1) := Int.mul_nonneg (by omega) (by omega)
  have q1 : 99701 * (c + 1) * (c + 1) < 2 ^ 58 * 2 ^ 41 := by
    have h1 : 99701 * (c + 1) * (c + 1) ≤ 2 ^ 57 * (c + 1) := Int.mul_le_mul_of_nonneg_right (by omega) (by omega)
    omega
  generalize hX : 99701 * (c + 1) * (c + 1) = X at *
  have w1 : gPow (.int (b + X + 59)) (.int 3) = some (.int ((b + X + 59) ^ 3)) := powP (n := 3) 120 (by omega)
  have d1 : gMod (.int ((b + X + 59) ^ 3)) (.int p) = some (.int ((b + X + 59) ^ 3 % p)) := modP p1.1
  have y0 := Int.emod_nonneg ((b + X + 59) ^ 3) (show p ≠ 0 by omega)
  have y1 := Int.emod_lt_of_pos ((b + X + 59) ^ 3) p1.1
  generalize hY : (b + X + 59) ^ 3 % p = Y at *
  have d2 : gMod (.int Y) (.int 10429) = some (.int (Y % 10429)) := modP (by decide)
  have m3 : gMul (.int 103) (.int (c + 1)) = some (.int (103 * (c + 1))) := mulP 7 41 (by decide) (by omega)
  have z0 := Int.emod_nonneg Y (show (10429 : Int) ≠ 0 by decide)
  have z1 := Int.emod_lt_of_pos Y (show (0 : Int) < 10429 by decide)
  generalize hZ : Y % 10429 = Z at *
  have m4 : gMul (.int Y) (.int (Z + 103 * (c + 1))) = some (.int (Y * (Z + 103 * (c + 1)))) := mulP 31 50 (by omega) (by omega)
  generalize hV : Y * (Z + 103 * (c + 1)) = V at *
  have d3 : gMod (.int V) (.int 2305843009213693907) = some (.int (V % 2305843009213693907)) := modP (by decide)
  generalize hU : V % 2305843009213693907 = U at *
  have d4 : gDiv (.int U) (.int 143) = some (.int (U / 143)) := divP 8 (by decide) (by decide)
  have d5 : gMod (.int (U / 143)) (.int u) = some (.int (U / 143 % u)) := modP hu
  have d6 : gMod (.int (c + 1)) (.int 5) = some (.int ((c + 1) % 5)) := modP (by decide)
  refine ⟨U / 143 % u, Int.emod_nonneg _ (by omega), Int.emod_lt_of_pos _ hu, ?_⟩
  simp [d_law_take, dDef, b_law_take, ha, cut1, shut_l, d1, d2, d3, d4, d5, d6, m1, m2, m3, m4, w1, e5, hX, hY, hZ, hV, hU]
/-! ### the pot -/
def Pot (n : Nat) (o : O) : Prop := ∃ a b c : Int, o = .lst [.int a, .int b, .int c] ∧ 0 ≤ b ∧ b < 2 ^ 61 ∧ 0 ≤ c ∧ c ≤ n
theorem Pot.mono {n m : Nat} {o : O} (h : Pot n o) (hm : n ≤ m) : Pot m o := by
  obtain ⟨a, b, c, e, h1, h2, h3, h4⟩ := h
  exact ⟨a, b, c, e, h1, h2, h3, by omega⟩
theorem take_ok {n : Nat} {o : O} (h : Pot n o) (hn : n < 2 ^ 39) (u : Int) (hu : 0 < u) (hu2 : u < 2 ^ 60) : ∃ (d : Nat) (o' : O), (d : Int) < u ∧ Pot (n + 1) o' ∧ d_law_take [.ref 0, .p (.int u)] [o] = .ok (.p (.int d)) [o'] := by
  obtain ⟨a, b, c, rfl, h1, h2, h3, h4⟩ := h
  by_cases ha : 0 < a
  · have e := take_a a b c u ha hu hu2
    have z0 := Int.emod_nonneg a (show u ≠ 0 by omega)
    refine ⟨(a % u).toNat, _, by rw [Int.toNat_of_nonneg z0]; exact Int.emod_lt_of_pos _ hu, ⟨a / u, b, c, rfl, h1, h2, h3, by omega⟩, ?_⟩
    rw [Int.toNat_of_nonneg z0]; exact e
  · obtain ⟨d, d0, d1, e⟩ := take_b a b c u ha h1 h2 h3 (by omega) hu hu2
    refine ⟨d.toNat, _, by omega, ⟨a, b, c + 1, rfl, h1, h2, by omega, by omega⟩, ?_⟩
    rw [Int.toNat_of_nonneg d0]; exact e
theorem Pot.lst {n : Nat} {o : O} (h : Pot n o) : ∃ xs, o = .lst xs := by obtain ⟨a, b, c, e, _⟩ := h; exact ⟨_, e⟩
/-- a call that sees the pot -/
theorem callP1 {g : DF} {xs ys : List P} {z : P} (h : g [.ref 0] [.lst xs] = .ok (.p z) [.lst ys]) : callF g [.ref 0] [.lst xs] = .ok (.p z) [.lst ys] := by
  have e : [D.ref 0].map (ren (locs [.ref 0])) = [.ref 0] := rfl
  have e2 : subs [.lst xs] (locs [D.ref 0]) = some [.lst xs] := rfl
  unfold callF
  rw [e2, e]
  dsimp only
  rw [h]; rfl
theorem callP2 {g : DF} {xs ys : List P} {x z : P} (h : g [.ref 0, .p x] [.lst xs] = .ok (.p z) [.lst ys]) : callF g [.ref 0, .p x] [.lst xs] = .ok (.p z) [.lst ys] := by
  have e : [D.ref 0, D.p x].map (ren (locs [D.ref 0, D.p x])) = [.ref 0, .p x] := rfl
  have e2 : subs [.lst xs] (locs [D.ref 0, D.p x]) = some [.lst xs] := rfl
  unfold callF
  rw [e2, e]
  dsimp only
  rw [h]; rfl
/-- a call by values alone -/
theorem callV1 {g : DF} {s : Sto} {x z : P} (h : g [.p x] [] = .ok (.p z) []) : callF g [.p x] s = .ok (.p z) s := by
  have e2 : subs s (locs [D.p x]) = some [] := rfl
  have e : [D.p x].map (ren (locs [D.p x])) = [.p x] := rfl
  unfold callF
  rw [e2, e]
  dsimp only
  rw [h]; rfl
theorem callV2 {g : DF} {s : Sto} {x y z : P} (h : g [.p x, .p y] [] = .ok (.p z) []) : callF g [.p x, .p y] s = .ok (.p z) s := by
  have e2 : subs s (locs [D.p x, D.p y]) = some [] := rfl
  have e : [D.p x, D.p y].map (ren (locs [D.p x, D.p y])) = [.p x, .p y] := rfl
  unfold callF
  rw [e2, e]
  dsimp only
  rw [h]; rfl
theorem callV2n {g : DF} {x y : P} {ys : List P} (h : g [.p x, .p y] [] = .ok (.ref 0) [.lst ys]) : callF g [.p x, .p y] [] = .ok (.ref 0) [.lst ys] := by
  have e2 : subs [] (locs [D.p x, D.p y]) = some [] := rfl
  have e : [D.p x, D.p y].map (ren (locs [D.p x, D.p y])) = [.p x, .p y] := rfl
  unfold callF
  rw [e2, e]
  dsimp only
  rw [h]; rfl
theorem takeC {n : Nat} {xs : List P} (h : Pot n (.lst xs)) (hn : n < 2 ^ 39) (u : Int) (hu : 0 < u) (hu2 : u < 2 ^ 60) : ∃ (d : Nat) (ys : List P), (d : Int) < u ∧ Pot (n + 1) (.lst ys) ∧ callF d_law_take [.ref 0, .p (.int u)] [.lst xs] = .ok (.p (.int d)) [.lst ys] := by
  obtain ⟨d, o', h1, h2, h3⟩ := take_ok h hn u hu hu2
  obtain ⟨ys, rfl⟩ := h2.lst
  exact ⟨d, ys, h1, h2, callP2 h3⟩
/-! ### one of some -/
theorem of_ok {n : Nat} {xs : List P} (h : Pot n (.lst xs)) (hn : n < 2 ^ 39) (zs : List P) (hz : 0 < zs.length) (hz2 : zs.length < 2 ^ 59) : ∃ x ∈ zs, ∃ ys, Pot (n + 1) (.lst ys) ∧ d_law_of [.ref 0, .p (.lst zs)] [.lst xs] = .ok (.p x) [.lst ys] := by
  obtain ⟨d, ys, h1, h2, h3⟩ := takeC h hn zs.length (by omega) (by omega)
  have hd : d < zs.length := by omega
  refine ⟨zs[d], List.getElem_mem _, ys, h2, ?_⟩
  have e : ixP (.lst zs) (.int (d : Int)) = some zs[d] := by rw [ix_lst]; simp [hd]
  simp [d_law_of, dDef, b_law_of, h3, e]
theorem ofC {n : Nat} {xs : List P} (h : Pot n (.lst xs)) (hn : n < 2 ^ 39) (zs : List P) (hz : 0 < zs.length) (hz2 : zs.length < 2 ^ 59) : ∃ x ∈ zs, ∃ ys, Pot (n + 1) (.lst ys) ∧ callF d_law_of [.ref 0, .p (.lst zs)] [.lst xs] = .ok (.p x) [.lst ys] := by
  obtain ⟨x, hx, ys, h2, h3⟩ := of_ok h hn zs hz hz2
  exact ⟨x, hx, ys, h2, callP2 h3⟩
def oddL : List P := [.non, .bl true, .bl false, .int 0, .int 1, .int (-1), .int 100000000, .str "", .str "a", .str "queue", .str "people", .tup [], .lst [], .dct [], .tup [.tup []], .tup [.int 0], .tup [.str ""], .lst [.int 0], .tup [.str "a", .str "b"], .tup [.str "a", .str "", .str "b"], .tup [.tup [.str "a", .str "b"]], .tup [.str "sure"], .str "trade"]
@[simp] theorem cut1d (xs : List P) (ks : List (Key × P)) : Ev.cutD 1 (.ref 1) [.lst xs, .dct ks] = .ok (.p (.dct ks)) [.lst xs] := rfl
theorem pow8 : gPow (.int 10) (.int 8) = some (.int 100000000) := by rfl
theorem odd_ok {n : Nat} {xs : List P} (h : Pot n (.lst xs)) (hn : n < 2 ^ 39) : ∃ x ∈ oddL, ∃ ys, Pot (n + 1) (.lst ys) ∧ d_law_odd [.ref 0] [.lst xs] = .ok (.p x) [.lst ys] := by
  obtain ⟨x, hx, ys, h2, h3⟩ := ofC h hn oddL (by decide) (by decide)
  refine ⟨x, hx, ys, h2, ?_⟩
  unfold oddL at h3
  simp [d_law_odd, dDef, b_law_odd, pow8, gAdd, h3]
theorem oddC {n : Nat} {xs : List P} (h : Pot n (.lst xs)) (hn : n < 2 ^ 39) : ∃ x ∈ oddL, ∃ ys, Pot (n + 1) (.lst ys) ∧ callF d_law_odd [.ref 0] [.lst xs] = .ok (.p x) [.lst ys] := by
  obtain ⟨x, hx, ys, h2, h3⟩ := odd_ok h hn
  exact ⟨x, hx, ys, h2, callP1 h3⟩
/-! ### a value bent -/
theorem is_t (xs : List P) : gIsi (isJ exL) [] exL [.tup xs, .ty "tuple"] = some (.bl true) := by rfl
theorem is_s (z : Str) : gIsi (isJ exL) [] exL [.str z, .ty "tuple"] = some (.bl false) := by rfl
theorem is_s2 (z : Str) : gIsi (isJ exL) [] exL [.str z, .ty "str"] = some (.bl true) := by rfl
theorem is_b (b : Bool) : gIsi (isJ exL) [] exL [.bl b, .ty "tuple"] = some (.bl false) := by rfl
theorem is_b2 (b : Bool) : gIsi (isJ exL) [] exL [.bl b, .ty "str"] = some (.bl false) := by rfl
theorem is_b3 (b : Bool) : gIsi (isJ exL) [] exL [.bl b, .ty "bool"] = some (.bl true) := by rfl
theorem is_i (i : Int) : gIsi (isJ exL) [] exL [.int i, .ty "tuple"] = some (.bl false) := by rfl
theorem is_i2 (i : Int) : gIsi (isJ exL) [] exL [.int i, .ty "str"] = some (.bl false) := by rfl
theorem is_i3 (i : Int) : gIsi (isJ exL) [] exL [.int i, .ty "bool"] = some (.bl false) := by rfl
theorem is_i4 (i : Int) : gIsi (isJ exL) [] exL [.int i, .ty "int"] = some (.bl true) := by rfl
def noT : P → Bool
  | .non => true
  | .lst _ => true
  | .dct _ => true
  | _ => false
theorem is_o {x : P} (h : noT x = true) : gIsi (isJ exL) [] exL [x, .ty "tuple"] = some (.bl false) ∧ gIsi (isJ exL) [] exL [x, .ty "str"] = some (.bl false) ∧ gIsi (isJ exL) [] exL [x, .ty "bool"] = some (.bl false) ∧ gIsi (isJ exL) [] exL [x, .ty "int"] = some (.bl false) := by
  cases x <;> first | (cases h; done) | exact ⟨rfl, rfl, rfl, rfl⟩
def optT (xs : List P) : List P := [.lst xs, .tup (cutL xs (some 1) none), .tup (cutL xs none (some (-1))), .tup (xs ++ cutL xs (some (-1)) none), .tup xs.reverse, .tup [], .non, .tup (xs ++ [.str ""])]
def optS (z : Str) : List P := [.str (z ++ "x"), .str ⟨(cutL z.cps.toList none (some (-1))).toArray⟩, .str (PySem.Txt.upper z), .str "", .str "queue", .lst [.str z], .non, .int 0, .str "a"]
def optI (i : Int) : List P := [.int (i + 1), .int (i - 1), .int (-i), .str (toString i), .non, .bl (i == 1)]
def okB : Nat → P → Bool
  | 0, _ => false
  | k + 1, .tup xs => decide (xs.length ≤ 100) && (xs.all (okB k) && decide (eqP (.tup xs) (.tup []) = some xs.isEmpty))
  | _ + 1, .str z => decide (z.length ≤ 1000)
  | _ + 1, .int i => decide (i.natAbs.log2 < 1920)
  | _ + 1, .bl _ => true
  | _ + 1, x => noT x
def outs : Nat → P → List P
  | 0, _ => []
  | k + 1, .tup xs => ((List.range xs.length).flatMap fun d => (outs k (xs.getD d .non)).map fun r => .tup (cutL xs none (some (d : Int)) ++ [r] ++ cutL xs (some ((d : Int) + 1)) none)) ++ optT xs
  | _ + 1, .str z => optS z
  | _ + 1, .int i => optI i
  | _ + 1, .bl b => [.bl (!b), .int (if b then 1 else 0), .non]
  | _ + 1, _ => oddL
theorem cutL_le {A : Type} (xs : List A) (lo hi : Option Int) : (cutL xs lo hi).length ≤ xs.length := by
  unfold cutL
  rw [List.length_take, List.length_drop]
  omega
theorem add_t {xs ys : List P} (h : xs.length + ys.length ≤ 1000000) : gAdd (.tup xs) (.tup ys) = some (.tup (xs ++ ys)) := by
  unfold gAdd; dsimp only; rw [if_pos h]
theorem add_s {a b : Str} (h : a.length + b.length ≤ 1000000) : gAdd (.str a) (.str b) = some (.str (a ++ b)) := by
  unfold gAdd; dsimp only; rw [if_pos h]
theorem sl_t (xs : List P) (lo hi : Option Int) : slP (.tup xs) lo hi = some (.tup (cutL xs lo hi)) := rfl
theorem sl_s {z : Str} (h : z.length ≤ 1000) (lo hi : Option Int) : slP (.str z) lo hi = some (.str ⟨(cutL z.cps.toList lo hi).toArray⟩) := by
  unfold slP; dsimp only; rw [if_pos (by omega)]
theorem up_s {z : Str} (h : z.length ≤ 1000) : gUpper z = some (.str (PySem.Txt.upper z)) := by
  unfold gUpper; rw [if_pos (by omega)]
theorem str_i {i : Int} (h : i.natAbs.log2 < 1920) : gStr [.int i] = some (.str (toString i)) := by
  unfold gStr; dsimp only; rw [if_pos h]
theorem eq_i (i j : Int) : gEq (.int i) (.int j) = some (.bl (i == j)) := rfl
theorem new_l (xs ys : List P) : newK gListN [.p (.tup xs)] [.lst ys] = .ok (.ref 1) [.lst ys, .lst xs] := rfl
theorem bent_ok : ∀ (k : Nat) (v : P) (n : Nat) (xs : List P), okB k v = true → Pot n (.lst xs) → n + 3 * k < 2 ^ 39 → ∃ r ∈ outs k v, ∃ ys, Pot (n + 3 * k) (.lst ys) ∧ d_law_bent_ k [.ref 0, .p v] [.lst xs] = .ok (.p r) [.lst ys]
  | 0, v, n, xs, h, _, _ => by cases h
  | k + 1, .str z, n, xs, h, hp, hn => by
    have hz : z.length ≤ 1000 := of_decide_eq_true h
    obtain ⟨x, hx, ys, h2, h3⟩ := ofC hp (by omega) (optS z) (by simp [optS]) (by simp [optS])
    refine ⟨x, hx, ys, h2.mono (by omega), ?_⟩
    unfold optS at h3
    have a1 : gAdd (.str z) (.str "x") = some (.str (z ++ "x")) := add_s (by show z.length + 1 ≤ _; omega)
    simp [d_law_bent_, dDef, b_law_bent, is_s, is_s2, a1, sl_s hz, up_s hz, h3]
  | k + 1, .int i, n, xs, h, hp, hn => by
    have hz : i.natAbs.log2 < 1920 := of_decide_eq_true h
    obtain ⟨x, hx, ys, h2, h3⟩ := ofC hp (by omega) (optI i) (by simp [optI]) (by simp [optI])
    refine ⟨x, hx, ys, h2.mono (by omega), ?_⟩
    unfold optI at h3
    simp at h3
    simp [d_law_bent_, dDef, b_law_bent, is_i, is_i2, is_i3, is_i4, str_i hz, eq_i, h3]
  | k + 1, .bl b, n, xs, h, hp, hn => by
    obtain ⟨x, hx, ys, h2, h3⟩ := ofC hp (by omega) [.bl (!b), .int (if b then 1 else 0), .non] (by simp) (by simp)
    refine ⟨x, hx, ys, h2.mono (by omega), ?_⟩
    simp [d_law_bent_, dDef, b_law_bent, is_b, is_b2, is_b3, h3]
  | k + 1, .tup zs, n, xs, h, hp, hn => by
    have h' : (decide (zs.length ≤ 100) && (zs.all (okB k) && decide (eqP (.tup zs) (.tup []) = some zs.isEmpty))) = true := h
    obtain ⟨h1, h⟩ := Bool.and_eq_true_iff.mp h'
    obtain ⟨h2, h3⟩ := Bool.and_eq_true_iff.mp h
    have h1 := of_decide_eq_true h1
    have ne : gNe (.tup zs) (.tup []) = some (.bl (!zs.isEmpty)) := by unfold gNe; rw [of_decide_eq_true h3]; rfl
    -- the end: one of the eight
    have tail : ∀ (m : Nat) (us : List P), Pot m (.lst us) → m < 2 ^ 39 → ∃ x ∈ optT zs, ∃ ys, Pot (m + 1) (.lst ys) ∧ callF d_law_of [.ref 0, .p (.lst (optT zs))] [.lst us] = .ok (.p x) [.lst ys] := fun m us hm hm2 => ofC hm hm2 (optT zs) (by simp [optT]) (by simp [optT])
    have c1 := cutL_le zs (some (-1)) none
    have a1 : gAdd (.tup zs) (.tup (cutL zs (some (-1)) none)) = some (.tup (zs ++ cutL zs (some (-1)) none)) := add_t (by omega)
    have a2 : gAdd (.tup zs) (.tup [.str ""]) = some (.tup (zs ++ [.str ""])) := add_t (by simp; omega)
    by_cases e0 : zs.isEmpty = true
    · obtain ⟨x, hx, ys, q2, q3⟩ := tail n xs hp (by omega)
      refine ⟨x, List.mem_append_right _ hx, ys, q2.mono (by omega), ?_⟩
      unfold optT at q3
      simp [d_law_bent_, dDef, b_law_bent, is_t, ne, e0, new_l, sl_t, a1, a2, revP, q3]
    · have e0 : zs.isEmpty = false := by simpa using e0
      obtain ⟨d, us, d1, p1, t1⟩ := takeC hp (by omega) 6 (by decide) (by decide)
      by_cases d0 : d = 0
      · subst d0
        obtain ⟨x, hx, ys, q2, q3⟩ := tail (n + 1) us p1 (by omega)
        refine ⟨x, List.mem_append_right _ hx, ys, q2.mono (by omega), ?_⟩
        unfold optT at q3
        have t1' : callF d_law_take [.ref 0, .p (.int 6)] [.lst xs] = .ok (.p (.int 0)) [.lst us] := t1
        simp [d_law_bent_, dDef, b_law_bent, is_t, ne, e0, t1', new_l, sl_t, a1, a2, revP, q3]
      · have dp : (0 : Int) < d := by omega
        have hl : 0 < zs.length := by cases zs with
          | nil => cases e0
          | cons _ _ => simp
        obtain ⟨at_, ws, f1, p2, t2⟩ := takeC p1 (by omega) zs.length (by omega) (by omega)
        have f1' : at_ < zs.length := by omega
        have ok1 : okB k zs[at_] = true := List.all_eq_true.mp h2 _ (List.getElem_mem _)
        obtain ⟨r, hr, ys, p3, t3⟩ := bent_ok k zs[at_] (n + 2) ws ok1 p2 (by omega)
        have t3' := callP2 t3
        have ei : ixP (.tup zs) (.int (at_ : Int)) = some zs[at_] := by rw [Ev.ix_tup]; simp [f1']
        have c2 := cutL_le zs none (some (at_ : Int))
        have c3 := cutL_le zs (some ((at_ : Int) + 1)) none
        have a3 : gAdd (.tup (cutL zs none (some (at_ : Int)))) (.tup [r]) = some (.tup (cutL zs none (some (at_ : Int)) ++ [r])) := add_t (by simp; omega)
        have a4 : gAdd (.tup (cutL zs none (some (at_ : Int)) ++ [r])) (.tup (cutL zs (some ((at_ : Int) + 1)) none)) = some (.tup (cutL zs none (some (at_ : Int)) ++ [r] ++ cutL zs (some ((at_ : Int) + 1)) none)) := add_t (by simp; omega)
        refine ⟨.tup (cutL zs none (some (at_ : Int)) ++ [r] ++ cutL zs (some ((at_ : Int) + 1)) none), List.mem_append_left _ (List.mem_flatMap.mpr ⟨at_, List.mem_range.mpr f1', List.mem_map.mpr ⟨r, ?_, rfl⟩⟩), ys, p3.mono (by omega), ?_⟩
        · rw [List.getD_eq_getElem?_getD, List.getElem?_eq_getElem f1']; exact hr
        · simp only [List.append_assoc] at a4
          simp [d_law_bent_, dDef, b_law_bent, is_t, ne, e0, t1, dp, Nat.pos_of_ne_zero d0, t2, ei, t3', sl_t, a3, a4]
  | k + 1, .non, n, xs, h, hp, hn => by
    obtain ⟨i1, i2, i3, i4⟩ := is_o (x := .non) rfl
    obtain ⟨x, hx, ys, h2, h3⟩ := oddC hp (by omega)
    exact ⟨x, hx, ys, h2.mono (by omega), by simp [d_law_bent_, dDef, b_law_bent, i1, i2, i3, i4, h3]⟩
  | k + 1, .lst q, n, xs, h, hp, hn => by
    obtain ⟨i1, i2, i3, i4⟩ := is_o (x := .lst q) rfl
    obtain ⟨x, hx, ys, h2, h3⟩ := oddC hp (by omega)
    exact ⟨x, hx, ys, h2.mono (by omega), by simp [d_law_bent_, dDef, b_law_bent, i1, i2, i3, i4, h3]⟩
  | k + 1, .dct q, n, xs, h, hp, hn => by
    obtain ⟨i1, i2, i3, i4⟩ := is_o (x := .dct q) rfl
    obtain ⟨x, hx, ys, h2, h3⟩ := oddC hp (by omega)
    exact ⟨x, hx, ys, h2.mono (by omega), by simp [d_law_bent_, dDef, b_law_bent, i1, i2, i3, i4, h3]⟩
  | k + 1, .ty _, _, _, h, _, _ => by cases h
  | k + 1, .glb _, _, _, h, _, _ => by cases h
  | k + 1, .dcT _, _, _, h, _, _ => by cases h
  | k + 1, .obj _ _, _, _, h, _, _ => by cases h
  | k + 1, .slt _ _, _, _, h, _, _ => by cases h
  | k + 1, .exc _ _, _, _, h, _, _ => by cases h
/-! ### the values -/
def vals0 : List P := oddL ++ oddL.flatMap (outs 12)
/-- shown alike -/
def good (v : P) : Bool := match reprP v with
  | some t => decide (eqP (.str t) (.str t) = some true)
  | none => false
theorem odd_ok12 : oddL.all (okB 12) = true := by decide +kernel
theorem vals_good : vals0.all good = true := by decide +kernel
/-! ### the errors -/
def excsOf (v : P) : List P := (List.range 27).map fun i => .exc (i + 1) v
def marks (c : Nat) : List P := (List.range 27).map fun i => .bl (c == i + 1)
theorem all_ok (v : P) : d_law_all [.p v] [] = .ok (.p (.lst (excsOf v))) [] := rfl
theorem marks_ok (v : P) : ∀ c : Nat, c < 28 → d_law_marks [.p (.exc c v)] [] = .ok (.p (.lst (marks c))) []
  | 0, _ => rfl
  | 1, _ => rfl
  | 2, _ => rfl
  | 3, _ => rfl
  | 4, _ => rfl
  | 5, _ => rfl
  | 6, _ => rfl
  | 7, _ => rfl
  | 8, _ => rfl
  | 9, _ => rfl
  | 10, _ => rfl
  | 11, _ => rfl
  | 12, _ => rfl
  | 13, _ => rfl
  | 14, _ => rfl
  | 15, _ => rfl
  | 16, _ => rfl
  | 17, _ => rfl
  | 18, _ => rfl
  | 19, _ => rfl
  | 20, _ => rfl
  | 21, _ => rfl
  | 22, _ => rfl
  | 23, _ => rfl
  | 24, _ => rfl
  | 25, _ => rfl
  | 26, _ => rfl
  | 27, _ => rfl
  | n + 28, h => absurd h (by omega)
abbrev Ee (v : P) (x4 x5 : Option D) : Ev.Env := [some (.ref 0), some (.p v), some (.p (.lst (excsOf v))), some (.p (.exc 0 v)), x4, x5, none]
def cmpD : DE := dVal (dNew (dComp (dRng1 (dCons (dFn gLen (dCons (dVar 2) dNil)) dNil)) (tName 6) dYes (dOp gEq (dVar 4) (dVar 6)) [6]))
theorem compL_eq (v : P) (s : Sto) (x5 : Option D) (i : Nat) : ∀ js : List Nat, compL (tName 6) dYes (dOp gEq (dVar 4) (dVar 6)) [6] (js.map fun (j : Nat) => P.int (0 + (j : Int))) (Ee v (some (.p (.int i))) x5) s = .ok (js.map fun (j : Nat) => .bl ((i : Int) == (0 + (j : Int)))) s
  | [] => rfl
  | j :: js => by
    have ih := compL_eq v s x5 i js
    rw [List.map_cons]
    unfold compL
    simp [tName, wipeE, dYes, eq_i]
    simp at ih
    rw [ih]; rfl
theorem beq_marks (i : Nat) : ((List.range 27).map fun j : Nat => P.bl ((i : Int) == (0 + (j : Int)))) = marks (i + 1) := by
  unfold marks
  apply List.map_congr_left
  intro j _
  congr 1
  rw [Bool.eq_iff_iff]
  simp
  omega
theorem cmp_ok (v : P) (xs : List P) (x5 : Option D) (i : Nat) : cmpD (Ee v (some (.p (.int i))) x5) [.lst xs] = .ok (.p (.lst (marks (i + 1)))) [.lst xs] := by
  have h := compL_eq v [.lst xs] x5 i (List.range 27)
  rw [beq_marks] at h
  have hr : rng 0 27 = (List.range 27).map fun j : Nat => P.int (0 + (j : Int)) := rfl
  rw [← hr] at h
  have hl : (rng 0 27).length = 27 := rfl
  have he : (excsOf v).length = 27 := by simp [excsOf]
  simp [cmpD, he, hl, h]
theorem ne_marks : ∀ c : Nat, c < 28 → gNe (.lst (marks c)) (.lst (marks c)) = some (.bl false)
  | 0, _ => rfl
  | 1, _ => rfl
  | 2, _ => rfl
  | 3, _ => rfl
  | 4, _ => rfl
  | 5, _ => rfl
  | 6, _ => rfl
  | 7, _ => rfl
  | 8, _ => rfl
  | 9, _ => rfl
  | 10, _ => rfl
  | 11, _ => rfl
  | 12, _ => rfl
  | 13, _ => rfl
  | 14, _ => rfl
  | 15, _ => rfl
  | 16, _ => rfl
  | 17, _ => rfl
  | 18, _ => rfl
  | 19, _ => rfl
  | 20, _ => rfl
  | 21, _ => rfl
  | 22, _ => rfl
  | 23, _ => rfl
  | 24, _ => rfl
  | 25, _ => rfl
  | 26, _ => rfl
  | 27, _ => rfl
  | n + 28, h => absurd h (by omega)
theorem is_ring (v : P) : ∀ c : Nat, c < 28 → gIsi (isJ exL) [] exL [.exc c v, .glb 0] = some (.bl true) ∧ gIsi (isJ exL) [] exL [.exc c v, .ty "ValueError"] = some (.bl true) ∧ c ∈ exL
  | 0, _ => ⟨rfl, rfl, by decide⟩
  | 1, _ => ⟨rfl, rfl, by decide⟩
  | 2, _ => ⟨rfl, rfl, by decide⟩
  | 3, _ => ⟨rfl, rfl, by decide⟩
  | 4, _ => ⟨rfl, rfl, by decide⟩
  | 5, _ => ⟨rfl, rfl, by decide⟩
  | 6, _ => ⟨rfl, rfl, by decide⟩
  | 7, _ => ⟨rfl, rfl, by decide⟩
  | 8, _ => ⟨rfl, rfl, by decide⟩
  | 9, _ => ⟨rfl, rfl, by decide⟩
  | 10, _ => ⟨rfl, rfl, by decide⟩
  | 11, _ => ⟨rfl, rfl, by decide⟩
  | 12, _ => ⟨rfl, rfl, by decide⟩
  | 13, _ => ⟨rfl, rfl, by decide⟩
  | 14, _ => ⟨rfl, rfl, by decide⟩
  | 15, _ => ⟨rfl, rfl, by decide⟩
  | 16, _ => ⟨rfl, rfl, by decide⟩
  | 17, _ => ⟨rfl, rfl, by decide⟩
  | 18, _ => ⟨rfl, rfl, by decide⟩
  | 19, _ => ⟨rfl, rfl, by decide⟩
  | 20, _ => ⟨rfl, rfl, by decide⟩
  | 21, _ => ⟨rfl, rfl, by decide⟩
  | 22, _ => ⟨rfl, rfl, by decide⟩
  | 23, _ => ⟨rfl, rfl, by decide⟩
  | 24, _ => ⟨rfl, rfl, by decide⟩
  | 25, _ => ⟨rfl, rfl, by decide⟩
  | 26, _ => ⟨rfl, rfl, by decide⟩
  | 27, _ => ⟨rfl, rfl, by decide⟩
  | n + 28, h => absurd h (by omega)
def loopB : DS := (dSeq (dSIf (dOr (dTst (dOp gNe (dCall 1 d_law_marks (dCons (dVar 5) dNil)) cmpD)) (dTst (dOp gNe (dFn gRepr (dCons (dXV exL (dVar 5)) dNil)) (dFn gRepr (dCons (dVar 1) dNil))))) (dRet (dC (.bl false))) dNx)
  (dSIf (dOr (dNot (dTst (dFn (gIsi (isJ exL) [] exL) (dCons (dVar 5) (dCons (dC (.glb 0)) dNil))))) (dNot (dTst (dFn (gIsi (isJ exL) [] exL) (dCons (dVar 5) (dCons (dC (.ty "ValueError")) dNil)))))) (dRet (dC (.bl false))) dNx))
theorem good_of {v : P} (h : good v = true) : ∃ t, reprP v = some t ∧ gNe (.str t) (.str t) = some (.bl false) := by
  unfold good at h
  split at h
  · rename_i t e
    exact ⟨t, e, by unfold gNe; rw [of_decide_eq_true h]; rfl⟩
  · cases h
theorem body_ok {v : P} {t : Str} (hr : reprP v = some t) (ht : gNe (.str t) (.str t) = some (.bl false)) (xs : List P) (i : Nat) (hi : i < 27) : loopB (Ee v (some (.p (.int i))) (some (.p (.exc (i + 1) v)))) [.lst xs] = .nx (Ee v (some (.p (.int i))) (some (.p (.exc (i + 1) v)))) [.lst xs] := by
  have m := callV1 (s := [.lst xs]) (marks_ok v (i + 1) (by omega))
  have hM : dCall 1 d_law_marks (dCons (dVar 5) dNil) (Ee v (some (.p (.int i))) (some (.p (.exc (i + 1) v)))) [.lst xs] = .ok (.p (.lst (marks (i + 1)))) [.lst xs] := by simp [m]
  have hC := cmp_ok v xs (some (.p (.exc (i + 1) v))) i
  have hN := ne_marks (i + 1) (by omega)
  obtain ⟨i1, i2, i3⟩ := is_ring v (i + 1) (by omega)
  have g1 : gRepr [v] = some (.str t) := by unfold gRepr; dsimp only; rw [hr]; rfl
  have hX : dXV exL (dVar 5) (Ee v (some (.p (.int i))) (some (.p (.exc (i + 1) v)))) [.lst xs] = .ok (.p v) [.lst xs] := by
    rw [x_xv]
    show (if i + 1 ∈ exL then Ev.R.ok (D.p v) [O.lst xs] else .bad) = _
    rw [if_pos i3]
  have hR1 : dFn gRepr (dCons (dXV exL (dVar 5)) dNil) (Ee v (some (.p (.int i))) (some (.p (.exc (i + 1) v)))) [.lst xs] = .ok (.p (.str t)) [.lst xs] := by
    rw [x_fn, x_cons, hX]
    simp [g1]
  have hR2 : dFn gRepr (dCons (dVar 1) dNil) (Ee v (some (.p (.int i))) (some (.p (.exc (i + 1) v)))) [.lst xs] = .ok (.p (.str t)) [.lst xs] := by simp [g1]
  simp only [loopB, x_seq, x_sif, x_or, x_not, x_tst, x_op, hM, hC, hR1, hR2, Ev.R.bind_ok, op2_p, hN, ht]
  simp [i1, i2]
theorem loop_ok {v : P} {t : Str} (hr : reprP v = some t) (ht : gNe (.str t) (.str t) = some (.bl false)) (xs : List P) : ∀ (is : List Nat), (∀ i ∈ is, i < 27) → ∀ x4 x5, ∃ y4 y5, forL (Ev.tTup 2 (tsCons (tName 4) (tsCons (tName 5) tsNil))) loopB (is.map fun i => .tup [.int (i : Nat), .exc (i + 1) v]) (Ee v x4 x5) [.lst xs] = .nx (Ee v y4 y5) [.lst xs]
  | [], _, x4, x5 => ⟨x4, x5, rfl⟩
  | i :: is, h, x4, x5 => by
    have b := body_ok hr ht xs i (h i List.mem_cons_self)
    obtain ⟨y4, y5, e⟩ := loop_ok hr ht xs is (fun j m => h j (List.mem_cons_of_mem _ m)) (some (.p (.int i))) (some (.p (.exc (i + 1) v)))
    refine ⟨y4, y5, ?_⟩
    rw [List.map_cons]
    unfold forL
    have et : Ev.tTup 2 (tsCons (tName 4) (tsCons (tName 5) tsNil)) (.p (.tup [.int (i : Nat), .exc (i + 1) v])) (Ee v x4 x5) = some (Ee v (some (.p (.int i))) (some (.p (.exc (i + 1) v)))) := rfl
    rw [et]
    dsimp only
    rw [b]
    exact e
theorem right_eq : b_law_right = (dSeq (dAsg (dCall 1 d_law_odd (dCons (dVar 0) dNil)) (tName 1))
  (dSeq (dAsg (dIf (dTst (dOp gEq (dCall 2 d_law_take (dCons (dVar 0) (dCons (dC (.int 2)) dNil))) (dC (.int 0)))) (dCall 2 d_law_bent (dCons (dVar 0) (dCons (dVar 1) dNil))) (dVar 1)) (tName 1))
  (dSeq (dPar 2 3 (dCons (dCall 1 d_law_all (dCons (dVar 1) dNil)) (dCons (dExc 0 (dCons (dVar 1) dNil)) dNil)))
  (dSeq (dFor (dEnum (dCons (dVar 2) dNil)) (Ev.tTup 2 (tsCons (tName 4) (tsCons (tName 5) tsNil))) loopB)
  (dSeq (dSIf (dOr (dTst (dOp gIn (dC (.bl true)) (dCall 1 d_law_marks (dCons (dVar 3) dNil)))) (dOr (dNot (dTst (dFn (gIsi (isJ exL) [] exL) (dCons (dVar 3) (dCons (dC (.ty "ValueError")) dNil))))) (dTst (dOp gNe (dFn gRepr (dCons (dXV exL (dVar 3)) dNil)) (dFn gRepr (dCons (dVar 1) dNil)))))) (dRet (dC (.bl false))) dNx)
  (dRet (dC (.bl true)))))))) := rfl
theorem in_plain (v : P) : gIn (.bl true) (.lst (marks 0)) = some (.bl false) := rfl
theorem right_ok {xs : List P} (h : Pot 0 (.lst xs)) : ∃ ys, d_law_right [.ref 0] [.lst xs] = .ok (.p (.bl true)) [.lst ys] := by
  obtain ⟨v0, hv0, us, p1, e1⟩ := oddC h (by decide)
  obtain ⟨d, ws, d1, p2, e2⟩ := takeC p1 (by decide) 2 (by decide) (by decide)
  have ok12 := List.all_eq_true.mp odd_ok12 v0 hv0
  -- the value that is shown
  have key : ∃ v ∈ vals0, ∃ zs, (dIf (dTst (dOp gEq (dCall 2 d_law_take (dCons (dVar 0) (dCons (dC (.int 2)) dNil))) (dC (.int 0)))) (dCall 2 d_law_bent (dCons (dVar 0) (dCons (dVar 1) dNil))) (dVar 1)) [some (.ref 0), some (.p v0), none, none, none, none, none] [.lst us] = .ok (.p v) [.lst zs] := by
    by_cases d0 : d = 0
    · subst d0
      obtain ⟨r, hr, zs, p3, e3⟩ := bent_ok 12 v0 2 ws ok12 p2 (by decide)
      have e3' := callP2 (g := d_law_bent) e3
      have e2' : callF d_law_take [.ref 0, .p (.int 2)] [.lst us] = .ok (.p (.int 0)) [.lst ws] := e2
      refine ⟨r, List.mem_append_right _ (List.mem_flatMap.mpr ⟨v0, hv0, hr⟩), zs, ?_⟩
      simp [e2', eq_i, e3']
    · refine ⟨v0, List.mem_append_left _ hv0, ws, ?_⟩
      have d2 : ((d : Int) == 0) = false := by simp; exact d0
      simp [e2, eq_i, d2]
  obtain ⟨v, hv, zs, e3⟩ := key
  obtain ⟨t, hr, ht⟩ := good_of (List.all_eq_true.mp vals_good v hv)
  have a := callV1 (s := [.lst zs]) (all_ok v)
  obtain ⟨y4, y5, lp⟩ := loop_ok hr ht zs (List.range 27) (fun i m => List.mem_range.mp m) none none
  have m0 := callV1 (s := [.lst zs]) (marks_ok v 0 (by decide))
  obtain ⟨i1, i2, i3⟩ := is_ring v 0 (by decide)
  have g1 : gRepr [v] = some (.str t) := by unfold gRepr; dsimp only; rw [hr]; rfl
  have en : enums (excsOf v) = (List.range 27).map fun (i : Nat) => .tup [.int (i : Nat), .exc (i + 1) v] := rfl
  rw [← en] at lp
  refine ⟨zs, ?_⟩
  have hX : dXV exL (dVar 3) (Ee v y4 y5) [.lst zs] = .ok (.p v) [.lst zs] := by
    rw [x_xv]
    show (if 0 ∈ exL then Ev.R.ok (D.p v) [O.lst zs] else .bad) = _
    rw [if_pos i3]
  have hR1 : dFn gRepr (dCons (dXV exL (dVar 3)) dNil) (Ee v y4 y5) [.lst zs] = .ok (.p (.str t)) [.lst zs] := by
    rw [x_fn, x_cons, hX]
    simp [g1]
  have hR2 : dFn gRepr (dCons (dVar 1) dNil) (Ee v y4 y5) [.lst zs] = .ok (.p (.str t)) [.lst zs] := by simp [g1]
  have hM : dCall 1 d_law_marks (dCons (dVar 3) dNil) (Ee v y4 y5) [.lst zs] = .ok (.p (.lst (marks 0))) [.lst zs] := by simp [m0]
  have hB : b_law_right [some (.ref 0), none, none, none, none, none, none] [.lst xs] = .rt (.p (.bl true)) [.lst zs] := by
    have s1 : dAsg (dCall 1 d_law_odd (dCons (dVar 0) dNil)) (tName 1) [some (.ref 0), none, none, none, none, none, none] [.lst xs] = .nx [some (.ref 0), some (.p v0), none, none, none, none, none] [.lst us] := by simp [e1]
    have s2 : dAsg (dIf (dTst (dOp gEq (dCall 2 d_law_take (dCons (dVar 0) (dCons (dC (.int 2)) dNil))) (dC (.int 0)))) (dCall 2 d_law_bent (dCons (dVar 0) (dCons (dVar 1) dNil))) (dVar 1)) (tName 1) [some (.ref 0), some (.p v0), none, none, none, none, none] [.lst us] = .nx [some (.ref 0), some (.p v), none, none, none, none, none] [.lst zs] := by
      rw [x_asg, e3]; rfl
    have s3 : dPar 2 3 (dCons (dCall 1 d_law_all (dCons (dVar 1) dNil)) (dCons (dExc 0 (dCons (dVar 1) dNil)) dNil)) [some (.ref 0), some (.p v), none, none, none, none, none] [.lst zs] = .nx (Ee v none none) [.lst zs] := by simp [a]
    have s4 : dFor (dEnum (dCons (dVar 2) dNil)) (Ev.tTup 2 (tsCons (tName 4) (tsCons (tName 5) tsNil))) loopB (Ee v none none) [.lst zs] = .nx (Ee v y4 y5) [.lst zs] := by
      have es : dEnum (dCons (dVar 2) dNil) (Ee v none none) [.lst zs] = .ok (enums (excsOf v)) [.lst zs] := by simp
      rw [x_for, es, Ev.R.bindS_ok]
      exact lp
    rw [right_eq, x_seq, s1, Ev.RS.bind_nx, x_seq, s2, Ev.RS.bind_nx, x_seq, s3, Ev.RS.bind_nx, x_seq, s4, Ev.RS.bind_nx]
    simp only [x_seq, x_sif, x_or, x_not, x_tst, x_op, x_c, hM, hR1, hR2, Ev.R.bind_ok, op2_p, in_plain v, ht]
    simp [i1, i2, hR1, hR2, ht, g1, i3]
  have e0 : [D.ref 0].map some ++ List.replicate (7 - [D.ref 0].length) (none : Option D) = [some (.ref 0), none, none, none, none, none, none] := rfl
  unfold d_law_right dDef
  rw [e0, hB]
  rfl
theorem rightC {xs : List P} (h : Pot 0 (.lst xs)) : ∃ ys, callF d_law_right [.ref 0] [.lst xs] = .ok (.p (.bl true)) [.lst ys] := by
  obtain ⟨ys, e⟩ := right_ok h
  exact ⟨ys, callP1 e⟩
/-! ### the pot of a place -/
theorem pow18 : gPow (.int 10) (.int 18) = some (.int 1000000000000000000) := by rfl
theorem pow60 : gPow (.int 10) (.int 60) = some (.int (10 ^ 60)) := by rfl
theorem pow300 : gPow (.int (10 ^ 60)) (.int 5) = some (.int ((10 ^ 60) ^ 5)) := by rfl
theorem big_lt {x : Int} (h0 : 0 ≤ x) (h : x < (10 ^ 60) ^ 5) : x.natAbs < 2 ^ 1000 := by
  have : ((10 : Int) ^ 60) ^ 5 < 2 ^ 1000 := by decide +kernel
  omega
@[simp] theorem cutR0 (xs : List P) : cutR 0 (.ref 0) [.lst xs] = .ok (.ref 0) [.lst xs] := rfl
theorem pot_ok (ns : List Int) (p : Nat) (hp : p < 2 ^ 20) : ∃ xs, Pot 0 (.lst xs) ∧ d_law_pot [.p (.lst (ns.map P.int)), .p (.int p)] [] = .ok (.ref 0) [.lst xs] := by
  -- the cell
  have cell : ∃ c : Int, (dIf (dTst (dOp gLt (dVar 1) (dFn gLen (dCons (dVar 0) dNil)))) (dOp ixP (dVar 0) (dVar 1)) (dOp gAdd (dOp gMul (dC (.int 73)) (dVar 1)) (dC (.int 37)))) [some (.p (.lst (ns.map P.int))), some (.p (.int p)), none, none, none] [] = .ok (.p (.int c)) [] := by
    by_cases h : p < ns.length
    · have e : ixP (.lst (ns.map P.int)) (.int (p : Int)) = some (.int ns[p]) := by rw [ix_lst]; simp [h]
      exact ⟨ns[p], by simp [e, h]⟩
    · have m : gMul (.int 73) (.int (p : Int)) = some (.int (73 * p)) := mulP 7 21 (by decide) (by omega)
      exact ⟨73 * p + 37, by simp [m, h]⟩
  obtain ⟨c, hc⟩ := cell
  generalize hA : (if c < 0 then -c else c) = A at *
  have A0 : 0 ≤ A := by rw [← hA]; split <;> omega
  have pos : (0 : Int) < (10 ^ 60) ^ 5 := by decide +kernel
  have d1 : gMod (.int A) (.int ((10 ^ 60) ^ 5)) = some (.int (A % (10 ^ 60) ^ 5)) := modP pos
  have b0 := Int.emod_nonneg A (show ((10 : Int) ^ 60) ^ 5 ≠ 0 by omega)
  have b1 := big_lt b0 (Int.emod_lt_of_pos A pos)
  generalize hB : A % (10 ^ 60) ^ 5 = B at *
  obtain ⟨wv, hw⟩ : ∃ wv : Int, wv = if decide ((1000000000000000000 : Int) ≤ A) = true then 1 else 0 := ⟨_, rfl⟩
  have m1 : gMul (.int B) (.int wv) = some (.int (B * wv)) := mulP 1000 2 b1 (by rw [hw]; split <;> decide)
  have d2 : gMod (.int c) (.int 2305843009213693951) = some (.int (c % 2305843009213693951)) := modP (by decide)
  have s0 := Int.emod_nonneg c (show (2305843009213693951 : Int) ≠ 0 by decide)
  have s1 := Int.emod_lt_of_pos c (show (0 : Int) < 2305843009213693951 by decide)
  generalize hS : c % 2305843009213693951 = S at *
  have m2 : gMul (.int S) (.int 70501) = some (.int (S * 70501)) := mulP 61 17 (by omega) (by decide)
  have m3 : gMul (.int 7297) (.int (p : Int)) = some (.int (7297 * p)) := mulP 13 21 (by decide) (by omega)
  have m4 : gMul (.int (7297 * (p : Int))) (.int (p : Int)) = some (.int (7297 * p * p)) := mulP 40 21 (by omega) (by omega)
  have d3 : gMod (.int (S * 70501 + 7297 * p * p + 151)) (.int 2305843009213693921) = some (.int ((S * 70501 + 7297 * p * p + 151) % 2305843009213693921)) := modP (by decide)
  have t0 := Int.emod_nonneg (S * 70501 + 7297 * p * p + 151) (show (2305843009213693921 : Int) ≠ 0 by decide)
  have t1 := Int.emod_lt_of_pos (S * 70501 + 7297 * p * p + 151) (show (0 : Int) < 2305843009213693921 by decide)
  refine ⟨[.int (B * wv), .int ((S * 70501 + 7297 * p * p + 151) % 2305843009213693921), .int 0], ⟨_, _, 0, rfl, t0, by omega, by decide, by decide⟩, ?_⟩
  have e0 : [D.p (.lst (ns.map P.int)), D.p (.int (p : Int))].map some ++ List.replicate (5 - [D.p (.lst (ns.map P.int)), D.p (.int (p : Int))].length) (none : Option D) = [some (.p (.lst (ns.map P.int))), some (.p (.int p)), none, none, none] := rfl
  have st2 : dAsg (dOp gMul (dOp gMod (dFn gInt (dCons (dFn gAbs (dCons (dVar 2) dNil)) dNil)) (dOp gPow (dOp gPow (dC (.int 10)) (dC (.int 60))) (dC (.int 5)))) (dFn gInt (dCons (dOp gGe (dFn gAbs (dCons (dVar 2) dNil)) (dOp gPow (dC (.int 10)) (dC (.int 18)))) dNil))) (tName 3)
      [some (.p (.lst (ns.map P.int))), some (.p (.int p)), some (.p (.int c)), none, none] [] = .nx [some (.p (.lst (ns.map P.int))), some (.p (.int p)), some (.p (.int c)), some (.p (.int (B * wv))), none] [] := by
    simp only [x_asg, x_op, x_fn, x_cons, x_nil, x_var, x_c, List.getElem?_cons_succ, List.getElem?_cons_zero, Ev.R.bind_ok, Ev.R.bindS_ok, fnK_1, abs_i, int_i, hA, op2_p, pow60, pow300, pow18, d1, geP, int_b, ← hw, m1]
    rfl
  have st3 : dAsg (dOp gMod (dFn gInt (dCons (dVar 2) dNil)) (dC (.int 2305843009213693951))) (tName 4) [some (.p (.lst (ns.map P.int))), some (.p (.int p)), some (.p (.int c)), some (.p (.int (B * wv))), none] [] =
      .nx [some (.p (.lst (ns.map P.int))), some (.p (.int p)), some (.p (.int c)), some (.p (.int (B * wv))), some (.p (.int S))] [] := by
    simp [d2]
  unfold d_law_pot dDefN
  rw [e0]
  unfold b_law_pot
  rw [x_seq, x_asg, hc, Ev.R.bindS_ok]
  show (match (Ev.RS.bind (.nx [some (.p (.lst (ns.map P.int))), some (.p (.int p)), some (.p (.int c)), none, none] []) _) with
    | .nx _ s' => _
    | .rt d s' => _
    | .exc c v _ s' => _
    | _ => _) = _
  rw [Ev.RS.bind_nx, x_seq, st2, Ev.RS.bind_nx, x_seq, st3, Ev.RS.bind_nx]
  simp [m2, m3, m4, d3]
/-! ### the law -/
theorem callR1 {g : DF} {s : Sto} {xs ys : List P} {z : P} (h : g [.ref 0] [.lst xs] = .ok (.p z) [.lst ys]) : callF g [.ref s.length] (s ++ [.lst xs]) = .ok (.p z) (s ++ [.lst ys]) := by
  have e1 : locs [D.ref s.length] = [s.length] := rfl
  have e2 : subs (s ++ [.lst xs]) [s.length] = some [.lst xs] := by simp [subs, flat]
  have e3 : [D.ref s.length].map (ren [s.length]) = [.ref 0] := by simp [ren]
  unfold callF
  rw [e1, e2, e3]
  dsimp only
  rw [h]
  simp [flat, wr]
theorem callN2 {g : DF} {s : Sto} {x y : P} {ys : List P} (h : g [.p x, .p y] [] = .ok (.ref 0) [.lst ys]) : callF g [.p x, .p y] s = .ok (.ref s.length) (s ++ [.lst ys]) := by
  have e2 : subs s (locs [D.p x, D.p y]) = some [] := rfl
  have e : [D.p x, D.p y].map (ren (locs [D.p x, D.p y])) = [.p x, .p y] := rfl
  unfold callF
  rw [e2, e]
  dsimp only
  rw [h]; rfl
theorem comp_ok (ns : List Int) : ∀ (is : List Nat), (∀ i ∈ is, i < 2 ^ 20) → ∀ s : Sto, ∃ s' : Sto, compL (tName 1) dYes (dCall 1 d_law_right (dCons (dCall 2 d_law_pot (dCons (dVar 0) (dCons (dVar 1) dNil))) dNil)) [1] (is.map fun (j : Nat) => P.int (0 + (j : Int))) [some (.p (.lst (ns.map P.int))), none] s = .ok (is.map fun _ => .bl true) (s ++ s')
  | [], _, s => ⟨[], by simp [compL]⟩
  | i :: is, h, s => by
    obtain ⟨xs, p1, e1⟩ := pot_ok ns i (h i List.mem_cons_self)
    obtain ⟨ys, e2⟩ := right_ok p1
    obtain ⟨s', e3⟩ := comp_ok ns is (fun j m => h j (List.mem_cons_of_mem _ m)) (s ++ [.lst ys])
    have c1 := callN2 (s := s) e1
    have c2 := callR1 (s := s) e2
    refine ⟨.lst ys :: s', ?_⟩
    rw [List.map_cons]
    unfold compL
    simp [tName, wipeE, dYes, c1, c2]
    simp at e3
    rw [e3]; simp
theorem cells_ok (ns : List Int) (hn : ns.length ≤ 1000) : ∃ k : Nat, 1 ≤ k ∧ k ≤ 4 ∧ d_law_cells [.p (.lst (ns.map P.int)), .p (.int 4)] [] = .ok (.p (.lst (rng 0 k))) [] := by
  have h : ∀ n : Nat, n ≤ 1000 → ∃ k : Nat, 1 ≤ k ∧ k ≤ 4 ∧ (if (if (n : Int) < 4 then (n : Int) else 4) > 1 then (if (n : Int) < 4 then (n : Int) else 4) else 1) = (k : Int) := fun n _ => by
    by_cases a : n < 4
    · by_cases b : 1 < n
      · exact ⟨n, by omega, by omega, by rw [if_pos (by omega : (n : Int) < 4), if_pos (by omega)]⟩
      · exact ⟨1, by omega, by omega, by rw [if_pos (by omega : (n : Int) < 4), if_neg (by omega)]; rfl⟩
    · exact ⟨4, by omega, by omega, by rw [if_neg (by omega : ¬ (n : Int) < 4)]; rfl⟩
  obtain ⟨k, k1, k2, e⟩ := h ns.length hn
  refine ⟨k, k1, k2, ?_⟩
  have g1 : gMin2 [.int 4, .int (ns.length : Int)] = some (.int (if (ns.length : Int) < 4 then (ns.length : Int) else 4)) := rfl
  have g2 : gMax2 [.int 1, .int (if (ns.length : Int) < 4 then (ns.length : Int) else 4)] = some (.int k) := by
    rw [← e]; rfl
  have b1 : -(2 ^ 62 : Int) ≤ (k : Int) := by omega
  have b2 : (k : Int) ≤ 16777216 := by omega
  have gl : gLen [.lst (ns.map P.int)] = some (.int (ns.length : Int)) := by simp
  have ev : dFn gMax2 (dCons (dC (.int 1)) (dCons (dFn gMin2 (dCons (dVar 1) (dCons (dFn gLen (dCons (dVar 0) dNil)) dNil))) dNil)) [some (.p (.lst (ns.map P.int))), some (.p (.int 4))] [] = .ok (.p (.int k)) [] := by
    simp only [x_fn, x_cons, x_nil, x_var, x_c, List.getElem?_cons_succ, List.getElem?_cons_zero, Ev.R.bind_ok, fnK_1, fnK_2, gl, g1, g2]
  have e0 : [D.p (.lst (ns.map P.int)), D.p (.int 4)].map some ++ List.replicate (2 - [D.p (.lst (ns.map P.int)), D.p (.int 4)].length) (none : Option D) = [some (.p (.lst (ns.map P.int))), some (.p (.int 4))] := rfl
  unfold d_law_cells dDef
  rw [e0]
  unfold b_law_cells
  rw [x_ret, x_rgL, ev, Ev.R.bind_ok]
  dsimp only
  rw [if_pos ⟨b1, b2⟩, Ev.R.bindS_ok]
  rfl
theorem all_true (k : Nat) : gAll [.lst ((List.range k).map fun _ => .bl true)] = some (.bl true) := by
  have h : ∀ is : List Nat, blAll (is.map fun _ => P.bl true) = some (is.map fun _ => true) := fun is => by
    induction is with
    | nil => rfl
    | cons i is ih => show (blAll (is.map fun _ => P.bl true)).map (true :: ·) = _; rw [ih]; rfl
  unfold gAll
  dsimp only
  rw [h]
  simp
theorem cut_all (s : Sto) (ys : List P) : Ev.cutD 0 (.ref s.length) (s ++ [.lst ys]) = .ok (.p (.lst ys)) [] := by
  unfold Ev.cutD
  have c : shut 0 [] = true := rfl
  have e : (s ++ [O.lst ys])[s.length]? = some (.lst ys) := by simp
  simp [c, e, O.pur]
theorem law_ok (ns : List Int) (hn : ns.length ≤ 1000) : ∃ s', d_law [.p (.lst (ns.map P.int))] [] = .ok (.p (.bl true)) s' := by
  obtain ⟨k, k1, k2, e⟩ := cells_ok ns hn
  have c := callV2 (s := []) e
  obtain ⟨s', e2⟩ := comp_ok ns (List.range k) (fun i m => by have := List.mem_range.mp m; omega) []
  have hr : rng 0 k = (List.range k).map fun j : Nat => P.int (0 + (j : Int)) := rfl
  rw [← hr] at e2
  have hl : (rng 0 k).length = k := by simp [rng]
  refine ⟨[], ?_⟩
  have es : dSrcL (dCall 2 d_law_cells (dCons (dVar 0) (dCons (dC (.int 4)) dNil))) [some (.p (.lst (ns.map P.int))), none] [] = .ok (rng 0 k) [] := by simp [c]
  have ec : (dVal (dNew (dComp (dSrcL (dCall 2 d_law_cells (dCons (dVar 0) (dCons (dC (.int 4)) dNil)))) (tName 1) dYes (dCall 1 d_law_right (dCons (dCall 2 d_law_pot (dCons (dVar 0) (dCons (dVar 1) dNil))) dNil)) [1]))) [some (.p (.lst (ns.map P.int))), none] [] = .ok (.p (.lst ((List.range k).map fun _ => .bl true))) [] := by
    rw [x_val, x_new, x_comp, es, Ev.R.bind_ok, if_pos (by rw [hl]; omega), e2]
    exact cut_all s' _
  have e0 : [D.p (.lst (ns.map P.int))].map some ++ List.replicate (2 - [D.p (.lst (ns.map P.int))].length) (none : Option D) = [some (.p (.lst (ns.map P.int))), none] := rfl
  unfold d_law dDef
  rw [e0]
  unfold b_law
  rw [x_ret, x_fn, x_cons, ec, Ev.R.bind_ok, x_nil, Ev.R.bind_ok, Ev.R.bind_ok, fnK_1, all_true]
  rfl
end Lw

set_option Elab.async false
set_option linter.all false
set_option maxRecDepth 100000
set_option maxHeartbeats 0
namespace Lw
open PySem PySem.Spec PyProof.Rows L2 Ev
/-! ### the head -/
def nl0 : List PySem.Str := ["RingError", "BadBook", "NoPerson", "NoThing", "BadChoice", "BadRow", "Round", "Full", "NoSaying", "OtherPeople", "BadPairs", "NoOrder", "BadTelling", "BadThings", "OtherBook"]
def nl1 : List PySem.Str := ["NotSure", "TooManyOpen", "NotAllBrought", "TooManyPeople", "BadName", "Crowded", "NoneSure", "Waits", "NothingToUndo", "NothingToRedo", "NoTrial", "BadJournal", "BadLine", "_law_pot", "_law_take"]
def nl2 : List PySem.Str := ["_law_of", "_law_cells", "_law_odd", "_law_bent", "_law_all", "_law_marks", "_law_right"]
def nl : List PySem.Str := nl0 ++ nl1 ++ nl2
def file : PySem.Str := "/claim/cut.py"
abbrev qf : PySem.W.Frag → Bool := qOf file frees gnames exL
abbrev hk : PySem.W.Hook := hookX 5 qf fns
def ob (s : PySem.W.SharedT) : AlX := obsXG 5 qf fns (HandSHeadRun.getT s)
theorem ob_eq (s : PySem.W.SharedT) : ob s = hk.obs s.abs := obsXG_eq (HandSHeadRun.getT_eq s)
theorem run (w : World) : HandSHeadRun.RunEq R (PySem.W.view R.prog [39]) hk ob 20000 nl w := by
  intro os
  kernel_rfl
theorem run_law {P : Program} {w : World} {K : PySem.W.Frag} {mg : Str → Option Value} {T : Tb} {base : Heap} (Fc : Facts P w K mg T) : Has P w K mg base T "law" ["_law_script"] 19 d_law := by
  have h_law_take := ok_law_take (base := base) Fc 
  have h_law_of := ok_law_of (base := base) Fc h_law_take
  have h_law_odd := ok_law_odd (base := base) Fc h_law_of
  have h_law_bent := ok_law_bent (base := base) Fc h_law_take h_law_of h_law_odd
  have h_law_all := ok_law_all (base := base) Fc 
  have h_law_marks := ok_law_marks (base := base) Fc 
  have h_law_right := ok_law_right (base := base) Fc h_law_odd h_law_take h_law_bent h_law_all h_law_marks
  have h_law_pot := ok_law_pot (base := base) Fc 
  have h_law_cells := ok_law_cells (base := base) Fc 
  exact ok_law (base := base) Fc h_law_cells h_law_pot h_law_right
theorem roomG : RmG 19 callerA := ⟨⟨rfl, by decide, by decide⟩, rfl⟩
theorem len63 {ns : List Int} (h : ns.length ≤ 63) : ∃ s', d_law [.p (.lst (ns.map P.int))] [] = .ok (.p (.bl true)) s' := law_ok ns (by omega)
end Lw
open PySem PySem.W PySem.Calls PyProof.Rows
theorem PySem.Challenge.cw_queuerings_k00_errors_holds : PySem.Challenge.rw_queuerings_k00_errors.Holds := by
  w_on; o_law
  refine HandSHeadRun.head_any (r := OpenLaw.row PySem.Challenge.rw_queuerings_k00_errors) (q := view (OpenLaw.row PySem.Challenge.rw_queuerings_k00_errors).prog [39]) (H := Lw.hk) (ob := Lw.ob) (M := 20000) (loose := Lw.nl) (kwd := []) (d := HandSHeadRun.topDef (OpenLaw.row PySem.Challenge.rw_queuerings_k00_errors).prog 39) Lw.ob_eq
    (by kernel_rfl) (fun s => by kernel_rfl) Lw.run (by kernel_rfl) (by kernel_rfl) (by kernel_rfl) (by rfl) (by first | assumption | decide +kernel) (by decide +kernel) ⟨rfl, rfl, rfl, rfl, rfl, by decide +kernel⟩ ?hw ?hc
  case hw => w_witness2
  case hc =>
    refine Ev.walk_ofG (l := PySem.Challenge.rw_queuerings_k00_errors) (n := 63) (k := 19) (x := "_law_script") (fns := Lw.fns) (qf := Lw.qf) (g := Lw.d_law) rfl (by decide) (by kernel_rfl) Lw.roomG ?F (fun ns h => Lw.len63 h)
    intro w mg fa h K KX c G hmg0
    have hmg : mg ("law" : PySem.Str) = some (.ref fa) := by
      have e : (HandSHeadRun.topDef (OpenLaw.row PySem.Challenge.rw_queuerings_k00_errors).prog 39).name = ("law" : PySem.Str) := by kernel_rfl
      rw [← e]
      exact hmg0
    have Fc : Lw.Facts (PySem.Challenge.rw_queuerings_k00_errors).prog w K mg (Ev.tbOf K) := Ev.FactsG.of (by kernel_rfl) (by kernel_rfl) KX G c
    have ea := hmg.symm.trans (Fc.gl 9 (x := "law") rfl)
    cases ea
    refine ⟨Ev.tbOf K, fun base hb hg => ?_⟩
    obtain ⟨fd, _, b, F⟩ := Lw.run_law (base := base) Fc
    exact ⟨fd, b, F⟩
